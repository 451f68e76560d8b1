import PyProof.Rows.All
import Wide.All
import OpenK.AllK
import Wide.FinOn
import PySem.Challenge.RW_turnheaps_k04_whole_shapes
import HandS.ForMost
import HandS.ForExc
import HandS.Defaults
import HandS.WideBits
import HandS.Gcd
import HandS.IsInst
import HandS.TupAny
import HandS.TupMul
import HandS.Deep
import HandS.Style
import HandS.Flow
import HandS.TupLe
import HandS.SetFor
import HandS.SortInts
import KE.KMathGC
import HandS.HeadHook4
import HandS.Lambda
import HandS.Small
import HandS.AnyAll
import HandS.GenList
import HandS.DictTup
import HandS.HeadWalk
import HandS.Head0
import HandS.Head1
import HandS.Head2
import HandS.Star
import HandS.Conv
set_option Elab.async false
set_option linter.all false
set_option maxRecDepth 100000
/-! Xt: each def of the text as a plain function over data and a small memory; the promise of a def says that it gives what its function gives. -/
namespace Xt
open PySem PySem.Spec PyProof.Rows L2

/-! ### data -/
/-- what a slot holds: data that never change; an object of the memory; a tuple with such in it; nothing that is told -/
inductive Dv where
  | g (x : PyData)
  | r (i : Nat)
  | t (xs : List Dv)
  | u
/-- an object that may change -/
inductive MO where
  | lst (xs : List Dv)
  | dct (kvs : List (Int × Dv))
  | ins (c : Str) (fs : List (Str × Dv))
  | dead
abbrev Mem := List MO
structure Exn where
  cls : Str
  ix : Option PyData
inductive RE (α : Type) where
  | fail
  | ok (a : α) (M : Mem)
  | ex (c : Exn) (M : Mem)
abbrev Co (α : Type) := Mem → RE α
def bnd {α β : Type} (f : Co α) (k : α → Co β) : Co β := fun M => match f M with
  | .fail => .fail
  | .ok a M' => k a M'
  | .ex c M' => .ex c M'
def rt {α : Type} (a : α) : Co α := fun M => .ok a M
def fl {α : Type} : Co α := fun _ => .fail
def ofO {α : Type} : Option α → Co α
  | some a => rt a
  | none => fl
/-- what stands in the memory at i -/
def atM {α : Type} (i : Nat) (k : MO → Co α) : Co α := fun M => match M[i]? with
  | some mo => k mo M
  | none => .fail
abbrev Slots := List Dv

/-! ### how data stand in the abstract heap -/
/-- a list that does not change any more: locked, or written by the top -/
def LsF (K : PySem.W.Frag) (H : Hp) (a : Addr) (xs : List V) : Prop :=
  (∃ o, H a = some (.frz o (.lst xs))) ∨ ∃ (o : Obj) (its : Array Value) (n : Nat), K.lookup a = some o ∧ o.cls = .type "list" ∧ o.dict = none ∧ o.data = .seq its n ∧ its.size ≤ sizeLine ∧ Vals xs its.toList
theorem LsF.sq {K : PySem.W.Frag} {H : Hp} {a : Addr} {xs : List V} (h : LsF K H a xs) : SqL K H a xs := by
  rcases h with ⟨o, h⟩ | h
  · exact .inl (.inr ⟨o, h⟩)
  · exact .inr h
mutual
inductive RpV (K : PySem.W.Frag) (H : Hp) : V → PyData → Prop
  | non : RpV K H .non .none
  | bl (b : Bool) : RpV K H (.bl b) (.bool b)
  | int (i : Int) : RpV K H (.int i) (.int i)
  | str (x : Str) : RpV K H (.str x) (.str x)
  | lst {a : Addr} {xs : List V} {ds : List PyData} : LsF K H a xs → RpVs K H xs ds → RpV K H (.ref a) (.list ds)
  | tup {a : Addr} {xs : List V} {ds : List PyData} : H a = some (.tup xs) → RpVs K H xs ds → RpV K H (.ref a) (.tuple ds)
  | dct {a : Addr} {o : Obj} {kvs : List (Key × V)} {kds : List (PyData × PyData)} : H a = some (.frz o (.dK kvs)) → RpKs K H kvs kds → RpV K H (.ref a) (.dict kds)
inductive RpVs (K : PySem.W.Frag) (H : Hp) : List V → List PyData → Prop
  | nil : RpVs K H [] []
  | cons {v : V} {vs : List V} {d : PyData} {ds : List PyData} : RpV K H v d → RpVs K H vs ds → RpVs K H (v :: vs) (d :: ds)
inductive RpKs (K : PySem.W.Frag) (H : Hp) : List (Key × V) → List (PyData × PyData) → Prop
  | nil : RpKs K H [] []
  | cons {i : Int} {v : V} {kvs : List (Key × V)} {d : PyData} {kds : List (PyData × PyData)} : RpV K H v d → RpKs K H kvs kds → RpKs K H ((.inl i, v) :: kvs) ((.int i, d) :: kds)
end
/-- what is locked and what is a tuple stays -/
structure Keep (H H' : Hp) : Prop where
  frz : ∀ a o u, H a = some (.frz o u) → H' a = some (.frz o u)
  tup : ∀ a xs, H a = some (.tup xs) → H' a = some (.tup xs)
theorem Keep.refl (H : Hp) : Keep H H := ⟨fun _ _ _ h => h, fun _ _ h => h⟩
theorem Keep.trans {H H1 H2 : Hp} (a : Keep H H1) (b : Keep H1 H2) : Keep H H2 := ⟨fun x o u h => b.frz x o u (a.frz x o u h), fun x o h => b.tup x o (a.tup x o h)⟩
section
variable {K : PySem.W.Frag} {H H' : Hp}
theorem LsF.mono {a : Addr} {xs : List V} (k : Keep H H') (h : LsF K H a xs) : LsF K H' a xs := by
  rcases h with ⟨o, h⟩ | h
  · exact .inl ⟨o, k.frz _ _ _ h⟩
  · exact .inr h
mutual
theorem RpV.mono (k : Keep H H') : ∀ {v : V} {d : PyData}, RpV K H v d → RpV K H' v d
  | _, _, .non => .non
  | _, _, .bl b => .bl b
  | _, _, .int i => .int i
  | _, _, .str x => .str x
  | _, _, .lst h r => .lst (h.mono k) (RpVs.mono k r)
  | _, _, .tup h r => .tup (k.tup _ _ h) (RpVs.mono k r)
  | _, _, .dct h r => .dct (k.frz _ _ _ h) (RpKs.mono k r)
theorem RpVs.mono (k : Keep H H') : ∀ {vs : List V} {ds : List PyData}, RpVs K H vs ds → RpVs K H' vs ds
  | _, _, .nil => .nil
  | _, _, .cons h r => .cons (RpV.mono k h) (RpVs.mono k r)
theorem RpKs.mono (k : Keep H H') : ∀ {vs : List (Key × V)} {ds : List (PyData × PyData)}, RpKs K H vs ds → RpKs K H' vs ds
  | _, _, .nil => .nil
  | _, _, .cons h r => .cons (RpV.mono k h) (RpKs.mono k r)
end
theorem RpVs.length : ∀ {vs : List V} {ds : List PyData}, RpVs K H vs ds → vs.length = ds.length
  | _, _, .nil => rfl
  | _, _, .cons _ r => by rw [List.length_cons, List.length_cons, RpVs.length r]
theorem RpKs.length : ∀ {vs : List (Key × V)} {ds : List (PyData × PyData)}, RpKs K H vs ds → vs.length = ds.length
  | _, _, .nil => rfl
  | _, _, .cons _ r => by rw [List.length_cons, List.length_cons, RpKs.length r]
/-- the library's own reading of such data (no dict in it) -/
def flat : PyData → Bool
  | .dict _ => false
  | _ => true
mutual
def noDct : PyData → Bool
  | .dict _ => false
  | .list xs => noDcts xs
  | .tuple xs => noDcts xs
  | _ => true
def noDcts : List PyData → Bool
  | [] => true
  | x :: xs => noDct x && noDcts xs
end
mutual
theorem RpV.dp : ∀ {v : V} {d : PyData}, RpV K H v d → noDct d = true → Dp K H v d
  | _, _, .non, _ => .non
  | _, _, .bl b, _ => .bl b
  | _, _, .int i, _ => .int i
  | _, _, .str x, _ => .str x
  | _, _, .lst h r, z => .lst h.sq (RpVs.dp r (by rw [noDct] at z; exact z))
  | _, _, .tup h r, z => .tup (.inl (.inl h)) (RpVs.dp r (by rw [noDct] at z; exact z))
  | _, _, .dct h r, z => by rw [noDct] at z; cases z
theorem RpVs.dp : ∀ {vs : List V} {ds : List PyData}, RpVs K H vs ds → noDcts ds = true → DpAll K H vs ds
  | _, _, .nil, _ => .nil
  | _, _, .cons h r, z => by
    rw [noDcts] at z
    obtain ⟨z1, z2⟩ := Bool.and_eq_true_iff.mp z
    exact .cons (RpV.dp h z1) (RpVs.dp r z2)
end
end

/-! ### slots, memory -/
/-- the written part, the module's names, the tables of code objects -/
structure Gx where
  K : PySem.W.Frag
  mg : Str → Option Value
  tbs : List Addr
mutual
inductive RpD (G : Gx) (ι : List Addr) (H : Hp) : V → Dv → Prop
  | g {v : V} {x : PyData} : RpV G.K H v x → RpD G ι H v (.g x)
  | r {a : Addr} {i : Nat} : ι[i]? = some a → RpD G ι H (.ref a) (.r i)
  | t {a : Addr} {vs : List V} {xs : List Dv} : H a = some (.tup vs) → RpDs G ι H vs xs → RpD G ι H (.ref a) (.t xs)
inductive RpDs (G : Gx) (ι : List Addr) (H : Hp) : List V → List Dv → Prop
  | nil : RpDs G ι H [] []
  | cons {v : V} {vs : List V} {d : Dv} {ds : List Dv} : RpD G ι H v d → RpDs G ι H vs ds → RpDs G ι H (v :: vs) (d :: ds)
end
inductive RpI (G : Gx) (ι : List Addr) (H : Hp) : List (Key × V) → List (Int × Dv) → Prop
  | nil : RpI G ι H [] []
  | cons {i : Int} {v : V} {kvs : List (Key × V)} {d : Dv} {kds : List (Int × Dv)} : RpD G ι H v d → RpI G ι H kvs kds → RpI G ι H ((.inl i, v) :: kvs) ((i, d) :: kds)
inductive RpF (G : Gx) (ι : List Addr) (H : Hp) : List (Str × V) → List (Str × Dv) → Prop
  | nil : RpF G ι H [] []
  | cons {f : Str} {v : V} {kvs : List (Str × V)} {d : Dv} {kds : List (Str × Dv)} : RpD G ι H v d → RpF G ι H kvs kds → RpF G ι H ((f, v) :: kvs) ((f, d) :: kds)
section
variable {G : Gx} {ι ι' : List Addr} {H H' : Hp}
theorem pre_get {ι ι' : List Addr} (p : ι <+: ι') {i : Nat} {a : Addr} (h : ι[i]? = some a) : ι'[i]? = some a := by
  obtain ⟨t, rfl⟩ := p
  rw [List.getElem?_append_left (List.getElem?_eq_some_iff.mp h).1]
  exact h
mutual
theorem RpD.mono (p : ι <+: ι') (k : Keep H H') : ∀ {v : V} {d : Dv}, RpD G ι H v d → RpD G ι' H' v d
  | _, _, .g h => .g (h.mono k)
  | _, _, .r h => .r (pre_get p h)
  | _, _, .t h r => .t (k.tup _ _ h) (RpDs.mono p k r)
theorem RpDs.mono (p : ι <+: ι') (k : Keep H H') : ∀ {vs : List V} {ds : List Dv}, RpDs G ι H vs ds → RpDs G ι' H' vs ds
  | _, _, .nil => .nil
  | _, _, .cons h r => .cons (RpD.mono p k h) (RpDs.mono p k r)
end
theorem RpI.mono (p : ι <+: ι') (k : Keep H H') {vs : List (Key × V)} {ds : List (Int × Dv)} (h : RpI G ι H vs ds) : RpI G ι' H' vs ds := by
  induction h with
  | nil => exact .nil
  | cons h _ ih => exact .cons (h.mono p k) ih
theorem RpF.mono (p : ι <+: ι') (k : Keep H H') {vs : List (Str × V)} {ds : List (Str × Dv)} (h : RpF G ι H vs ds) : RpF G ι' H' vs ds := by
  induction h with
  | nil => exact .nil
  | cons h _ ih => exact .cons (h.mono p k) ih
theorem RpDs.length : ∀ {vs : List V} {ds : List Dv}, RpDs G ι H vs ds → vs.length = ds.length
  | _, _, .nil => rfl
  | _, _, .cons _ r => by rw [List.length_cons, List.length_cons, RpDs.length r]
theorem RpDs.append : ∀ {vs ws : List V} {ds es : List Dv}, RpDs G ι H vs ds → RpDs G ι H ws es → RpDs G ι H (vs ++ ws) (ds ++ es)
  | _, _, _, _, .nil, h => h
  | _, _, _, _, .cons h r, z => .cons h (RpDs.append r z)
theorem RpDs.get : ∀ {vs : List V} {ds : List Dv} {i : Nat} {d : Dv}, RpDs G ι H vs ds → ds[i]? = some d → ∃ v, vs[i]? = some v ∧ RpD G ι H v d
  | _, _, _, _, .nil, h => by simp at h
  | _, _, 0, _, .cons h _, e => by
    simp at e
    subst e
    exact ⟨_, rfl, h⟩
  | _, _, i + 1, _, .cons _ r, e => by
    obtain ⟨v, h1, h2⟩ := RpDs.get (i := i) r (by simpa using e)
    exact ⟨v, by simpa using h1, h2⟩
theorem RpDs.set {v : V} {d : Dv} (h : RpD G ι H v d) : ∀ {vs : List V} {ds : List Dv} (i : Nat), RpDs G ι H vs ds → RpDs G ι H (vs.set i v) (ds.set i d)
  | _, _, _, .nil => .nil
  | _, _, 0, .cons _ r => .cons h r
  | _, _, i + 1, .cons q r => .cons q (RpDs.set h i r)
theorem RpDs.take : ∀ {vs : List V} {ds : List Dv} (n : Nat), RpDs G ι H vs ds → RpDs G ι H (vs.take n) (ds.take n)
  | _, _, 0, _ => .nil
  | _, _, _ + 1, .nil => .nil
  | _, _, n + 1, .cons h r => .cons h (RpDs.take n r)
theorem RpDs.drop : ∀ {vs : List V} {ds : List Dv} (n : Nat), RpDs G ι H vs ds → RpDs G ι H (vs.drop n) (ds.drop n)
  | _, _, 0, h => h
  | _, _, _ + 1, .nil => .nil
  | _, _, n + 1, .cons _ r => RpDs.drop n r
theorem RpDs.snoc {vs : List V} {ds : List Dv} {v : V} {d : Dv} (h : RpDs G ι H vs ds) (z : RpD G ι H v d) : RpDs G ι H (vs ++ [v]) (ds ++ [d]) := h.append (.cons z .nil)
/-- data as slots' values and back -/
theorem RpVs.ds : ∀ {vs : List V} {xs : List PyData}, RpVs G.K H vs xs → RpDs G ι H vs (xs.map Dv.g)
  | _, _, .nil => .nil
  | _, _, .cons h r => .cons (.g h) (RpVs.ds r)
/-- all of them data -/
def grd : List Dv → Option (List PyData)
  | [] => some []
  | .g x :: r => (grd r).map (x :: ·)
  | _ :: _ => none
theorem RpDs.grd : ∀ {vs : List V} {ds : List Dv} {xs : List PyData}, RpDs G ι H vs ds → Xt.grd ds = some xs → RpVs G.K H vs xs
  | _, _, _, .nil, e => by
    cases e
    exact .nil
  | _, .g x :: r, xs, .cons (.g h) q, e => by
    rw [Xt.grd] at e
    cases e1 : Xt.grd r with
    | none =>
      rw [e1] at e
      cases e
    | some ys =>
      rw [e1] at e
      cases e
      exact .cons h (RpDs.grd q e1)
  | _, .r _ :: _, _, _, e => by cases e
  | _, .t _ :: _, _, _, e => by cases e
  | _, .u :: _, _, _, e => by cases e
end
def isTbl : HO → Bool
  | .tbl _ => true
  | _ => false
/-- one object of the memory -/
def MoR (G : Gx) (ι : List Addr) (H : Hp) (a : Addr) : MO → Prop
  | .lst xs => ∃ vs, H a = some (.lst vs) ∧ RpDs G ι H vs xs
  | .dct kvs => ∃ kws, H a = some (.dK kws) ∧ RpI G ι H kws kvs
  | .ins c fs => ∃ C dx fvs, G.mg c = some (.ref C) ∧ H a = some (.ins C dx fvs) ∧ RpF G ι H fvs fs
  | .dead => ∃ o, H a = some o ∧ isTbl o = false
structure MemR (G : Gx) (ι : List Addr) (H : Hp) (M : Mem) : Prop where
  len : ι.length = M.length
  nd : ι.Nodup
  ob : ∀ (i : Nat) (a : Addr) (mo : MO), ι[i]? = some a → M[i]? = some mo → MoR G ι H a mo
  tab : ∀ P ∈ G.tbs, ∃ ps : Array Value, H P = some (.tbl ps) ∧ TriplesOk ps.toList
/-- from one state to a later one -/
structure Ext (G : Gx) (ι : List Addr) (H : Hp) (ι' : List Addr) (M' : Mem) (H' : Hp) : Prop where
  pre : ι <+: ι'
  mem : MemR G ι' H' M'
  keep : Keep H H'
  frame : ∀ b o, H b = some o → isTbl o = false → b ∉ ι → H' b = some o
  tbl : ∀ b ps, H b = some (.tbl ps) → ∃ qs, H' b = some (.tbl qs)
  fresh : ∀ a ∈ ι', a ∉ ι → H a = none
theorem Ext.refl {G : Gx} {ι : List Addr} {H : Hp} {M : Mem} (m : MemR G ι H M) : Ext G ι H ι M H :=
  ⟨List.prefix_refl _, m, .refl _, fun _ _ h _ _ => h, fun _ ps h => ⟨ps, h⟩, fun _ h n => absurd h n⟩
theorem Ext.trans {G : Gx} {ι ι1 ι2 : List Addr} {H H1 H2 : Hp} {M1 M2 : Mem} (a : Ext G ι H ι1 M1 H1) (b : Ext G ι1 H1 ι2 M2 H2) : Ext G ι H ι2 M2 H2 where
  pre := a.pre.trans b.pre
  mem := b.mem
  keep := a.keep.trans b.keep
  frame := fun x o h1 h2 h3 => b.frame x o (a.frame x o h1 h2 h3) h2 fun z => by
    rw [a.fresh x z h3] at h1
    cases h1
  tbl := fun x ps h => by
    obtain ⟨qs, e⟩ := a.tbl x ps h
    exact b.tbl x qs e
  fresh := fun x h n => by
    by_cases z : x ∈ ι1
    · exact a.fresh x z n
    · have e := b.fresh x h z
      cases q : H x with
      | none => rfl
      | some o =>
        cases t : isTbl o with
        | false =>
          rw [a.frame x o q t n] at e
          cases e
        | true =>
          cases o with
          | tbl ps =>
            obtain ⟨qs, e2⟩ := a.tbl x ps q
            rw [e2] at e
            cases e
          | _ => cases t
/-- slots -/
structure StR (G : Gx) (H : Hp) (σ : L2.St) (ι : List Addr) (ρ : Slots) (M : Mem) : Prop where
  len : σ.length = ρ.length
  mem : MemR G ι H M
  sl : ∀ (i : Nat) (d : Dv), ρ[i]? = some d → d ≠ .u → ∃ v, σ[i]? = some (some v) ∧ RpD G ι H v d
theorem StR.ext {G : Gx} {ι ι1 : List Addr} {H H1 : Hp} {M M1 : Mem} {σ : L2.St} {ρ : Slots} (s : StR G H σ ι ρ M) (x : Ext G ι H ι1 M1 H1) : StR G H1 σ ι1 ρ M1 :=
  ⟨s.len, x.mem, fun i d h n => by
    obtain ⟨v, e, r⟩ := s.sl i d h n
    exact ⟨v, e, r.mono x.pre x.keep⟩⟩
/-- an exception: its class by name, its index -/
def ExR (G : Gx) (H : Hp) (c : Exn) (cls : Value) (dx : Option Addr) : Prop :=
  (∃ C, G.mg c.cls = some (.ref C) ∧ cls = .ref C) ∧ match c.ix with
    | none => dx = none
    | some x => ∃ d v, dx = some d ∧ H d = some (.xd [("index", v)]) ∧ RpV G.K H v x
/-- what follows, whatever the addresses -/
def Post {α : Type} (G : Gx) (E : XK) (ι : List Addr) (H : Hp) (Q : α → List Addr → Mem → Hp → Prop) : RE α → Prop
  | .fail => False
  | .ok a M' => ∀ ι' H', Ext G ι H ι' M' H' → Q a ι' M' H'
  | .ex c M' => ∀ ι' H' cls dx, Ext G ι H ι' M' H' → ExR G H' c cls dx → E cls dx H'
section
variable {α β : Type} {G : Gx} {E : XK} {ι ι1 : List Addr} {H H1 : Hp} {M M1 : Mem}
theorem Post.mono {Q Q' : α → List Addr → Mem → Hp → Prop} {r : RE α} (h : Post G E ι H Q r) (k : ∀ a ι' M' H', Ext G ι H ι' M' H' → Q a ι' M' H' → Q' a ι' M' H') : Post G E ι H Q' r := by
  cases r with
  | fail => exact h
  | ok a M' => exact fun ι' H' x => k a ι' M' H' x (h ι' H' x)
  | ex c M' => exact h
theorem Post.shift {Q : α → List Addr → Mem → Hp → Prop} {r : RE α} (x : Ext G ι H ι1 M1 H1) (h : Post G E ι H Q r) : Post G E ι1 H1 Q r := by
  cases r with
  | fail => exact h
  | ok a M' => exact fun ι' H' y => h ι' H' (x.trans y)
  | ex c M' => exact fun ι' H' cls dx y => h ι' H' cls dx (x.trans y)
theorem Post.bnd {f : Co α} {k : α → Co β} {Q : β → List Addr → Mem → Hp → Prop} (h : Post G E ι H Q (bnd f k M)) :
    Post G E ι H (fun a ι1 M1 H1 => Post G E ι1 H1 Q (k a M1)) (f M) := by
  unfold Xt.bnd at h
  cases e : f M with
  | fail =>
    rw [e] at h
    exact h
  | ok a M' =>
    rw [e] at h
    intro ι1 H1 x
    exact Post.shift x h
  | ex c M' =>
    rw [e] at h
    exact h
theorem Post.atM {i : Nat} {k : MO → Co α} {Q : α → List Addr → Mem → Hp → Prop} (h : Post G E ι H Q (Xt.atM i k M)) : ∃ mo, M[i]? = some mo ∧ Post G E ι H Q (k mo M) := by
  unfold Xt.atM at h
  cases e : M[i]? with
  | none =>
    rw [e] at h
    exact h.elim
  | some mo =>
    rw [e] at h
    exact ⟨mo, rfl, h⟩
theorem Post.ofO {o : Option α} {k : α → Co β} {Q : β → List Addr → Mem → Hp → Prop} (h : Post G E ι H Q (Xt.bnd (ofO o) k M)) : ∃ a, o = some a ∧ Post G E ι H Q (k a M) := by
  cases o with
  | none => exact False.elim h
  | some a => exact ⟨a, rfl, h⟩
theorem Post.rt (m : MemR G ι H M) {a : α} {Q : α → List Addr → Mem → Hp → Prop} (h : Post G E ι H Q (rt a M)) : Q a ι M H := h ι H (.refl m)
end

/-! ### readings -/
/-- an expression: f's value is what follows -/
def QE (G : Gx) (Q : VK) : Dv → List Addr → Mem → Hp → Prop := fun d ι' _ H' => ∀ v, RpD G ι' H' v d → Q v H'
def rdE (G : Gx) (E : XK) (f : Slots → Co Dv) : TE := fun σ H Q => ∃ ι ρ M, StR G H σ ι ρ M ∧ Post G E ι H (QE G Q) (f ρ M)
def rdA (G : Gx) (E : XK) (f : Slots → Co (List Dv)) : TA := fun σ H Q => ∃ ι ρ M, StR G H σ ι ρ M ∧ Post G E ι H (fun ds ι' _ H' => ∀ vs, RpDs G ι' H' vs ds → Q vs H') (f ρ M)
def rdT (G : Gx) (E : XK) (f : Slots → Co Bool) : TT := fun σ H Q => ∃ ι ρ M, StR G H σ ι ρ M ∧ Post G E ι H (fun b _ _ H' => Q b H') (f ρ M)
/-- a statement's end -/
inductive Fl where
  | nx (ρ : Slots)
  | rt (d : Dv)
  | bk (ρ : Slots)
  | ct (ρ : Slots)
def QS (G : Gx) (D : Ends) : Fl → List Addr → Mem → Hp → Prop := fun f ι' M' H' => match f with
  | .nx ρ => ∀ σ, StR G H' σ ι' ρ M' → D.nx σ H'
  | .rt d => ∀ v, RpD G ι' H' v d → D.rt v H'
  | .bk ρ => ∀ σ, StR G H' σ ι' ρ M' → D.bk σ H'
  | .ct ρ => ∀ σ, StR G H' σ ι' ρ M' → D.ct σ H'
def rdS (G : Gx) (E : XK) (f : Slots → Co Fl) : TS := fun D σ H => ∃ ι ρ M, StR G H σ ι ρ M ∧ Post G E ι H (QS G D) (f ρ M)

/-! ### another reading of the same -/
section
variable {X : Cx}
theorem peI {e : Expr} {t t' : TE} (h : PE X e t) (k : ∀ σ H Q, t' σ H Q → t σ H Q) : PE X e t' := ⟨fun pins s σ H Q I z => h.run pins s σ H Q I (k σ H Q z)⟩
theorem paI {e : List Expr} {t t' : TA} (h : PA X e t) (k : ∀ σ H Q, t' σ H Q → t σ H Q) : PA X e t' := ⟨fun pos pins s σ H Q I z => h.run pos pins s σ H Q I (k σ H Q z)⟩
theorem ptI {e : Expr} {t t' : TT} (h : PT X e t) (k : ∀ σ H Q, t' σ H Q → t σ H Q) : PT X e t' := ⟨fun pins s σ H Q I z => h.run pins s σ H Q I (k σ H Q z)⟩
theorem pwI {e : Expr} {t t' : TT} (h : PW X e t) (k : ∀ σ H Q, t' σ H Q → t σ H Q) : PW X e t' := ⟨fun w pins s σ H Q I z => h.run w pins s σ H Q I (k σ H Q z)⟩
theorem psI {e : Stmt} {t t' : TS} (h : PS X e t) (k : ∀ D σ H, t' D σ H → t D σ H) : PS X e t' := ⟨fun pins s σ H D I z => h.run pins s σ H D I (k D σ H z)⟩
theorem pssI {e : List Stmt} {t t' : TS} (h : PSs X e t) (k : ∀ D σ H, t' D σ H → t D σ H) : PSs X e t' := ⟨fun pins s σ H D I z => h.run pins s σ H D I (k D σ H z)⟩
/-- the value may be locked behind an expression -/
theorem pe_frz {e : Expr} {t : TE} (h : PE X e t) : PE X e (fun σ H Q => t σ H fun v H1 => Q v H1 ∨ ∃ d u, v = .ref d ∧ H1 d = some u ∧ Mut (some u) ∧ ∀ od, Q v (upd H1 d (.frz od u))) := by
  refine ⟨fun pins s σ H Q I z => ?_⟩
  refine thn (h.run pins s σ H _ I z) fun u s1 ⟨x, H1, I1, r1, q⟩ => ?_
  rcases q with q | ⟨d, w, rfl, hd, mu, q⟩
  · exact ⟨x, H1, I1, r1, q⟩
  · obtain ⟨od, I2⟩ := I1.lock hd mu
    exact ⟨_, _, I2, r1, q od⟩
end
end Xt
set_option Elab.async false
set_option linter.all false
set_option maxRecDepth 100000
set_option maxHeartbeats 1000000
namespace Xt
open PySem PySem.Spec PyProof.Rows L2

/-! ### new objects, changed objects -/
section
variable {G : Gx} {E : XK} {ι : List Addr} {H : Hp} {M : Mem} {p : Addr} {o : HO}
theorem keep_new (hp : H p = none) : Keep H (upd H p o) :=
  ⟨fun a ob u h => by rw [upd_ne (ne_of_none h hp)]; exact h, fun a xs h => by rw [upd_ne (ne_of_none h hp)]; exact h⟩
theorem MemR.at (m : MemR G ι H M) {a : Addr} (h : a ∈ ι) : ∃ o, H a = some o := by
  obtain ⟨i, hi, e⟩ := List.getElem_of_mem h
  have h1 : ι[i]? = some a := by rw [List.getElem?_eq_getElem hi, e]
  have h2 : i < M.length := by rw [← m.len]; exact hi
  have q := m.ob i a M[i] h1 (List.getElem?_eq_getElem h2)
  cases z : M[i] with
  | lst xs =>
    rw [z] at q
    obtain ⟨vs, q, _⟩ := q
    exact ⟨_, q⟩
  | dct xs =>
    rw [z] at q
    obtain ⟨vs, q, _⟩ := q
    exact ⟨_, q⟩
  | ins c xs =>
    rw [z] at q
    obtain ⟨C, dx, fvs, _, q, _⟩ := q
    exact ⟨_, q⟩
  | dead =>
    rw [z] at q
    obtain ⟨o, q, _⟩ := q
    exact ⟨o, q⟩
theorem MoR.mono {ι' : List Addr} {H' : Hp} {a : Addr} {mo : MO} (pr : ι <+: ι') (k : Keep H H') (e : H' a = H a) (h : MoR G ι H a mo) : MoR G ι' H' a mo := by
  cases mo with
  | lst xs =>
    obtain ⟨vs, h1, h2⟩ := h
    exact ⟨vs, e.trans h1, h2.mono pr k⟩
  | dct xs =>
    obtain ⟨vs, h1, h2⟩ := h
    exact ⟨vs, e.trans h1, h2.mono pr k⟩
  | ins c xs =>
    obtain ⟨C, dx, fvs, h0, h1, h2⟩ := h
    exact ⟨C, dx, fvs, h0, e.trans h1, h2.mono pr k⟩
  | dead =>
    obtain ⟨o, h, z⟩ := h
    exact ⟨o, e.trans h, z⟩
/-- a new object that is not of the memory -/
theorem Ext.new (m : MemR G ι H M) (hp : H p = none) : Ext G ι H ι M (upd H p o) where
  pre := List.prefix_refl _
  mem := ⟨m.len, m.nd, fun i a mo h1 h2 => by
    obtain ⟨u, hu⟩ := m.at (List.mem_of_getElem? h1)
    exact (m.ob i a mo h1 h2).mono (List.prefix_refl _) (keep_new hp) (upd_ne (ne_of_none hu hp)), fun P hP => by
    obtain ⟨ps, h, t⟩ := m.tab P hP
    exact ⟨ps, by rw [upd_ne (ne_of_none h hp)]; exact h, t⟩⟩
  keep := keep_new hp
  frame := fun b u h _ _ => by rw [upd_ne (ne_of_none h hp)]; exact h
  tbl := fun b ps h => ⟨ps, by rw [upd_ne (ne_of_none h hp)]; exact h⟩
  fresh := fun a h n => absurd h n
/-- .. that is -/
theorem Ext.alloc {mo : MO} (m : MemR G ι H M) (hp : H p = none) (h : MoR G (ι ++ [p]) (upd H p o) p mo) : Ext G ι H (ι ++ [p]) (M ++ [mo]) (upd H p o) where
  pre := List.prefix_append _ _
  mem := by
    refine ⟨by rw [List.length_append, List.length_append, m.len]; rfl, ?_, fun i a mo' h1 h2 => ?_, fun P hP => ?_⟩
    · refine List.nodup_append.mpr ⟨m.nd, by simp, fun a ha b hb e => ?_⟩
      obtain ⟨u, hu⟩ := m.at ha
      have hb' : b = p := by simpa using hb
      rw [e, hb', hp] at hu
      cases hu
    · by_cases hi : i < ι.length
      · rw [List.getElem?_append_left hi] at h1
        rw [List.getElem?_append_left (by rw [← m.len]; exact hi)] at h2
        obtain ⟨u, hu⟩ := m.at (List.mem_of_getElem? h1)
        exact (m.ob i a mo' h1 h2).mono (List.prefix_append _ _) (keep_new hp) (upd_ne (ne_of_none hu hp))
      · rw [List.getElem?_append_right (by omega)] at h1
        rw [List.getElem?_append_right (by rw [← m.len]; omega)] at h2
        have z : i - ι.length = 0 := by
          by_cases z : i - ι.length = 0
          · exact z
          · obtain ⟨k, e⟩ : ∃ k, i - ι.length = k + 1 := ⟨i - ι.length - 1, by omega⟩
            rw [e] at h1
            simp at h1
        rw [z] at h1
        rw [← m.len, z] at h2
        have e1 : p = a := by simpa using h1
        have e2 : mo = mo' := by simpa using h2
        rw [← e1, ← e2]
        exact h
    · obtain ⟨ps, h, t⟩ := m.tab P hP
      exact ⟨ps, by rw [upd_ne (ne_of_none h hp)]; exact h, t⟩
  keep := keep_new hp
  frame := fun b u h _ _ => by rw [upd_ne (ne_of_none h hp)]; exact h
  tbl := fun b ps h => ⟨ps, by rw [upd_ne (ne_of_none h hp)]; exact h⟩
  fresh := fun a h n => by
    rcases List.mem_append.mp h with z | z
    · exact absurd z n
    · have e : a = p := by simpa using z
      rw [e]
      exact hp
/-- may be written -/
def wr : HO → Bool
  | .lst _ => true
  | .dK _ => true
  | .ins _ _ _ => true
  | _ => false
theorem keep_store {w : HO} (ha : H p = some w) (hw : wr w = true) : Keep H (upd H p o) :=
  ⟨fun a ob u h => by
    rw [upd_ne (fun z => by
      rw [z, ha] at h
      cases h
      cases hw)]
    exact h, fun a xs h => by
    rw [upd_ne (fun z => by
      rw [z, ha] at h
      cases h
      cases hw)]
    exact h⟩
theorem Ext.store {i : Nat} {mo : MO} {w : HO} (m : MemR G ι H M) (hi : ι[i]? = some p) (ha : H p = some w) (hw : wr w = true) (h : MoR G ι (upd H p o) p mo) : Ext G ι H ι (M.set i mo) (upd H p o) where
  pre := List.prefix_refl _
  mem := by
    refine ⟨by rw [List.length_set, m.len], m.nd, fun j a mo' h1 h2 => ?_, fun P hP => ?_⟩
    · by_cases hj : i = j
      · subst hj
        rw [hi] at h1
        cases h1
        have hl : i < M.length := by rw [← m.len]; exact (List.getElem?_eq_some_iff.mp hi).1
        rw [List.getElem?_set_self hl] at h2
        cases h2
        exact h
      · rw [List.getElem?_set_ne hj] at h2
        have ne : a ≠ p := fun z => by
          subst z
          obtain ⟨l1, e1⟩ := List.getElem?_eq_some_iff.mp h1
          obtain ⟨l2, e2⟩ := List.getElem?_eq_some_iff.mp hi
          exact hj ((List.getElem_inj m.nd).mp (e2.trans e1.symm))
        exact (m.ob j a mo' h1 h2).mono (List.prefix_refl _) (keep_store ha hw) (upd_ne ne)
    · obtain ⟨ps, h, t⟩ := m.tab P hP
      refine ⟨ps, ?_, t⟩
      rw [upd_ne (fun z => by
        rw [z, ha] at h
        cases h
        cases hw)]
      exact h
  keep := keep_store ha hw
  frame := fun b u h _ n => by
    rw [upd_ne (fun z => n (by rw [z]; exact List.mem_of_getElem? hi))]
    exact h
  tbl := fun b ps h => ⟨ps, by
    rw [upd_ne (fun z => by
      rw [z, ha] at h
      cases h
      cases hw)]
    exact h⟩
  fresh := fun a h n => absurd h n
end

/-! ### operations by values -/
/-- F's result is what r gives -/
def OpS (G : Gx) (E : XK) (r : R2) (F : Dv → Dv → Co Dv) : Prop := ∀ (ι : List Addr) (M : Mem) (H : Hp) (x y : V) (d e : Dv) (Q : VK), MemR G ι H M → RpD G ι H x d → RpD G ι H y e → Post G E ι H (QE G Q) (F d e M) → r x y H Q
def CaS (G : Gx) (E : XK) (r : List V → Hp → VK → Prop) (F : List Dv → Co Dv) : Prop := ∀ (ι : List Addr) (M : Mem) (H : Hp) (xs : List V) (ds : List Dv) (Q : VK), MemR G ι H M → RpDs G ι H xs ds → Post G E ι H (QE G Q) (F ds M) → r xs H Q
def b2 (F : Dv → Dv → Co Dv) (f g : Slots → Co Dv) : Slots → Co Dv := fun ρ => bnd (f ρ) fun x => bnd (g ρ) fun y => F x y
def b1 (F : Dv → Co Dv) (f : Slots → Co Dv) : Slots → Co Dv := fun ρ => bnd (f ρ) F
section
variable {X : Cx} {G : Gx} {E : XK} {e e1 e2 : Expr} {f g : Slots → Co Dv} {pos : Pos}
theorem rd_b2 {r : R2} {F : Dv → Dv → Co Dv} {t : TE} (hF : OpS G E r F) {σ : L2.St} {H : Hp} {Q : VK} (h : rdE G E (b2 F f g) σ H Q) : tOp r (rdE G E f) (rdE G E g) σ H Q := by
  obtain ⟨ι, ρ, M, st, p⟩ := h
  refine ⟨ι, ρ, M, st, (Post.bnd p).mono fun d ι1 M1 H1 x1 p1 v rv => ?_⟩
  refine ⟨ι1, ρ, M1, st.ext x1, (Post.bnd p1).mono fun d2 ι2 M2 H2 x2 p2 w rw => ?_⟩
  exact hF ι2 M2 H2 v w d d2 Q x2.mem (rv.mono x2.pre x2.keep) rw p2
theorem xbin {op : Operator} {r : R2} {F : Dv → Dv → Co Dv} (ho : OpR X (binaryOp op) r) (hF : OpS G E r F) (ha : PE X e1 (rdE G E f)) (hb : PE X e2 (rdE G E g)) : PE X (.BinOp e1 op e2 pos) (rdE G E (b2 F f g)) :=
  peI (pe_op ho ha hb) fun _ _ _ h => rd_b2 (t := rdE G E f) hF h
theorem xcmp {op : CmpOp} {r : R2} {F : Dv → Dv → Co Dv} (ho : OpR X (compareOp op) r) (hF : OpS G E r F) (ha : PE X e1 (rdE G E f)) (hb : PE X e2 (rdE G E g)) (hm : behindInMarks op e2 = false := by first | exact nobehind _ (by decide) (by decide) | rfl) : PE X (.Compare e1 [op] [e2] pos) (rdE G E (b2 F f g)) :=
  peI (pe_cmpR ho ha hb hm) fun _ _ _ h => rd_b2 (t := rdE G E f) hF h
/-- a value that is a bool, as a test -/
def tB : Dv → Co Bool := fun d => match d with
  | .g (.bool b) => rt b
  | _ => fl
def tst (f : Slots → Co Dv) : Slots → Co Bool := fun ρ => bnd (f ρ) tB
theorem rd_tst {σ : L2.St} {H : Hp} {Q : Bool → Hp → Prop} (h : rdT G E (tst f) σ H Q) : rdE G E f σ H (fun x H' => ∃ k, x = V.bl k ∧ Q k H') := by
  obtain ⟨ι, ρ, M, st, p⟩ := h
  refine ⟨ι, ρ, M, st, (Post.bnd p).mono fun d ι1 M1 H1 x1 p1 v rv => ?_⟩
  cases rv with
  | g rv =>
    cases rv with
    | bl b => exact ⟨b, rfl, Post.rt x1.mem p1⟩
    | _ => exact False.elim p1
  | _ => exact False.elim p1
theorem xtcmp {op : CmpOp} {r : R2} {F : Dv → Dv → Co Dv} (ho : OpR X (compareOp op) r) (hF : OpS G E r F) (ha : PE X e1 (rdE G E f)) (hb : PE X e2 (rdE G E g)) (hm : behindInMarks op e2 = false := by first | exact nobehind _ (by decide) (by decide) | rfl) : PT X (.Compare e1 [op] [e2] pos) (rdT G E (tst (b2 F f g))) :=
  ptI (pt_cmpR ho ha hb hm) fun _ _ _ h => by
    have q := rd_tst h
    exact rd_b2 (t := rdE G E f) hF q
/-- a chain a op b op' c -/
def ch (F F' : Dv → Dv → Co Dv) (f g h : Slots → Co Dv) : Slots → Co Dv := fun ρ => bnd (f ρ) fun x => bnd (g ρ) fun y => bnd (F x y) fun z => bnd (tB z) fun b => match b with
  | true => bnd (h ρ) fun w => F' y w
  | false => rt (.g (.bool false))
theorem rd_ch {r r' : R2} {F F' : Dv → Dv → Co Dv} {h3 : Slots → Co Dv} (hF : OpS G E r F) (hF' : OpS G E r' F') {σ : L2.St} {H : Hp} {Q : VK} (h : rdE G E (ch F F' f g h3) σ H Q) : tChain r r' (rdE G E f) (rdE G E g) (rdE G E h3) σ H Q := by
  obtain ⟨ι, ρ, M, st, p⟩ := h
  refine ⟨ι, ρ, M, st, (Post.bnd p).mono fun d ι1 M1 H1 x1 p1 v rv => ?_⟩
  refine ⟨ι1, ρ, M1, st.ext x1, (Post.bnd p1).mono fun d2 ι2 M2 H2 x2 p2 w rw => ?_⟩
  refine hF ι2 M2 H2 v w d d2 _ x2.mem (rv.mono x2.pre x2.keep) rw ((Post.bnd p2).mono fun d3 ι3 M3 H3 x3 p3 z rz => ?_)
  cases rz with
  | g rz =>
    cases rz with
    | bl b =>
      refine ⟨b, rfl, ?_⟩
      have p4 := Post.rt x3.mem (Post.bnd p3)
      cases b with
      | true =>
        refine iteT ?_
        refine ⟨ι3, ρ, M3, ((st.ext x1).ext x2).ext x3, (Post.bnd p4).mono fun d4 ι4 M4 H4 x4 p5 w' rw' => ?_⟩
        exact hF' ι4 M4 H4 w w' d2 d4 Q x4.mem ((rw.mono x3.pre x3.keep).mono x4.pre x4.keep) rw' p5
      | false =>
        refine iteF ?_
        exact Post.rt x3.mem p4 _ (.g (.bl false))
    | _ => exact False.elim (Post.bnd p3)
  | _ => exact False.elim (Post.bnd p3)
theorem xchain {op op' : CmpOp} {r r' : R2} {F F' : Dv → Dv → Co Dv} {e3 : Expr} {h3 : Slots → Co Dv} (ho : OpR X (compareOp op) r) (ho' : OpR X (compareOp op') r') (hF : OpS G E r F) (hF' : OpS G E r' F') (ha : PE X e1 (rdE G E f)) (hb : PE X e2 (rdE G E g)) (hc : PE X e3 (rdE G E h3))
    (hm : lastMarks [op, op'] [e2, e3] = false := by rfl) : PE X (.Compare e1 [op, op'] [e2, e3] pos) (rdE G E (ch F F' f g h3)) :=
  peI (pe_chain ho ho' ha hb hc hm) fun _ _ _ h => rd_ch hF hF' h
theorem xtchain {op op' : CmpOp} {r r' : R2} {F F' : Dv → Dv → Co Dv} {e3 : Expr} {h3 : Slots → Co Dv} (ho : OpR X (compareOp op) r) (ho' : OpR X (compareOp op') r') (hF : OpS G E r F) (hF' : OpS G E r' F') (ha : PE X e1 (rdE G E f)) (hb : PE X e2 (rdE G E g)) (hc : PE X e3 (rdE G E h3))
    (hm : lastMarks [op, op'] [e2, e3] = false := by rfl) : PT X (.Compare e1 [op, op'] [e2, e3] pos) (rdT G E (tst (ch F F' f g h3))) :=
  ptI (pt_chain ho ho' ha hb hc hm) fun _ _ _ h => rd_ch hF hF' (rd_tst h)

/-! ### names, constants -/
def sl (i : Nat) : Slots → Co Dv := fun ρ => match ρ[i]? with
  | none => fl
  | some .u => fl
  | some d => rt d
def kk (x : PyData) : Slots → Co Dv := fun _ => rt (.g x)
theorem rd_sl {i : Nat} {σ : L2.St} {H : Hp} {Q : VK} (h : rdE G E (sl i) σ H Q) : tVar i σ H Q := by
  obtain ⟨ι, ρ, M, st, p⟩ := h
  cases e : ρ[i]? with
  | none =>
    have z : sl i ρ M = .fail := by
      unfold sl
      rw [e]
      rfl
    rw [z] at p
    exact p.elim
  | some d =>
    by_cases hd : d = .u
    · have z : sl i ρ M = .fail := by
        unfold sl
        rw [e, hd]
        rfl
      rw [z] at p
      exact p.elim
    · obtain ⟨v, e1, r⟩ := st.sl i d e hd
      have z : sl i ρ M = .ok d M := by
        unfold sl
        rw [e]
        cases d <;> first | rfl | exact absurd rfl hd
      rw [z] at p
      exact ⟨v, e1, p ι H (.refl st.mem) v r⟩
theorem xv (i : Nat) {x : Str} (hN : X.N[i]? = some x := by rfl) (hv : Vis X.env.scope x := by first | exact Or.inl rfl | exact Or.inr (Or.inl rfl) | exact Or.inr (Or.inr rfl)) (hd : (x == ("__debug__" : Str)) = false := by decide)
    (hcd : (x == ("__classdict__" : Str)) = false := by decide) : PE X (.Name x pos) (rdE G E (sl i)) := peI (pe_var hN hv hd hcd) fun _ _ _ h => rd_sl h
theorem rd_kk {v : V} {x : PyData} (r : ∀ H, RpV G.K H v x) {σ : L2.St} {H : Hp} {Q : VK} (h : rdE G E (kk x) σ H Q) : tC v σ H Q := by
  obtain ⟨ι, ρ, M, st, p⟩ := h
  exact Post.rt st.mem p v (.g (r H))
theorem xint {i j} : PE X (.Constant (.int i) j pos) (rdE G E (kk (.int i))) := peI pe_int fun _ _ _ h => rd_kk (fun _ => .int i) h
theorem xbl {b j} : PE X (.Constant (.bool b) j pos) (rdE G E (kk (.bool b))) := peI pe_bl fun _ _ _ h => rd_kk (fun _ => .bl b) h
theorem xnon {j} : PE X (.Constant .none j pos) (rdE G E (kk .none)) := peI pe_non fun _ _ _ h => rd_kk (fun _ => .non) h
theorem xstr {x j} : PE X (.Constant (.str x) j pos) (rdE G E (kk (.str x))) := peI pe_str fun _ _ _ h => rd_kk (fun _ => .str x) h
theorem xgint {x : Str} {i : Int} (hg : Gl X x) (hm : ∃ t, X.mg x = some (.int i t)) (hd : (x == ("__debug__" : Str)) = false := by decide) : PE X (.Name x pos) (rdE G E (kk (.int i))) := by
  obtain ⟨t, hm⟩ := hm
  exact peI (pe_glob (v := .int i) hg hm ⟨t, rfl⟩ hd) fun _ _ _ h => rd_kk (fun _ => .int i) h

/-! ### if, and, or, not -/
def iff (c : Slots → Co Bool) (f g : Slots → Co Dv) : Slots → Co Dv := fun ρ => bnd (c ρ) fun b => match b with
  | true => f ρ
  | false => g ρ
theorem xif {c : Expr} {cf : Slots → Co Bool} (hc : PT X c (rdT G E cf)) (ha : PE X e1 (rdE G E f)) (hb : PE X e2 (rdE G E g)) : PE X (.IfExp c e1 e2 pos) (rdE G E (iff cf f g)) :=
  peI (pe_ifExp hc ha hb) fun σ H Q h => by
    obtain ⟨ι, ρ, M, st, p⟩ := h
    refine ⟨ι, ρ, M, st, (Post.bnd p).mono fun b ι1 M1 H1 x1 p1 => ?_⟩
    cases b with
    | true => exact iteT ⟨ι1, ρ, M1, st.ext x1, p1⟩
    | false => exact iteF ⟨ι1, ρ, M1, st.ext x1, p1⟩
def tand (f g : Slots → Co Bool) : Slots → Co Bool := fun ρ => bnd (f ρ) fun b => match b with
  | true => g ρ
  | false => rt false
def tor (f g : Slots → Co Bool) : Slots → Co Bool := fun ρ => bnd (f ρ) fun b => match b with
  | true => rt true
  | false => g ρ
def tnt (f : Slots → Co Bool) : Slots → Co Bool := fun ρ => bnd (f ρ) fun b => rt (!b)
theorem xwand {a b : Expr} {rest : List Expr} {f g : Slots → Co Bool} (ha : PT X a (rdT G E f)) (hb : PW X (.BoolOp .And (b :: rest) pos) (rdT G E g)) : PW X (.BoolOp .And (a :: b :: rest) pos) (rdT G E (tand f g)) :=
  pwI (pw_and ha hb) fun σ H Q h => by
    obtain ⟨ι, ρ, M, st, p⟩ := h
    refine ⟨ι, ρ, M, st, (Post.bnd p).mono fun b ι1 M1 H1 x1 p1 => ?_⟩
    cases b with
    | true => exact iteT ⟨ι1, ρ, M1, st.ext x1, p1⟩
    | false => exact iteF (Post.rt x1.mem p1)
theorem xwor {a b : Expr} {rest : List Expr} {f g : Slots → Co Bool} (ha : PT X a (rdT G E f)) (hb : PW X (.BoolOp .Or (b :: rest) pos) (rdT G E g)) : PW X (.BoolOp .Or (a :: b :: rest) pos) (rdT G E (tor f g)) :=
  pwI (pw_or ha hb) fun σ H Q h => by
    obtain ⟨ι, ρ, M, st, p⟩ := h
    refine ⟨ι, ρ, M, st, (Post.bnd p).mono fun b ι1 M1 H1 x1 p1 => ?_⟩
    cases b with
    | true => exact iteT (Post.rt x1.mem p1)
    | false => exact iteF ⟨ι1, ρ, M1, st.ext x1, p1⟩
theorem xwand1 {a : Expr} {f : Slots → Co Bool} (ha : PT X a (rdT G E f)) : PW X (.BoolOp .And [a] pos) (rdT G E f) := pw_and1 ha
theorem xwor1 {a : Expr} {f : Slots → Co Bool} (ha : PT X a (rdT G E f)) : PW X (.BoolOp .Or [a] pos) (rdT G E f) := pw_or1 ha
theorem xtnot {a : Expr} {f : Slots → Co Bool} (ha : PT X a (rdT G E f)) : PT X (.UnaryOp .Not a pos) (rdT G E (tnt f)) :=
  ptI (pt_not ha) fun σ H Q h => by
    obtain ⟨ι, ρ, M, st, p⟩ := h
    refine ⟨ι, ρ, M, st, (Post.bnd p).mono fun b ι1 M1 H1 x1 p1 => ?_⟩
    exact Post.rt x1.mem p1
/-- truth of a value -/
def tru : Dv → Co Bool := fun d => match d with
  | .g .none => rt false
  | .g (.bool b) => rt b
  | .g (.int i) => rt (i != 0)
  | .g (.list xs) => rt (!xs.isEmpty)
  | .g (.tuple xs) => rt (!xs.isEmpty)
  | .r i => atM i fun mo => match mo with
    | .lst xs => rt (!xs.isEmpty)
    | .dct xs => rt (!xs.isEmpty)
    | _ => fl
  | _ => fl
theorem len_empty {α β : Type} {xs : List α} {ys : List β} (h : xs.length = ys.length) : xs.isEmpty = ys.isEmpty := by
  cases xs with
  | nil =>
    cases ys with
    | nil => rfl
    | cons _ _ => cases h
  | cons _ _ =>
    cases ys with
    | nil => cases h
    | cons _ _ => rfl
theorem RpI.length {ι : List Addr} {H : Hp} {vs : List (Key × V)} {ds : List (Int × Dv)} (h : RpI G ι H vs ds) : vs.length = ds.length := by
  induction h with
  | nil => rfl
  | cons _ _ ih => rw [List.length_cons, List.length_cons, ih]
theorem MemR.lstE {ι : List Addr} {H : Hp} {M : Mem} {i : Nat} {a : Addr} {xs : List Dv} (m : MemR G ι H M) (h1 : ι[i]? = some a) (h2 : M[i]? = some (.lst xs)) : ∃ vs, H a = some (.lst vs) ∧ RpDs G ι H vs xs := m.ob i a _ h1 h2
theorem MemR.dctE {ι : List Addr} {H : Hp} {M : Mem} {i : Nat} {a : Addr} {xs : List (Int × Dv)} (m : MemR G ι H M) (h1 : ι[i]? = some a) (h2 : M[i]? = some (.dct xs)) : ∃ vs, H a = some (.dK vs) ∧ RpI G ι H vs xs := m.ob i a _ h1 h2
theorem xtru {a : Expr} (hK : X.K = G.K) (ha : PE X a (rdE G E f)) (he : ∀ whole, isTrue a X.env whole = (do let v ← whole; standAt a.pos; holding [v] (truthy v)) := by intro _; rfl) : PT X a (rdT G E (fun ρ => bnd (f ρ) tru)) :=
  ptI (pt_truth ha he) fun σ H Q h => by
    obtain ⟨ι, ρ, M, st, p⟩ := h
    refine ⟨ι, ρ, M, st, (Post.bnd p).mono fun d ι1 M1 H1 x1 p1 v rv => ?_⟩
    rw [hK]
    cases rv with
    | g rv =>
      cases rv with
      | non => exact ⟨_, rfl, p1 ι1 H1 (.refl x1.mem)⟩
      | bl b => exact ⟨_, rfl, p1 ι1 H1 (.refl x1.mem)⟩
      | int i => exact ⟨_, rfl, p1 ι1 H1 (.refl x1.mem)⟩
      | lst h r =>
        refine ⟨_, .inl ⟨_, h.sq, rfl⟩, ?_⟩
        rw [len_empty r.length]
        exact p1 ι1 H1 (.refl x1.mem)
      | tup h r =>
        refine ⟨_, .inr (.inl ⟨_, .of h, rfl⟩), ?_⟩
        rw [len_empty r.length]
        exact p1 ι1 H1 (.refl x1.mem)
      | _ => exact False.elim p1
    | @r a i hi =>
      obtain ⟨mo, e, p2⟩ := Post.atM p1
      cases mo with
      | lst xs =>
        obtain ⟨vs, h1, h2⟩ := x1.mem.lstE hi e
        refine ⟨_, .inl ⟨_, .of h1, rfl⟩, ?_⟩
        rw [len_empty h2.length]
        exact Post.rt x1.mem p2
      | dct xs =>
        obtain ⟨vs, h1, h2⟩ := x1.mem.dctE hi e
        refine ⟨_, .inr (.inr ⟨_, h1, rfl⟩), ?_⟩
        rw [len_empty h2.length]
        exact Post.rt x1.mem p2
      | _ => exact p2.elim
    | _ => exact False.elim p1
/-- and, or, not of bools, as values -/
def vB (b : Bool) : Dv := .g (.bool b)
theorem xand {a b : Expr} {rest : List Expr} (ha : PE X a (rdE G E f)) (hb : PE X (.BoolOp .And (b :: rest) pos) (rdE G E g)) : PE X (.BoolOp .And (a :: b :: rest) pos) (rdE G E (fun ρ => bnd (tst f ρ) fun c => match c with | true => g ρ | false => rt (vB false))) :=
  peI (pe_and ha hb) fun σ H Q h => by
    obtain ⟨ι, ρ, M, st, p⟩ := h
    refine rd_tst ⟨ι, ρ, M, st, (Post.bnd p).mono fun c ι1 M1 H1 x1 p1 => ?_⟩
    cases c with
    | true => exact iteT ⟨ι1, ρ, M1, st.ext x1, p1⟩
    | false => exact iteF (Post.rt x1.mem p1 _ (.g (.bl false)))
theorem xor_ {a b : Expr} {rest : List Expr} (ha : PE X a (rdE G E f)) (hb : PE X (.BoolOp .Or (b :: rest) pos) (rdE G E g)) : PE X (.BoolOp .Or (a :: b :: rest) pos) (rdE G E (fun ρ => bnd (tst f ρ) fun c => match c with | true => rt (vB true) | false => g ρ)) :=
  peI (pe_or ha hb) fun σ H Q h => by
    obtain ⟨ι, ρ, M, st, p⟩ := h
    refine rd_tst ⟨ι, ρ, M, st, (Post.bnd p).mono fun c ι1 M1 H1 x1 p1 => ?_⟩
    cases c with
    | true => exact iteT (Post.rt x1.mem p1 _ (.g (.bl true)))
    | false => exact iteF ⟨ι1, ρ, M1, st.ext x1, p1⟩
theorem xone {a : Expr} {op : BoolOp} (ha : PE X a (rdE G E f)) : PE X (.BoolOp op [a] pos) (rdE G E f) := pe_one ha
theorem xnot {a : Expr} (ha : PE X a (rdE G E f)) : PE X (.UnaryOp .Not a pos) (rdE G E (fun ρ => bnd (tst f ρ) fun c => rt (vB (!c)))) :=
  peI (pe_not ha) fun σ H Q h => by
    obtain ⟨ι, ρ, M, st, p⟩ := h
    exact rd_tst ⟨ι, ρ, M, st, (Post.bnd p).mono fun c ι1 M1 H1 x1 p1 => Post.rt x1.mem p1 _ (.g (.bl _))⟩

/-! ### argument lists, displays -/
theorem xa0 : PA X [] (rdA G E (fun _ => rt [])) := paI pa_nil fun σ H Q h => by
  obtain ⟨ι, ρ, M, st, p⟩ := h
  exact Post.rt st.mem p [] .nil
def ac (f : Slots → Co Dv) (g : Slots → Co (List Dv)) : Slots → Co (List Dv) := fun ρ => bnd (f ρ) fun x => bnd (g ρ) fun xs => rt (x :: xs)
theorem xa1 {es : List Expr} {gs : Slots → Co (List Dv)} (ha : PE X e (rdE G E f)) (hr : PA X es (rdA G E gs)) (hs : starEach (e :: es) X.env = (false, eval e X.env) :: starEach es X.env := by rfl) : PA X (e :: es) (rdA G E (ac f gs)) :=
  paI (pa_cons ha hr hs) fun σ H Q h => by
    obtain ⟨ι, ρ, M, st, p⟩ := h
    refine ⟨ι, ρ, M, st, (Post.bnd p).mono fun d ι1 M1 H1 x1 p1 v rv => ?_⟩
    refine ⟨ι1, ρ, M1, st.ext x1, (Post.bnd p1).mono fun ds ι2 M2 H2 x2 p2 ws rw => ?_⟩
    exact Post.rt x2.mem p2 _ (.cons (rv.mono x2.pre x2.keep) rw)
def mkT (ds : List Dv) : Dv := match grd ds with
  | some xs => .g (.tuple xs)
  | none => .t ds
theorem mkT_rp {ι : List Addr} {H : Hp} {a : Addr} {vs : List V} {ds : List Dv} (h : H a = some (.tup vs)) (r : RpDs G ι H vs ds) : RpD G ι H (.ref a) (mkT ds) := by
  unfold mkT
  cases e : grd ds with
  | none => exact .t h r
  | some xs => exact .g (.tup h (r.grd e))
def szOk (n : Nat) : Bool := Nat.ble n 16777216
theorem szOk_le {n : Nat} (h : szOk n = true) : n ≤ sizeLine := by
  rw [sizeLine_eq]
  exact Nat.le_of_ble_eq_true h
def chk {α : Type} (b : Bool) (k : Co α) : Co α := match b with
  | true => k
  | false => fl
theorem Post.chk {α : Type} {b : Bool} {k : Co α} {ι : List Addr} {H : Hp} {M : Mem} {Q : α → List Addr → Mem → Hp → Prop} (h : Post G E ι H Q (Xt.chk b k M)) : b = true ∧ Post G E ι H Q (k M) := by
  cases b with
  | true => exact ⟨rfl, h⟩
  | false => exact False.elim h
def tup (f : Slots → Co (List Dv)) : Slots → Co Dv := fun ρ => bnd (f ρ) fun ds => chk (szOk ds.length) (rt (mkT ds))
theorem xtup {es : List Expr} {k} {gs : Slots → Co (List Dv)} (h : PA X es (rdA G E gs)) : PE X (.Tuple es k pos) (rdE G E (tup gs)) :=
  peI (pe_tup h) fun σ H Q h => by
    obtain ⟨ι, ρ, M, st, p⟩ := h
    refine ⟨ι, ρ, M, st, (Post.bnd p).mono fun ds ι1 M1 H1 x1 p1 vs rv => ?_⟩
    obtain ⟨z, p2⟩ := Post.chk p1
    refine ⟨by rw [rv.length]; exact szOk_le z, fun a ha => ?_⟩
    have x2 : Ext G ι1 H1 ι1 M1 (upd H1 a (.tup vs)) := .new x1.mem ha
    exact Post.rt x2.mem (p2.shift x2) _ (mkT_rp upd_same (rv.mono x2.pre x2.keep))
/-- a list display: an object of the memory -/
def newL (ds : List Dv) : Co Dv := fun M => .ok (.r M.length) (M ++ [.lst ds])
def lstR (f : Slots → Co (List Dv)) : Slots → Co Dv := fun ρ => bnd (f ρ) fun ds => chk (szOk ds.length) (newL ds)
theorem get_last {α : Type} (l : List α) (a : α) : (l ++ [a])[l.length]? = some a := by simp
theorem xlstR {es : List Expr} {gs : Slots → Co (List Dv)} (h : PA X es (rdA G E gs)) : PE X (.List es pos) (rdE G E (lstR gs)) :=
  peI (pe_lst h) fun σ H Q h => by
    obtain ⟨ι, ρ, M, st, p⟩ := h
    refine ⟨ι, ρ, M, st, (Post.bnd p).mono fun ds ι1 M1 H1 x1 p1 vs rv => ?_⟩
    obtain ⟨z, p2⟩ := Post.chk p1
    refine ⟨by rw [rv.length]; exact szOk_le z, fun a ha => ?_⟩
    have x2 : Ext G ι1 H1 (ι1 ++ [a]) (M1 ++ [.lst ds]) (upd H1 a (.lst vs)) := .alloc x1.mem ha ⟨vs, upd_same, rv.mono (List.prefix_append _ _) (keep_new ha)⟩
    refine p2 _ _ x2 _ (.r ?_)
    rw [← x1.mem.len]
    exact get_last _ _
/-- .. or data at once: locked -/
def lstG (f : Slots → Co (List Dv)) : Slots → Co Dv := fun ρ => bnd (f ρ) fun ds => chk (szOk ds.length) (bnd (ofO (grd ds)) fun xs => rt (.g (.list xs)))
theorem upd2 {H : Hp} {a : Addr} {o u : HO} : upd (upd H a o) a u = upd H a u := upd_upd
/-- a new list at a free place, then locked -/
theorem lockL {ι : List Addr} {H : Hp} {M : Mem} {vs : List V} {xs : List PyData} {Q : VK} {a : Addr} (m : MemR G ι H M) (ha : H a = none) (r : RpVs G.K H vs xs) (p : Post G E ι H (QE G Q) (rt (.g (.list xs)) M)) :
    Q (.ref a) (upd H a (.lst vs)) ∨ ∃ d u, V.ref a = .ref d ∧ (upd H a (.lst vs)) d = some u ∧ Mut (some u) ∧ ∀ od, Q (.ref a) (upd (upd H a (.lst vs)) d (.frz od u)) := by
  refine .inr ⟨a, .lst vs, rfl, upd_same, trivial, fun od => ?_⟩
  rw [upd2]
  have x2 : Ext G ι H ι M (upd H a (.frz od (.lst vs))) := .new m ha
  exact Post.rt x2.mem (p.shift x2) _ (.g (.lst (.inl ⟨od, upd_same⟩) (r.mono x2.keep)))
theorem xlstG {es : List Expr} {gs : Slots → Co (List Dv)} (h : PA X es (rdA G E gs)) : PE X (.List es pos) (rdE G E (lstG gs)) :=
  peI (pe_frz (pe_lst h)) fun σ H Q h => by
    obtain ⟨ι, ρ, M, st, p⟩ := h
    refine ⟨ι, ρ, M, st, (Post.bnd p).mono fun ds ι1 M1 H1 x1 p1 vs rv => ?_⟩
    obtain ⟨z, p2⟩ := Post.chk p1
    obtain ⟨xs, e, p3⟩ := Post.ofO p2
    exact ⟨by rw [rv.length]; exact szOk_le z, fun a ha => lockL x1.mem ha (rv.grd e) p3⟩
/-- an object of the memory becomes data: it is locked and not of the memory any more -/
def frD : Dv → Co Dv := fun d => match d with
  | .r i => atM i fun mo => match mo with
    | .lst ds => bnd (ofO (grd ds)) fun xs => fun M => .ok (.g (.list xs)) (M.set i .dead)
    | _ => fl
  | d => rt d
theorem xfrz {e : Expr} (h : PE X e (rdE G E f)) : PE X e (rdE G E (b1 frD f)) :=
  peI (pe_frz h) fun σ H Q h => by
    obtain ⟨ι, ρ, M, st, p⟩ := h
    refine ⟨ι, ρ, M, st, (Post.bnd p).mono fun d ι1 M1 H1 x1 p1 v rv => ?_⟩
    cases rv with
    | g rv => exact .inl (p1 ι1 H1 (.refl x1.mem) _ (.g rv))
    | t h r => exact .inl (p1 ι1 H1 (.refl x1.mem) _ (.t h r))
    | @r a i hi =>
      obtain ⟨mo, e, p2⟩ := Post.atM p1
      cases mo with
      | lst ds =>
        obtain ⟨xs, q, p3⟩ := Post.ofO p2
        obtain ⟨vs, h1, h2⟩ := x1.mem.lstE hi e
        refine .inr ⟨a, _, rfl, h1, trivial, fun od => ?_⟩
        have x2 : Ext G ι1 H1 ι1 (M1.set i .dead) (upd H1 a (.frz od (.lst vs))) := .store x1.mem hi h1 rfl ⟨_, upd_same, rfl⟩
        exact p3 _ _ x2 _ (.g (.lst (.inl ⟨od, upd_same⟩) ((h2.grd q).mono x2.keep)))
      | _ => exact p2.elim
end
end Xt
set_option Elab.async false
set_option linter.all false
set_option maxRecDepth 100000
set_option maxHeartbeats 1000000
namespace Xt
open PySem PySem.Spec PyProof.Rows L2

/-! ### looking at a value -/
def asI : Dv → Option Int
  | .g (.int i) => some i
  | _ => none
def asB : Dv → Option Bool
  | .g (.bool b) => some b
  | _ => none
/-- data, off the memory too -/
def asGp (d : Dv) (M : Mem) : Option PyData := match d with
  | .g x => some x
  | .r i => (match M[i]? with
    | some (.lst ds) => (grd ds).map PyData.list
    | _ => none)
  | _ => none
def asG (d : Dv) : Co PyData := fun M => ofO (asGp d M) M
mutual
theorem noDct_of : ∀ d : PyData, d.canLay0 = true → noDct d = true
  | .none, _ => rfl
  | .bool _, _ => rfl
  | .int _, _ => rfl
  | .str _, _ => rfl
  | .list xs, h => noDcts_of xs h
  | .tuple xs, h => noDcts_of xs h
  | .dict _, h => by cases h
theorem noDcts_of : ∀ xs : List PyData, PyData.canLayAll0 xs = true → noDcts xs = true
  | [], _ => rfl
  | x :: xs, h => by
    obtain ⟨h1, h2⟩ := Bool.and_eq_true_iff.mp (show (x.canLay0 && PyData.canLayAll0 xs) = true from h)
    show (noDct x && noDcts xs) = true
    rw [noDct_of x h1, noDcts_of xs h2]
    rfl
end
section
variable {G : Gx} {E : XK} {ι : List Addr} {H : Hp} {M : Mem} {v : V} {d : Dv}
theorem asI_rp {i : Int} (r : RpD G ι H v d) (e : asI d = some i) : v = .int i ∧ d = .g (.int i) := by
  cases r with
  | g r =>
    cases r <;> first
      | (cases e; exact ⟨rfl, rfl⟩)
      | cases e
  | _ => cases e
theorem asB_rp {i : Bool} (r : RpD G ι H v d) (e : asB d = some i) : v = .bl i ∧ d = .g (.bool i) := by
  cases r with
  | g r =>
    cases r <;> first
      | (cases e; exact ⟨rfl, rfl⟩)
      | cases e
  | _ => cases e
/-- a list of the memory -/
theorem asGp_r {i : Nat} {x : PyData} (e : asGp (.r i) M = some x) : ∃ ds xs, M[i]? = some (.lst ds) ∧ grd ds = some xs ∧ x = .list xs := by
  have e2 : (match M[i]? with
    | some (.lst ds) => (grd ds).map PyData.list
    | _ => none) = some x := e
  cases q : M[i]? with
  | none =>
    rw [q] at e2
    cases e2
  | some mo =>
    rw [q] at e2
    cases mo with
    | lst ds =>
      have e3 : (grd ds).map PyData.list = some x := e2
      cases q2 : grd ds with
      | none =>
        rw [q2] at e3
        cases e3
      | some xs =>
        rw [q2] at e3
        exact ⟨ds, xs, rfl, q2, (Option.some.inj e3).symm⟩
    | _ => cases e2
theorem Post.asGe {α : Type} {k : PyData → Co α} {Q : α → List Addr → Mem → Hp → Prop} (p : Post G E ι H Q (Xt.bnd (Xt.asG d) k M)) : ∃ x, asGp d M = some x ∧ Post G E ι H Q (k x M) := by
  have p2 : Post G E ι H Q (Xt.bnd (Xt.ofO (asGp d M)) k M) := p
  exact Post.ofO p2
/-- the library's reading of data -/
theorem Post.asG {α : Type} {k : PyData → Co α} {Q : α → List Addr → Mem → Hp → Prop} (m : MemR G ι H M) (r : RpD G ι H v d) (p : Post G E ι H Q (Xt.bnd (Xt.asG d) k M)) :
    ∃ x, (noDct x = true → Dp G.K H v x) ∧ Post G E ι H Q (k x M) := by
  obtain ⟨x, e, p1⟩ := Post.asGe p
  refine ⟨x, fun z => ?_, p1⟩
  cases r with
  | g r =>
    cases e
    exact r.dp z
  | @r a i hi =>
    obtain ⟨ds, xs, e1, e2, rfl⟩ := asGp_r e
    obtain ⟨vs, h1, h2⟩ := m.lstE hi e1
    exact .lst (.of h1) ((h2.grd e2).dp z)
  | t _ _ => cases e

/-! ### numbers -/
def i2 (f : Int → Int → Dv) : Dv → Dv → Co Dv := fun d e => bnd (ofO (asI d)) fun i => bnd (ofO (asI e)) fun j => rt (f i j)
def i2c (c : Int → Int → Bool) (f : Int → Int → Dv) : Dv → Dv → Co Dv := fun d e => bnd (ofO (asI d)) fun i => bnd (ofO (asI e)) fun j => chk (c i j) (rt (f i j))
theorem os_i2 {f : Int → Int → V} {f' : Int → Int → Dv} (h : ∀ ι H i j, RpD G ι H (f i j) (f' i j)) : OpS G E (rI0 f) (i2 f') := fun ι M H x y d e Q m rx ry p => by
  obtain ⟨i, e1, p⟩ := Post.ofO p
  obtain ⟨j, e2, p⟩ := Post.ofO p
  exact ⟨i, j, (asI_rp rx e1).1, (asI_rp ry e2).1, Post.rt m p _ (h _ _ _ _)⟩
theorem os_i2c {C : Int → Int → Prop} {c : Int → Int → Bool} {f : Int → Int → V} {f' : Int → Int → Dv} (hc : ∀ i j, c i j = true → C i j) (h : ∀ ι H i j, c i j = true → RpD G ι H (f i j) (f' i j)) : OpS G E (rI C f) (i2c c f') := fun ι M H x y d e Q m rx ry p => by
  obtain ⟨i, e1, p⟩ := Post.ofO p
  obtain ⟨j, e2, p⟩ := Post.ofO p
  obtain ⟨c1, p⟩ := Post.chk p
  exact ⟨i, j, (asI_rp rx e1).1, (asI_rp ry e2).1, hc i j c1, Post.rt m p _ (h _ _ _ _ c1)⟩
def dI (i : Int) : Dv := .g (.int i)
theorem rpI {ι : List Addr} {H : Hp} {i : Int} : RpD G ι H (.int i) (dI i) := .g (.int i)
theorem rpB {ι : List Addr} {H : Hp} {b : Bool} : RpD G ι H (.bl b) (vB b) := .g (.bl b)
abbrev subD : Dv → Dv → Co Dv := i2 fun i j => dI (i - j)
theorem os_sub : OpS G E (rI0 fun i j => .int (i - j)) subD := os_i2 fun _ _ _ _ => rpI
/-- below 2 ^ 4096 -/
def small (i : Int) : Bool := Nat.blt i.natAbs (2 ^ 4096)
theorem small_lt {i : Int} (h : small i = true) : i.natAbs < 2 ^ 4096 := Nat.le_of_ble_eq_true h
def mulOk (i j : Int) : Bool := small i && small j
theorem mulOk_x {i j : Int} (h : mulOk i j = true) : CMulX i j := by
  obtain ⟨h1, h2⟩ := Bool.and_eq_true_iff.mp h
  exact mulx_ok (small_lt h1) (small_lt h2) (by decide)
def divOk (_ j : Int) : Bool := decide (0 < j) && small j
theorem divOk_w {i j : Int} (h : divOk i j = true) : CDivW i j := by
  obtain ⟨h1, h2⟩ := Bool.and_eq_true_iff.mp h
  have h3 := of_decide_eq_true h1
  refine ⟨h3, ?_⟩
  have h4 := small_lt h2
  have h5 : j.natAbs ≠ 0 := by omega
  have := (Nat.log2_lt h5).mpr h4
  omega
abbrev fdivD : Dv → Dv → Co Dv := i2c divOk fun i j => dI (i / j)
theorem os_fdiv : OpS G E (rI CDivW fun i j => .int (i / j)) fdivD := os_i2c (fun _ _ h => divOk_w h) fun _ _ _ _ _ => rpI
abbrev modD : Dv → Dv → Co Dv := i2c (fun _ j => decide (0 < j)) fun i j => dI (i % j)
theorem os_mod : OpS G E (rI (fun _ j => 0 < j) fun i j => .int (i % j)) modD := os_i2c (fun _ _ h => of_decide_eq_true h) fun _ _ _ _ _ => rpI
def powOk (i j : Int) : Bool := decide (0 ≤ j) && (decide (j ≤ 1000000) && Nat.blt i.natAbs (2 ^ 64))
theorem powOk_c {i j : Int} (h : powOk i j = true) : CPow i j := by
  obtain ⟨h1, h2⟩ := Bool.and_eq_true_iff.mp h
  obtain ⟨h3, h4⟩ := Bool.and_eq_true_iff.mp h2
  exact ⟨of_decide_eq_true h1, of_decide_eq_true h3, Nat.le_of_ble_eq_true h4⟩
abbrev powD : Dv → Dv → Co Dv := i2c powOk fun i j => dI (i ^ j.toNat)
theorem os_pow : OpS G E (rI CPow fun i j => .int (i ^ j.toNat)) powD := os_i2c (fun _ _ h => powOk_c h) fun _ _ _ _ _ => rpI
abbrev shlD : Dv → Dv → Co Dv := i2c powOk fun i j => dI (i * 2 ^ j.toNat)
theorem os_shl : OpS G E (rI CPow fun i j => .int (i * 2 ^ j.toNat)) shlD := os_i2c (fun _ _ h => powOk_c h) fun _ _ _ _ _ => rpI
abbrev ltD : Dv → Dv → Co Dv := i2 fun i j => vB (decide (i < j))
abbrev leD : Dv → Dv → Co Dv := i2 fun i j => vB (decide (i ≤ j))
abbrev gtD : Dv → Dv → Co Dv := i2 fun i j => vB (decide (j < i))
abbrev geD : Dv → Dv → Co Dv := i2 fun i j => vB (decide (j ≤ i))
theorem os_lt : OpS G E (rI0 fun i j => .bl (decide (i < j))) ltD := os_i2 fun _ _ _ _ => rpB
theorem os_le : OpS G E (rI0 fun i j => .bl (decide (i ≤ j))) leD := os_i2 fun _ _ _ _ => rpB
theorem os_gt : OpS G E (rI0 fun i j => .bl (decide (j < i))) gtD := os_i2 fun _ _ _ _ => rpB
theorem os_ge : OpS G E (rI0 fun i j => .bl (decide (j ≤ i))) geD := os_i2 fun _ _ _ _ => rpB

/-! ### == of data -/
def eqOk (x y : PyData) : Bool := PyData.canLay0 x && (PyData.canLay0 y && Nat.ble (min x.depth y.depth) 200)
def eqD (neg : Bool) : Dv → Dv → Co Dv := fun d e => bnd (asG d) fun x => bnd (asG e) fun y => chk (eqOk x y) (rt (vB (if neg then !PyData.eqv x y else PyData.eqv x y)))
def rEqX (K : PySem.W.Frag) (A : Around) (neg : Bool) : R2 := fun x y H Q => ∃ d e, Dp K H x d ∧ Dp K H y e ∧ d.canLay0 = true ∧ e.canLay0 = true ∧ A.units + min d.depth e.depth < cLine ∧ Q (.bl (if neg then !PyData.eqv d e else PyData.eqv d e)) H
theorem op_eqX {X : Cx} : OpR X (compareOp .Eq) (rEqX X.K X.A false) := by
  intro pins s σ H x y v u Q I rx ry h
  obtain ⟨d, e, hd, he, sd, se, hr, q⟩ := h
  obtain ⟨as, r1⟩ := Dp.reads I d x v hd rx
  obtain ⟨bs, r2⟩ := Dp.reads I e y u he ry
  exact SeqAt.compareEq_reads r1 r2 sd se hr ⟨.bl _, H, I, rfl, q⟩
theorem op_neX {X : Cx} : OpR X (compareOp .NotEq) (rEqX X.K X.A true) := by
  intro pins s σ H x y v u Q I rx ry h
  obtain ⟨d, e, hd, he, sd, se, hr, q⟩ := h
  obtain ⟨as, r1⟩ := Dp.reads I d x v hd rx
  obtain ⟨bs, r2⟩ := Dp.reads I e y u he ry
  exact SeqAt.compareNe_reads r1 r2 sd se hr ⟨.bl _, H, I, rfl, q⟩
theorem os_eq {A : Around} {neg : Bool} (hu : A.units + 200 < cLine) : OpS G E (rEqX G.K A neg) (eqD neg) := fun ι M H x y d e Q m rx ry p => by
  obtain ⟨a, h1, p⟩ := Post.asG m rx p
  obtain ⟨b, h2, p⟩ := Post.asG m ry p
  obtain ⟨c, p⟩ := Post.chk p
  obtain ⟨c1, c2⟩ := Bool.and_eq_true_iff.mp c
  obtain ⟨c3, c4⟩ := Bool.and_eq_true_iff.mp c2
  exact ⟨a, b, h1 (noDct_of _ c1), h2 (noDct_of _ c3), c1, c3, by
    have := Nat.le_of_ble_eq_true c4
    omega, Post.rt m p _ rpB⟩

/-! ### is None -/
def isN (neg : Bool) : Dv → Co Dv := fun d => match d with
  | .g .none => rt (vB (!neg))
  | .g _ => rt (vB neg)
  | .r _ => rt (vB neg)
  | .t _ => rt (vB neg)
  | .u => fl
theorem isN_rp {neg : Bool} {Q : VK} (m : MemR G ι H M) (r : RpD G ι H v d) (p : Post G E ι H (QE G Q) (isN neg d M)) : Q (.bl (if neg then !decide (v = .non) else decide (v = .non))) H := by
  cases neg <;> cases r with
  | g r => cases r <;> exact Post.rt m p _ rpB
  | _ => exact Post.rt m p _ rpB
end
section
variable {X : Cx} {G : Gx} {E : XK} {e e1 e2 : Expr} {f g : Slots → Co Dv} {pos : Pos}
theorem xisN {j pos'} (ha : PE X e (rdE G E f)) : PE X (.Compare e [.Is] [.Constant .none j pos'] pos) (rdE G E (b1 (isN false) f)) :=
  peI (pe_cmp (pc_isN ha)) fun σ H Q h => by
    obtain ⟨ι, ρ, M, st, p⟩ := h
    exact ⟨ι, ρ, M, st, (Post.bnd p).mono fun d ι1 M1 H1 x1 p1 v rv => isN_rp (neg := false) x1.mem rv p1⟩
theorem xnotN {j pos'} (ha : PE X e (rdE G E f)) : PE X (.Compare e [.IsNot] [.Constant .none j pos'] pos) (rdE G E (b1 (isN true) f)) :=
  peI (pe_cmp (pc_notN ha)) fun σ H Q h => by
    obtain ⟨ι, ρ, M, st, p⟩ := h
    exact ⟨ι, ρ, M, st, (Post.bnd p).mono fun d ι1 M1 H1 x1 p1 v rv => isN_rp (neg := true) x1.mem rv p1⟩
theorem xtisN {j pos'} (ha : PE X e (rdE G E f)) : PT X (.Compare e [.Is] [.Constant .none j pos'] pos) (rdT G E (tst (b1 (isN false) f))) :=
  ptI (pt_cmp (pc_isN ha)) fun σ H Q h => by
    obtain ⟨ι, ρ, M, st, p⟩ := rd_tst h
    exact ⟨ι, ρ, M, st, (Post.bnd p).mono fun d ι1 M1 H1 x1 p1 v rv => isN_rp (Q := fun x H' => ∃ k, x = V.bl k ∧ Q k H') (neg := false) x1.mem rv p1⟩
theorem xtnotN {j pos'} (ha : PE X e (rdE G E f)) : PT X (.Compare e [.IsNot] [.Constant .none j pos'] pos) (rdT G E (tst (b1 (isN true) f))) :=
  ptI (pt_cmp (pc_notN ha)) fun σ H Q h => by
    obtain ⟨ι, ρ, M, st, p⟩ := rd_tst h
    exact ⟨ι, ρ, M, st, (Post.bnd p).mono fun d ι1 M1 H1 x1 p1 v rv => isN_rp (Q := fun x H' => ∃ k, x = V.bl k ∧ Q k H') (neg := true) x1.mem rv p1⟩

/-! ### +, where lists may come: the new one is locked -/
abbrev VF (Q : VK) : VK := fun v H1 => Q v H1 ∨ ∃ d u, v = .ref d ∧ H1 d = some u ∧ Mut (some u) ∧ ∀ od, Q v (upd H1 d (.frz od u))
def OpF (G : Gx) (E : XK) (r : R2) (F : Dv → Dv → Co Dv) : Prop := ∀ (ι : List Addr) (M : Mem) (H : Hp) (x y : V) (d e : Dv) (Q : VK), MemR G ι H M → RpD G ι H x d → RpD G ι H y e → Post G E ι H (QE G Q) (F d e M) → r x y H (VF Q)
theorem xbinF {op : Operator} {r : R2} {F : Dv → Dv → Co Dv} (ho : OpR X (binaryOp op) r) (hF : OpF G E r F) (ha : PE X e1 (rdE G E f)) (hb : PE X e2 (rdE G E g)) : PE X (.BinOp e1 op e2 pos) (rdE G E (b2 F f g)) :=
  peI (pe_frz (pe_op ho ha hb)) fun σ H Q h => by
    obtain ⟨ι, ρ, M, st, p⟩ := h
    refine ⟨ι, ρ, M, st, (Post.bnd p).mono fun d ι1 M1 H1 x1 p1 v rv => ?_⟩
    refine ⟨ι1, ρ, M1, st.ext x1, (Post.bnd p1).mono fun d2 ι2 M2 H2 x2 p2 w rw => ?_⟩
    exact hF ι2 M2 H2 v w d d2 Q x2.mem (rv.mono x2.pre x2.keep) rw p2
/-- list + list, any two that are read -/
def rCatF (K : PySem.W.Frag) : R2 := fun x y H Q => ∃ l b xs zs, x = .ref l ∧ y = .ref b ∧ SqL K H l xs ∧ SqL K H b zs ∧ xs.length + zs.length ≤ sizeLine ∧ ∀ p, H p = none → Q (.ref p) (upd H p (.lst (xs ++ zs)))
theorem op_catF : OpR X (binaryOp .Add) (rCatF X.K) := by
  intro pins s σ H x y v u Q I rx ry h
  obtain ⟨l, b, xs, zs, rfl, rfl, h1, h2, hz, q⟩ := h
  cases rx
  cases ry
  obtain ⟨its, rv, ⟨⟨c1, dd1, dt1, sl1⟩, n1, ho1, hc1, hd1, hs1⟩, z1⟩ := I.list h1
  obtain ⟨jts, rw, ⟨⟨c2, dd2, dt2, sl2⟩, n2, ho2, hc2, hd2, hs2⟩, z2⟩ := I.list h2
  simp only at hc1 hd1 hs1 hc2 hd2 hs2
  subst hc1 hd1 hs1 hc2 hd2 hs2
  have e1 := rv.length
  have e2 := rw.length
  have e : its.toArray ++ jts.toArray = (its ++ jts).toArray := by simp
  refine concat_meets ⟨_, ho1, rfl⟩ ⟨_, ho2, rfl⟩ noFill_list_add seq_list_add PySem.F.slot_list_add PySem.F.entry_list_add (PySem.F.args_list_add_2 _ _)
    (list_addW l b its.toArray jts.toArray n1 n2 none none sl1 sl2 (by rw [List.size_toArray, List.size_toArray]; omega)) ⟨ho1, ho2, ?_⟩
  rw [e]
  refine ⟨.ref s.heap.objs.size, _, I.laid (t' := s.toks) (o := .lst (xs ++ zs)) (fun b ob q => Heap.get?_push_of_some _ q) (Nat.le_refl _) ?_, rfl, q _ (I.hok.fresh (Nat.le_refl _))⟩
  exact ⟨by rw [List.length_append]; exact hz, _, 0, rv.append rw, Heap.get?_push_size _ rfl⟩
def addD : Dv → Dv → Co Dv := fun d e => match d with
  | .g (.int i) => bnd (ofO (asI e)) fun j => rt (dI (i + j))
  | .g (.tuple xs) => (match e with
    | .g (.tuple ys) => chk (szOk (xs.length + ys.length)) (rt (.g (.tuple (xs ++ ys))))
    | _ => fl)
  | d => bnd (asG d) fun x => bnd (asG e) fun y => match x, y with
    | .list xs, .list ys => chk (szOk (xs.length + ys.length)) (rt (.g (.list (xs ++ ys))))
    | _, _ => fl
def rAdd (K : PySem.W.Frag) : R2 := fun x y H Q => (rI0 fun i j => .int (i + j)) x y H Q ∨ (rCatA K x y H Q ∨ rCatF K x y H Q)
theorem op_addX : OpR X (binaryOp .Add) (rAdd X.K) := OpR.or op_add (OpR.or op_catA op_catF)
end
section
variable {G : Gx} {E : XK} {ι : List Addr} {H : Hp} {M : Mem} {v : V} {d : Dv}
theorem RpVs.append {K : PySem.W.Frag} : ∀ {vs ws : List V} {ds es : List PyData}, RpVs K H vs ds → RpVs K H ws es → RpVs K H (vs ++ ws) (ds ++ es)
  | _, _, _, _, .nil, h => h
  | _, _, _, _, .cons h r, z => .cons h (RpVs.append r z)
/-- a list's data -/
theorem asG_lst {xs : List PyData} (m : MemR G ι H M) (r : RpD G ι H v d) (e : asGp d M = some (.list xs)) : ∃ a vs, v = .ref a ∧ SqL G.K H a vs ∧ RpVs G.K H vs xs := by
  cases r with
  | g r =>
    cases e
    cases r with
    | lst h r => exact ⟨_, _, rfl, h.sq, r⟩
  | @r a i hi =>
    obtain ⟨ds, ys, e1, e2, e3⟩ := asGp_r e
    cases e3
    obtain ⟨vs, h1, h2⟩ := m.lstE hi e1
    exact ⟨_, _, rfl, .of h1, h2.grd e2⟩
  | t _ _ => cases e
/-- a list just made, to be locked -/
theorem lockF {vs : List V} {xs : List PyData} {Q : VK} (m : MemR G ι H M) (r : RpVs G.K H vs xs) (p : Post G E ι H (QE G Q) (rt (.g (.list xs)) M)) : ∀ a, H a = none → VF Q (.ref a) (upd H a (.lst vs)) := fun a ha => lockL m ha r p
theorem of_catF {xs ys : List PyData} {x y : V} {d e : Dv} {Q : VK} (m : MemR G ι H M) (rx : RpD G ι H x d) (ry : RpD G ι H y e) (e1 : asGp d M = some (.list xs)) (e2 : asGp e M = some (.list ys))
    (p : Post G E ι H (QE G Q) (chk (szOk (xs.length + ys.length)) (rt (.g (.list (xs ++ ys)))) M)) : rCatF G.K x y H (VF Q) := by
  obtain ⟨a, vs, rfl, h1, r1⟩ := asG_lst m rx e1
  obtain ⟨b, ws, rfl, h2, r2⟩ := asG_lst m ry e2
  obtain ⟨c, p⟩ := Post.chk p
  exact ⟨a, b, vs, ws, rfl, rfl, h1, h2, by rw [r1.length, r2.length]; exact szOk_le c, lockF m (r1.append r2) p⟩
theorem of_add : OpF G E (rAdd G.K) addD := fun ι M H x y d e Q m rx ry p => by
  have gen : ∀ {d}, RpD G ι H x d → Post G E ι H (QE G Q) ((bnd (asG d) fun x => bnd (asG e) fun y => match x, y with
    | .list xs, .list ys => chk (szOk (xs.length + ys.length)) (rt (.g (.list (xs ++ ys))))
    | _, _ => fl) M) → rAdd G.K x y H (VF Q) := fun {d} rx p => by
    obtain ⟨a, e1, p⟩ := Post.asGe p
    obtain ⟨b, e2, p⟩ := Post.asGe p
    cases a with
    | list xs =>
      cases b with
      | list ys => exact .inr (.inr (of_catF m rx ry e1 e2 p))
      | _ => exact p.elim
    | _ => exact p.elim
  cases rx with
  | g rx =>
    cases rx with
    | int i =>
      obtain ⟨j, e2, p⟩ := Post.ofO p
      exact .inl ⟨i, j, rfl, (asI_rp ry e2).1, .inl (Post.rt m p _ rpI)⟩
    | @tup a vs xs h1 r1 =>
      cases ry with
      | g ry =>
        cases ry with
        | @tup b ws ys h2 r2 =>
          obtain ⟨c, p⟩ := Post.chk p
          refine .inr (.inl ⟨a, b, vs, ws, rfl, rfl, .of h1, .of h2, by rw [r1.length, r2.length]; exact szOk_le c, fun z => ?_, fun _ z => ?_, fun _ _ q hq => ?_⟩)
          · have e1 : xs = [] := by
              cases xs with
              | nil => rfl
              | cons _ _ =>
                rw [z] at r1
                cases r1
            rw [e1, List.nil_append] at p
            exact .inl (Post.rt m p _ (.g (.tup h2 r2)))
          · have e1 : ys = [] := by
              cases ys with
              | nil => rfl
              | cons _ _ =>
                rw [z] at r2
                cases r2
            rw [e1, List.append_nil] at p
            exact .inl (Post.rt m p _ (.g (.tup h1 r1)))
          · have x2 : Ext G ι H ι M (upd H q (.tup (vs ++ ws))) := .new m hq
            exact .inl (Post.rt x2.mem (p.shift x2) _ (.g (.tup upd_same ((r1.append r2).mono x2.keep))))
        | _ => exact p.elim
      | _ => exact p.elim
    | lst h1 r1 => exact gen (.g (.lst h1 r1)) p
    | _ =>
      obtain ⟨b, e2, p⟩ := Post.asGe p
      exact p.elim
  | r hi => exact gen (.r hi) p
  | t h r => exact p.elim

/-! ### * -/
def mulD : Dv → Dv → Co Dv := fun d e => match d with
  | .g (.tuple xs) => bnd (ofO (asI e)) fun k => chk (!xs.isEmpty && (decide (2 ≤ k) && (decide (k ≤ 1000) && Nat.ble xs.length 1000))) (rt (.g (.tuple (List.replicate k.toNat xs).flatten)))
  | d => i2c mulOk (fun i j => dI (i * j)) d e
def rMul (K : PySem.W.Frag) : R2 := fun x y H Q => (rI CMulX fun i j => .int (i * j)) x y H Q ∨ rRepT K x y H Q
theorem RpVs.rep {K : PySem.W.Frag} {vs : List V} {ds : List PyData} (r : RpVs K H vs ds) : ∀ k : Nat, RpVs K H (List.replicate k vs).flatten (List.replicate k ds).flatten
  | 0 => .nil
  | k + 1 => by
    rw [List.replicate_succ, List.replicate_succ, List.flatten_cons, List.flatten_cons]
    exact r.append (RpVs.rep r k)
theorem os_mul : OpS G E (rMul G.K) mulD := fun ι M H x y d e Q m rx ry p => by
  have gen : ∀ {d}, RpD G ι H x d → Post G E ι H (QE G Q) (i2c mulOk (fun i j => dI (i * j)) d e M) → rMul G.K x y H Q := fun {d} rx p =>
    .inl (os_i2c (E := E) (fun _ _ h => mulOk_x h) (fun _ _ _ _ _ => rpI) ι M H x y d e Q m rx ry p)
  cases rx with
  | g rx =>
    cases rx with
    | @tup a vs xs h1 r1 =>
      obtain ⟨k, e2, p⟩ := Post.ofO p
      obtain ⟨c, p⟩ := Post.chk p
      obtain ⟨c1, c⟩ := Bool.and_eq_true_iff.mp c
      obtain ⟨c2, c⟩ := Bool.and_eq_true_iff.mp c
      obtain ⟨c3, c4⟩ := Bool.and_eq_true_iff.mp c
      have hl := r1.length
      refine .inr ⟨a, k, vs, rfl, (asI_rp ry e2).1, .of h1, fun z => ?_, of_decide_eq_true c2, of_decide_eq_true c3, by rw [hl]; exact Nat.le_of_ble_eq_true c4, fun q hq => ?_⟩
      · rw [z] at hl
        cases xs with
        | nil => cases c1
        | cons _ _ => cases hl
      · have x2 : Ext G ι H ι M (upd H q (.tup (List.replicate k.toNat vs).flatten)) := .new m hq
        exact Post.rt x2.mem (p.shift x2) _ (.g (.tup upd_same ((r1.rep k.toNat).mono x2.keep)))
    | int i => exact gen (.g (.int i)) p
    | _ => exact p.elim
  | _ => exact p.elim
end
section
variable {X : Cx}
theorem op_mulY : OpR X (binaryOp .Mult) (rMul X.K) := OpR.or op_mulX op_repT
end
end Xt
set_option Elab.async false
set_option linter.all false
set_option maxRecDepth 100000
set_option maxHeartbeats 1000000
namespace Xt
open PySem PySem.Spec PyProof.Rows L2

section
variable {G : Gx} {E : XK} {ι : List Addr} {H : Hp} {M : Mem} {v : V} {d : Dv}
/-! ### places -/
theorem atI_len {α β : Type} {xs : List α} {ys : List β} {i : Int} {y : β} (hl : xs.length = ys.length) (h : atI ys i = some y) : ∃ j, ixN ys.length i = some j ∧ ys[j]? = some y ∧ ∃ x, xs[j]? = some x ∧ atI xs i = some x := by
  unfold atI at h
  cases e : ixN ys.length i with
  | none =>
    rw [e] at h
    cases h
  | some j =>
    rw [e] at h
    have h2 : ys[j]? = some y := h
    have hj : j < xs.length := by
      rw [hl]
      exact (List.getElem?_eq_some_iff.mp h2).1
    refine ⟨j, rfl, h2, xs[j], List.getElem?_eq_getElem hj, ?_⟩
    unfold atI
    rw [hl, e]
    exact List.getElem?_eq_getElem hj
theorem RpVs.get {K : PySem.W.Frag} : ∀ {vs : List V} {ds : List PyData} {i : Nat} {d : PyData} {v : V}, RpVs K H vs ds → ds[i]? = some d → vs[i]? = some v → RpV K H v d
  | _, _, _, _, _, .nil, h, _ => by simp at h
  | _, _, 0, _, _, .cons h _, e, e2 => by
    simp at e e2
    subst e e2
    exact h
  | _, _, i + 1, _, _, .cons _ r, e, e2 => RpVs.get (i := i) r (by simpa using e) (by simpa using e2)
theorem RpVs.at {K : PySem.W.Frag} {vs : List V} {ds : List PyData} {i : Int} {d : PyData} (r : RpVs K H vs ds) (h : atI ds i = some d) : ∃ v, atI vs i = some v ∧ RpV K H v d := by
  obtain ⟨j, _, h1, x, h2, h3⟩ := atI_len r.length h
  exact ⟨x, h3, r.get h1 h2⟩
theorem RpDs.at {vs : List V} {ds : List Dv} {i : Int} {d : Dv} (r : RpDs G ι H vs ds) (h : atI ds i = some d) : ∃ v, atI vs i = some v ∧ RpD G ι H v d := by
  obtain ⟨j, _, h1, x, h2, h3⟩ := atI_len r.length h
  obtain ⟨w, h4, h5⟩ := r.get h1
  rw [h4] at h2
  cases h2
  exact ⟨_, h3, h5⟩
/-- o[i] -/
def ixD : Dv → Dv → Co Dv := fun d e => bnd (ofO (asI e)) fun i => match d with
  | .g (.list xs) => bnd (ofO (atI xs i)) fun x => rt (.g x)
  | .g (.tuple xs) => bnd (ofO (atI xs i)) fun x => rt (.g x)
  | .t xs => ofO (atI xs i)
  | .r k => atM k fun mo => match mo with
    | .lst xs => ofO (atI xs i)
    | _ => fl
  | _ => fl
def rIxX (K : PySem.W.Frag) : R2 := fun x y H Q => rIxL K x y H Q ∨ rIxT K x y H Q
theorem post_ofO {α : Type} {o : Option α} {Q : α → List Addr → Mem → Hp → Prop} (m : MemR G ι H M) (p : Post G E ι H Q (ofO o M)) : ∃ a, o = some a ∧ Q a ι M H := by
  cases o with
  | none => exact p.elim
  | some a => exact ⟨a, rfl, Post.rt m p⟩
theorem os_ix : OpS G E (rIxX G.K) ixD := fun ι M H x y d e Q m rx ry p => by
  obtain ⟨i, e2, p⟩ := Post.ofO p
  have hy := (asI_rp ry e2).1
  cases rx with
  | g rx =>
    cases rx with
    | lst h r =>
      obtain ⟨z, e3, p⟩ := Post.ofO p
      obtain ⟨w, h1, h2⟩ := r.at e3
      exact .inl ⟨_, _, i, w, rfl, hy, h.sq, h1, Post.rt m p _ (.g h2)⟩
    | tup h r =>
      obtain ⟨z, e3, p⟩ := Post.ofO p
      obtain ⟨w, h1, h2⟩ := r.at e3
      exact .inr ⟨_, _, i, w, rfl, hy, .of h, h1, Post.rt m p _ (.g h2)⟩
    | _ => exact p.elim
  | @r a k hk =>
    obtain ⟨mo, q, p⟩ := Post.atM p
    cases mo with
    | lst xs =>
      obtain ⟨z, e3, p⟩ := post_ofO m p
      obtain ⟨vs, h1, h2⟩ := m.lstE hk q
      obtain ⟨w, h3, h4⟩ := h2.at e3
      exact .inl ⟨_, _, i, w, rfl, hy, .of h1, h3, p _ h4⟩
    | _ => exact p.elim
  | t h r =>
    obtain ⟨z, e3, p⟩ := post_ofO m p
    obtain ⟨w, h3, h4⟩ := r.at e3
    exact .inr ⟨_, _, i, w, rfl, hy, .of h, h3, p _ h4⟩
/-! ### len -/
def lenD : List Dv → Co Dv := fun ds => match ds with
  | [.g (.list xs)] => rt (dI xs.length)
  | [.g (.tuple xs)] => rt (dI xs.length)
  | [.t xs] => rt (dI xs.length)
  | [.r k] => atM k fun mo => match mo with
    | .lst xs => rt (dI xs.length)
    | .dct xs => rt (dI xs.length)
    | _ => fl
  | _ => fl
def rLenX (K : PySem.W.Frag) : List V → Hp → VK → Prop := fun xs H Q => (∃ p ys, xs = [.ref p] ∧ (SqL K H p ys ∨ SqT K H p ys) ∧ Q (.int ys.length) H) ∨ ∃ a kvs, xs = [V.ref a] ∧ H a = some (.dK kvs) ∧ Q (.int kvs.length) H
theorem cs_len : CaS G E (rLenX G.K) lenD := fun ι M H xs ds Q m r p => by
  cases r with
  | nil => exact p.elim
  | cons r t =>
    cases t with
    | cons _ _ => cases r with
      | g r => cases r <;> exact p.elim
      | _ => exact p.elim
    | nil =>
      cases r with
      | g r =>
        cases r with
        | lst h r => exact .inl ⟨_, _, rfl, .inl h.sq, Post.rt m p _ (by rw [r.length]; exact rpI)⟩
        | tup h r => exact .inl ⟨_, _, rfl, .inr (.of h), Post.rt m p _ (by rw [r.length]; exact rpI)⟩
        | _ => exact p.elim
      | @r a k hk =>
        obtain ⟨mo, q, p⟩ := Post.atM p
        cases mo with
        | lst xs =>
          obtain ⟨vs, h1, h2⟩ := m.lstE hk q
          exact .inl ⟨_, _, rfl, .inl (.of h1), Post.rt m p _ (by rw [h2.length]; exact rpI)⟩
        | dct xs =>
          obtain ⟨vs, h1, h2⟩ := m.dctE hk q
          exact .inr ⟨_, _, rfl, h1, Post.rt m p _ (by rw [h2.length]; exact rpI)⟩
        | _ => exact p.elim
      | t h r => exact .inl ⟨_, _, rfl, .inr (.of h), Post.rt m p _ (by rw [r.length]; exact rpI)⟩
end
section
variable {X : Cx} {G : Gx} {E : XK} {e e1 e2 : Expr} {es : List Expr} {f g : Slots → Co Dv} {pos : Pos}
theorem ix_X : IxR X (rIxX X.K) := ix_list.or ix_tup
theorem xix (hK : X.K = G.K) (ha : PE X e1 (rdE G E f)) (hb : PE X e2 (rdE G E g)) (hs : PlainIx e2 := by intro _ _; rfl) : PE X (.Subscript e1 e2 pos) (rdE G E (b2 ixD f g)) :=
  peI (pe_ix ix_X ha hb hs) fun _ _ _ h => by
    rw [hK]
    exact rd_b2 (t := rdE G E f) os_ix h
theorem cr_lenX : CallR X (.builtin "len") (rLenX X.K) := CallR.or call_len_seq call_lenD
/-- a built-in function by its name -/
def cB (F : List Dv → Co Dv) (gs : Slots → Co (List Dv)) : Slots → Co Dv := fun ρ => bnd (gs ρ) F
theorem rd_cB {r : List V → Hp → VK → Prop} {F : List Dv → Co Dv} {gs : Slots → Co (List Dv)} (hF : CaS G E r F) {σ : L2.St} {H : Hp} {Q : VK} (h : rdE G E (cB F gs) σ H Q) : tCB r (rdA G E gs) σ H Q := by
  obtain ⟨ι, ρ, M, st, p⟩ := h
  exact ⟨ι, ρ, M, st, (Post.bnd p).mono fun ds ι1 M1 H1 x1 p1 vs rv => hF ι1 M1 H1 vs ds Q x1.mem rv p1⟩
theorem xcb {x : Str} {p : Pos} {id : String} {r : List V → Hp → VK → Prop} {F : List Dv → Co Dv} {gs : Slots → Co (List Dv)} (hc : CallR X (.builtin id) r) (hF : CaS G E r F) (hg : Gl X x) (hm : X.mg x = none) (hv : bootBuiltins x = some (.builtin id)) (ha : PA X (e :: es) (rdA G E gs))
    (hn : x ≠ "__name__" := by decide) (hdb : (x == ("__debug__" : Str)) = false := by decide) (he : starEach (e :: es) X.env = (false, eval e X.env) :: starEach es X.env := by rfl) (hpl : (backTo pos (starEach es X.env)).any (·.1) = false := by rfl) :
    PE X (.Call (.Name x p) (e :: es) [] pos) (rdE G E (cB F gs)) := peI (pe_callB hc hg hm hv ha hn hdb he hpl) fun _ _ _ h => rd_cB hF h
theorem xct {x : Str} {p : Pos} {T : String} {r : List V → Hp → VK → Prop} {F : List Dv → Co Dv} {gs : Slots → Co (List Dv)} (hc : CallR X (.type T) r) (hF : CaS G E r F) (hg : Gl X x) (hm : X.mg x = none) (hv : bootBuiltins x = some (.type T)) (ha : PA X (e :: es) (rdA G E gs))
    (hn : x ≠ "__name__" := by decide) (hdb : (x == ("__debug__" : Str)) = false := by decide) (he : starEach (e :: es) X.env = (false, eval e X.env) :: starEach es X.env := by rfl) (hpl : (backTo pos (starEach es X.env)).any (·.1) = false := by rfl) :
    PE X (.Call (.Name x p) (e :: es) [] pos) (rdE G E (cB F gs)) := peI (pe_callTy hc hg hm hv ha hn hdb he hpl) fun _ _ _ h => rd_cB hF h
/-- a function of an imported module -/
theorem xcm {x : Str} {p : Pos} {id : String} {r : List V → Hp → VK → Prop} {F : List Dv → Co Dv} {gs : Slots → Co (List Dv)} (hc : CallR X (.builtin id) r) (hF : CaS G E r F) (hg : Gl X x) (hm : X.mg x = some (.builtin id)) (ha : PA X (e :: es) (rdA G E gs))
    (hdb : (x == ("__debug__" : Str)) = false := by decide) (he : starEach (e :: es) X.env = (false, eval e X.env) :: starEach es X.env := by rfl) (hpl : (backTo pos (starEach es X.env)).any (·.1) = false := by rfl) :
    PE X (.Call (.Name x p) (e :: es) [] pos) (rdE G E (cB F gs)) := peI (pe_callBfun hc hg hm ha hdb he hpl) fun _ _ _ h => rd_cB hF h

/-! ### calls of the text's own defs -/
def spF (G : Gx) (F : List Dv → Co Dv) : Sp := fun vs H Q E => ∃ ι M ds, MemR G ι H M ∧ RpDs G ι H vs ds ∧ Post G E ι H (QE G Q) (F ds M)
theorem spF_imp {F F' : List Dv → Co Dv} (h : ∀ ds M, F' ds M = F ds M ∨ F' ds M = .fail) {vs : List V} {H : Hp} {Q : VK} (s : spF G F' vs H Q E) : spF G F vs H Q E := by
  obtain ⟨ι, M, ds, m, r, p⟩ := s
  rcases h ds M with z | z
  · exact ⟨ι, M, ds, m, r, by rw [← z]; exact p⟩
  · rw [z] at p
    exact p.elim
variable {CX : CXT} {k : Nat} {fa : Addr} {fd : FuncData} {ps : List Str} {x : Str} {p : Pos} {F : List Dv → Co Dv} {gs : Slots → Co (List Dv)}
theorem rd_callW {σ : L2.St} {H : Hp} {Q : VK} (h : rdE G E (cB F gs) σ H Q) : tCall (spF G F) [] E (rdA G E gs) σ H Q := by
  obtain ⟨ι, ρ, M, st, p⟩ := h
  refine ⟨ι, ρ, M, st, (Post.bnd p).mono fun ds ι1 M1 H1 x1 p1 vs rv => ?_⟩
  show spF G F (vs ++ []) H1 Q E
  rw [List.append_nil]
  exact ⟨ι1, M1, ds, x1.mem, rv, p1⟩
/-- the whole memory is handed over -/
theorem xcallW (Fk : FnOk X.prog X.w X.K X.mg X.base CX k fa fd ps (spF G F)) (hr : Room k X.A) (hg : Gl X x) (hm : X.mg x = some (.ref fa)) (hk : PySem.W.keepIn X.K (.ref fa) = true) (hb : Binds X.K fd ps []) (hx : Passes CX X E) (ha : PA X (e :: es) (rdA G E gs))
    (hdb : (x == ("__debug__" : Str)) = false := by decide) (he : starEach (e :: es) X.env = (false, eval e X.env) :: starEach es X.env := by rfl) (hpl : (backTo pos (starEach es X.env)).any (·.1) = false := by rfl) :
    PE X (.Call (.Name x p) (e :: es) [] pos) (rdE G E (cB F gs)) := peI (pe_call Fk hr hg hm hk hb .nil hx ha hdb he hpl) fun _ _ _ h => rd_callW h
/-- data alone are handed over, and come back -/
def pureC (F : List Dv → Co Dv) : List Dv → Co Dv := fun ds => bnd (ofO (grd ds)) fun xs M => match F (xs.map Dv.g) [] with
  | .ok (.g x) _ => .ok (.g x) M
  | .ok _ _ => .fail
  | .ex c _ => .ex c M
  | .fail => .fail
theorem Ext.pure {ι ι' : List Addr} {M M' : Mem} {H H' : Hp} (m : MemR G ι H M) (y : Ext G [] H ι' M' H') : Ext G ι H ι M H' where
  pre := List.prefix_refl _
  mem := ⟨m.len, m.nd, fun i a mo h1 h2 => by
    have q := m.ob i a mo h1 h2
    obtain ⟨o, ho⟩ := m.at (List.mem_of_getElem? h1)
    refine q.mono (List.prefix_refl _) y.keep ?_
    have nt : isTbl o = false := by
      cases mo with
      | lst xs =>
        obtain ⟨vs, q, _⟩ := q
        rw [ho] at q
        cases q
        rfl
      | dct xs =>
        obtain ⟨vs, q, _⟩ := q
        rw [ho] at q
        cases q
        rfl
      | ins c xs =>
        obtain ⟨C, dx, fvs, _, q, _⟩ := q
        rw [ho] at q
        cases q
        rfl
      | dead =>
        obtain ⟨o2, q2, q3⟩ := q
        rw [ho] at q2
        cases q2
        exact q3
    rw [ho]
    exact y.frame a o ho nt (by simp), y.mem.tab⟩
  keep := y.keep
  frame := fun b o h1 h2 _ => y.frame b o h1 h2 (by simp)
  tbl := y.tbl
  fresh := fun a h n => absurd h n
theorem rd_callP {σ : L2.St} {H : Hp} {Q : VK} (h : rdE G E (cB (pureC F) gs) σ H Q) : tCall (spF G F) [] E (rdA G E gs) σ H Q := by
  obtain ⟨ι, ρ, M, st, p⟩ := h
  refine ⟨ι, ρ, M, st, (Post.bnd p).mono fun ds ι1 M1 H1 x1 p1 vs rv => ?_⟩
  show spF G F (vs ++ []) H1 Q E
  rw [List.append_nil]
  obtain ⟨xs, e, p2⟩ := Post.ofO p1
  refine ⟨[], [], xs.map Dv.g, ⟨rfl, List.nodup_nil, fun i a mo h _ => by simp at h, x1.mem.tab⟩, (rv.grd e).ds, ?_⟩
  cases q : F (xs.map Dv.g) [] with
  | fail =>
    simp only [q] at p2
    exact p2.elim
  | ok d M' =>
    simp only [q] at p2
    intro ι' H' y v rd
    cases d with
    | g z =>
      cases rd with
      | g rz => exact p2 ι1 H' (.pure x1.mem y) v (.g rz)
    | _ => exact p2.elim
  | ex c M' =>
    simp only [q] at p2
    intro ι' H' cls dx y hx
    exact p2 ι1 H' cls dx (.pure x1.mem y) hx
theorem xcallP (Fk : FnOk X.prog X.w X.K X.mg X.base CX k fa fd ps (spF G F)) (hr : Room k X.A) (hg : Gl X x) (hm : X.mg x = some (.ref fa)) (hk : PySem.W.keepIn X.K (.ref fa) = true) (hb : Binds X.K fd ps []) (hx : Passes CX X E) (ha : PA X (e :: es) (rdA G E gs))
    (hdb : (x == ("__debug__" : Str)) = false := by decide) (he : starEach (e :: es) X.env = (false, eval e X.env) :: starEach es X.env := by rfl) (hpl : (backTo pos (starEach es X.env)).any (·.1) = false := by rfl) :
    PE X (.Call (.Name x p) (e :: es) [] pos) (rdE G E (cB (pureC F) gs)) := peI (pe_call Fk hr hg hm hk hb .nil hx ha hdb he hpl) fun _ _ _ h => rd_callP h

/-! ### statements -/
theorem StR.set {H : Hp} {σ : L2.St} {ι : List Addr} {ρ : Slots} {M : Mem} (s : StR G H σ ι ρ M) (i : Nat) {v : V} {d : Dv} (r : RpD G ι H v d) : StR G H (σ.set i (some v)) ι (ρ.set i d) M :=
  ⟨by rw [List.length_set, List.length_set, s.len], s.mem, fun j d' h n => by
    by_cases hj : i = j
    · subst hj
      have hl : i < ρ.length := by
        have := (List.getElem?_eq_some_iff.mp h).1
        rwa [List.length_set] at this
      rw [List.getElem?_set_self hl] at h
      cases h
      exact ⟨v, by rw [List.getElem?_set_self (by rw [s.len]; exact hl)], r⟩
    · rw [List.getElem?_set_ne hj] at h
      rw [List.getElem?_set_ne hj]
      exact s.sl j d' h n⟩
/-- a target -/
def rdG (G : Gx) (E : XK) (tf : Dv → Slots → Co Slots) : TG := fun v σ H Q => ∃ ι ρ M d, StR G H σ ι ρ M ∧ RpD G ι H v d ∧ Post G E ι H (fun ρ' ι' M' H' => ∀ σ', StR G H' σ' ι' ρ' M' → Q σ' H') (tf d ρ M)
def rdGs (G : Gx) (E : XK) (tf : List Dv → Slots → Co Slots) : TGs := fun vs σ H Q => ∃ ι ρ M ds, StR G H σ ι ρ M ∧ RpDs G ι H vs ds ∧ Post G E ι H (fun ρ' ι' M' H' => ∀ σ', StR G H' σ' ι' ρ' M' → Q σ' H') (tf ds ρ M)
theorem pgI {e : Expr} {t t' : TG} (h : PG X e t) (k : ∀ v σ H Q, t' v σ H Q → t v σ H Q) : PG X e t' := ⟨fun pins s σ H v u Q I r z => h.run pins s σ H v u Q I r (k v σ H Q z)⟩
theorem pgsI {e : List Expr} {t t' : TGs} (h : PGs X e t) (k : ∀ v σ H Q, t' v σ H Q → t v σ H Q) : PGs X e t' := ⟨fun pins s σ H v u Q I r z => h.run pins s σ H v u Q I r (k v σ H Q z)⟩
def tN (i : Nat) : Dv → Slots → Co Slots := fun d ρ => rt (ρ.set i d)
theorem xgn (i : Nat) (hN : X.N.Nodup) (hi : X.N[i]? = some x := by rfl) (hx : Loc X.env.scope x := by first | exact Or.inl rfl | exact Or.inr rfl) (hf : X.fn x = true ∨ X.env.scope.names.lookup x = some .local := by first | exact .inl rfl | exact .inr rfl | assumption) : PG X (.Name x pos) (rdG G E (tN i)) :=
  pgI (pg_name hN hi hx hf) fun v σ H Q h => by
    obtain ⟨ι, ρ, M, d, st, r, p⟩ := h
    exact Post.rt st.mem p _ (st.set i r)
def tZ : List Dv → Slots → Co Slots := fun ds ρ => match ds with
  | [] => rt ρ
  | _ => fl
def tC (a : Dv → Slots → Co Slots) (b : List Dv → Slots → Co Slots) : List Dv → Slots → Co Slots := fun ds ρ => match ds with
  | d :: r => bnd (a d ρ) fun ρ' => b r ρ'
  | [] => fl
theorem xgs0 : PGs X [] (rdGs G E tZ) := pgsI pgs_nil fun vs σ H Q h => by
  obtain ⟨ι, ρ, M, ds, st, r, p⟩ := h
  cases r with
  | nil => exact ⟨rfl, Post.rt st.mem p _ st⟩
  | cons _ _ => exact p.elim
theorem xgs1 {a : Dv → Slots → Co Slots} {b : List Dv → Slots → Co Slots} (h1 : PG X e (rdG G E a)) (h2 : PGs X es (rdGs G E b)) (hs : (assignEach (e :: es) X.env).map (·.2) = assign e X.env :: (assignEach es X.env).map (·.2) := by rfl) : PGs X (e :: es) (rdGs G E (tC a b)) :=
  pgsI (pgs_cons h1 h2 hs) fun vs σ H Q h => by
    obtain ⟨ι, ρ, M, ds, st, r, p⟩ := h
    cases r with
    | nil => exact p.elim
    | @cons v vs d ds r rr =>
      refine ⟨v, vs, rfl, ι, ρ, M, d, st, r, (Post.bnd p).mono fun ρ' ι1 M1 H1 x1 p1 σ' st' => ?_⟩
      exact ⟨ι1, ρ', M1, ds, st', rr.mono x1.pre x1.keep, p1⟩
/-- the items of a tuple -/
def asT : Dv → Option (List Dv)
  | .g (.tuple xs) => some (xs.map Dv.g)
  | .t xs => some xs
  | _ => none
theorem asT_rp {ι : List Addr} {H : Hp} {v : V} {d : Dv} {ds : List Dv} (r : RpD G ι H v d) (e : asT d = some ds) : ∃ a vs, v = .ref a ∧ H a = some (.tup vs) ∧ RpDs G ι H vs ds := by
  cases r with
  | g r =>
    cases r with
    | tup h r =>
      cases e
      exact ⟨_, _, rfl, h, r.ds⟩
    | _ => cases e
  | r _ => cases e
  | t h r =>
    cases e
    exact ⟨_, _, rfl, h, r⟩
def tT (n : Nat) (b : List Dv → Slots → Co Slots) : Dv → Slots → Co Slots := fun d ρ => bnd (ofO (asT d)) fun ds => chk (Nat.beq ds.length n) (b ds ρ)
theorem xgt {b : List Dv → Slots → Co Slots} {kk n : Nat} (hK : X.K = G.K) (hc : X.calm = true) (h : PGs X es (rdGs G E b)) (hn : (assignEach es X.env).length = n := by rfl) (hst : (assignEach es X.env).findIdx? (·.1) = none := by rfl) : PG X (.Tuple es kk pos) (rdG G E (tT n b)) :=
  pgI (pg_tup hc h hn hst) fun v σ H Q h => by
    obtain ⟨ι, ρ, M, d, st, r, p⟩ := h
    obtain ⟨ds, e, p⟩ := Post.ofO p
    obtain ⟨c, p⟩ := Post.chk p
    obtain ⟨a, vs, rfl, h1, h2⟩ := asT_rp r e
    exact ⟨a, vs, rfl, .of h1, by rw [h2.length]; exact Nat.eq_of_beq_eq_true c, ι, ρ, M, ds, st, h2, p⟩
def asg (f : Slots → Co Dv) (tf : Dv → Slots → Co Slots) : Slots → Co Fl := fun ρ => bnd (f ρ) fun d => bnd (tf d ρ) fun ρ' => rt (.nx ρ')
theorem rd_asg {tf : Dv → Slots → Co Slots} {D : Ends} {σ : L2.St} {H : Hp} (h : rdS G E (asg f tf) D σ H) : tAsg (rdE G E f) (rdG G E tf) D σ H := by
  obtain ⟨ι, ρ, M, st, p⟩ := h
  refine ⟨ι, ρ, M, st, (Post.bnd p).mono fun d ι1 M1 H1 x1 p1 v rv => ?_⟩
  refine ⟨ι1, ρ, M1, d, st.ext x1, rv, (Post.bnd p1).mono fun ρ' ι2 M2 H2 x2 p2 σ' st' => ?_⟩
  exact Post.rt x2.mem p2 σ' st'
theorem xasg {tg : Expr} {tf : Dv → Slots → Co Slots} (he : PE X e (rdE G E f)) (hg : PG X tg (rdG G E tf)) (hs : swapsWithSole [tg] e pos.line X.env = pure false := by rfl) (hw : swappedStores [tg] e X.env = pure none := by rfl)
    (h1 : (assignEach [tg] X.env).map (·.2) = [assign tg X.env] := by rfl) : PS X (.Assign [tg] e pos) (rdS G E (asg f tf)) := psI (ps_asg he hg hs hw h1) fun _ _ _ h => rd_asg h
theorem rd_set {i : Nat} {D : Ends} {σ : L2.St} {H : Hp} (h : rdS G E (asg f (tN i)) D σ H) : tAsg (rdE G E f) (gName i) D σ H := by
  obtain ⟨ι, ρ, M, st, p⟩ := h
  refine ⟨ι, ρ, M, st, (Post.bnd p).mono fun d ι1 M1 H1 x1 p1 v rv => ?_⟩
  exact Post.rt x1.mem (Post.rt x1.mem (Post.bnd p1)) _ ((st.ext x1).set i rv)
theorem xset (i : Nat) {pos' : Pos} (hN : X.N.Nodup) (he : PE X e (rdE G E f)) (hi : X.N[i]? = some x := by rfl) (hx : Loc X.env.scope x := by first | exact Or.inl rfl | exact Or.inr rfl) (hs : swapsWith e (some (.Name x pos')) pos.line X.env = pure false := by rfl)
    (hf : X.fn x = true ∨ X.env.scope.names.lookup x = some .local := by first | exact .inl rfl | exact .inr rfl | assumption) : PS X (.Assign [.Name x pos'] e pos) (rdS G E (asg f (tN i))) :=
  psI (ps_set hN hi hx he hs hf) fun _ _ _ h => rd_set h
/-- a, b = x, y: plain local names -/
def par2 (i j : Nat) (gs : Slots → Co (List Dv)) : Slots → Co Fl := fun ρ => bnd (gs ρ) fun ds => match ds with
  | [a, b] => rt (.nx ((ρ.set i a).set j b))
  | _ => fl
theorem xpar {i j : Nat} {x y : Str} {a b : Expr} {px py pt : Pos} {kt k2 pt2} (hc : X.calm = true) (hN : X.N.Nodup) (ha : PA X [a, b] (rdA G E gs)) (hi : X.N[i]? = some x := by rfl) (hj : X.N[j]? = some y := by rfl) (hij : i ≠ j := by decide)
    (hx : X.env.scope.names.lookup x = some .local := by rfl) (hy : X.env.scope.names.lookup y = some .local := by rfl)
    (hw : swappedStores [.Tuple [.Name x px, .Name y py] kt pt] (.Tuple [a, b] k2 pt2) X.env = pure (some [x, y]) := by rfl)
    (hs : swapsWithSole [.Tuple [.Name x px, .Name y py] kt pt] (.Tuple [a, b] k2 pt2) pos.line X.env = pure false := by rfl) :
    PS X (.Assign [.Tuple [.Name x px, .Name y py] kt pt] (.Tuple [a, b] k2 pt2) pos) (rdS G E (par2 i j gs)) :=
  psI (ps_par hc hN hi hj hij hx hy ha hw hs) fun D σ H h => by
    obtain ⟨ι, ρ, M, st, p⟩ := h
    refine ⟨ι, ρ, M, st, (Post.bnd p).mono fun ds ι1 M1 H1 x1 p1 vs rv => ?_⟩
    cases rv with
    | nil => exact p1.elim
    | cons r1 rv =>
      cases rv with
      | nil => exact p1.elim
      | cons r2 rv =>
        cases rv with
        | nil => exact ⟨_, _, rfl, Post.rt x1.mem p1 _ (((st.ext x1).set i r1).set j r2)⟩
        | cons _ _ => exact p1.elim
def par3 (i j l : Nat) (gs : Slots → Co (List Dv)) : Slots → Co Fl := fun ρ => bnd (gs ρ) fun ds => match ds with
  | [a, b, c] => rt (.nx (((ρ.set i a).set j b).set l c))
  | _ => fl
theorem xpar3 {i j l : Nat} {x y z : Str} {a b c : Expr} {px py pz pt : Pos} {kt k2 pt2} (hc : X.calm = true) (hN : X.N.Nodup) (ha : PA X [a, b, c] (rdA G E gs)) (hi : X.N[i]? = some x := by rfl) (hj : X.N[j]? = some y := by rfl) (hl : X.N[l]? = some z := by rfl) (hij : i ≠ j := by decide) (hil : i ≠ l := by decide) (hjl : j ≠ l := by decide)
    (hx : X.env.scope.names.lookup x = some .local := by rfl) (hy : X.env.scope.names.lookup y = some .local := by rfl) (hz : X.env.scope.names.lookup z = some .local := by rfl)
    (hw : swappedStores [.Tuple [.Name x px, .Name y py, .Name z pz] kt pt] (.Tuple [a, b, c] k2 pt2) X.env = pure (some [x, y, z]) := by rfl)
    (hs : swapsWithSole [.Tuple [.Name x px, .Name y py, .Name z pz] kt pt] (.Tuple [a, b, c] k2 pt2) pos.line X.env = pure false := by rfl) :
    PS X (.Assign [.Tuple [.Name x px, .Name y py, .Name z pz] kt pt] (.Tuple [a, b, c] k2 pt2) pos) (rdS G E (par3 i j l gs)) :=
  psI (ps_par3 hc hN hi hj hl hij hil hjl hx hy hz ha hw hs) fun D σ H h => by
    obtain ⟨ι, ρ, M, st, p⟩ := h
    refine ⟨ι, ρ, M, st, (Post.bnd p).mono fun ds ι1 M1 H1 x1 p1 vs rv => ?_⟩
    cases rv with
    | nil => exact p1.elim
    | cons r1 rv =>
      cases rv with
      | nil => exact p1.elim
      | cons r2 rv =>
        cases rv with
        | nil => exact p1.elim
        | cons r3 rv =>
          cases rv with
          | nil => exact ⟨_, _, _, rfl, Post.rt x1.mem p1 _ ((((st.ext x1).set i r1).set j r2).set l r3)⟩
          | cons _ _ => exact p1.elim
def ret (f : Slots → Co Dv) : Slots → Co Fl := fun ρ => bnd (f ρ) fun d => rt (.rt d)
theorem xret (he : PE X e (rdE G E f)) : PS X (.Return (some e) pos) (rdS G E (ret f)) := psI (ps_ret he) fun D σ H h => by
  obtain ⟨ι, ρ, M, st, p⟩ := h
  exact ⟨ι, ρ, M, st, (Post.bnd p).mono fun d ι1 M1 H1 x1 p1 v rv => Post.rt x1.mem p1 v rv⟩
def retN : Slots → Co Fl := fun _ => rt (.rt (.g .none))
theorem xretN : PS X (.Return none pos) (rdS G E retN) := psI ps_retN fun D σ H h => by
  obtain ⟨ι, ρ, M, st, p⟩ := h
  exact Post.rt st.mem p _ (.g .non)
def drp (f : Slots → Co Dv) : Slots → Co Fl := fun ρ => bnd (f ρ) fun _ => rt (.nx ρ)
theorem xexp (he : PE X e (rdE G E f)) (hs : swapsWith e none pos.line X.env = pure false := by rfl) : PS X (.Expr e pos) (rdS G E (drp f)) := psI (ps_expr he hs) fun D σ H h => by
  obtain ⟨ι, ρ, M, st, p⟩ := h
  exact ⟨ι, ρ, M, st, (Post.bnd p).mono fun d ι1 M1 H1 x1 p1 v rv => Post.rt x1.mem p1 _ (st.ext x1)⟩
def skp : Slots → Co Fl := fun ρ => rt (.nx ρ)
theorem xs0 : PSs X [] (rdS G E skp) := pssI pss_nil fun D σ H h => by
  obtain ⟨ι, ρ, M, st, p⟩ := h
  exact Post.rt st.mem p _ st
def sq (a b : Slots → Co Fl) : Slots → Co Fl := fun ρ => bnd (a ρ) fun f => match f with
  | .nx ρ' => b ρ'
  | f => rt f
theorem xs1 {st : Stmt} {rest : List Stmt} {a b : Slots → Co Fl} (h1 : PS X st (rdS G E a)) (h2 : PSs X rest (rdS G E b)) : PSs X (st :: rest) (rdS G E (sq a b)) :=
  pssI (pss_cons h1 h2) fun D σ H h => by
    obtain ⟨ι, ρ, M, st, p⟩ := h
    refine ⟨ι, ρ, M, st, (Post.bnd p).mono fun fl ι1 M1 H1 x1 p1 => ?_⟩
    cases fl with
    | nx ρ' => exact fun σ' st' => ⟨ι1, ρ', M1, st', p1⟩
    | rt d => exact Post.rt (E := E) x1.mem p1
    | bk ρ' => exact Post.rt (E := E) x1.mem p1
    | ct ρ' => exact Post.rt (E := E) x1.mem p1
def ifs (c : Slots → Co Bool) (a b : Slots → Co Fl) : Slots → Co Fl := fun ρ => bnd (c ρ) fun q => match q with
  | true => a ρ
  | false => b ρ
theorem xifs {c : Expr} {s t : List Stmt} {cf : Slots → Co Bool} {a b : Slots → Co Fl} (hc : PT X c (rdT G E cf)) (h1 : PSs X s (rdS G E a)) (h2 : PSs X t (rdS G E b)) : PS X (.If c s t pos) (rdS G E (ifs cf a b)) :=
  psI (ps_if hc h1 h2) fun D σ H h => by
    obtain ⟨ι, ρ, M, st, p⟩ := h
    refine ⟨ι, ρ, M, st, (Post.bnd p).mono fun q ι1 M1 H1 x1 p1 => ?_⟩
    cases q with
    | true => exact iteT ⟨ι1, ρ, M1, st.ext x1, p1⟩
    | false => exact iteF ⟨ι1, ρ, M1, st.ext x1, p1⟩
def brk : Slots → Co Fl := fun ρ => rt (.bk ρ)
theorem xbrk : PS X (.Break pos) (rdS G E brk) := psI ps_break fun D σ H h => by
  obtain ⟨ι, ρ, M, st, p⟩ := h
  exact Post.rt st.mem p _ st
def cnt : Slots → Co Fl := fun ρ => rt (.ct ρ)
theorem xcnt : PS X (.Continue pos) (rdS G E cnt) := psI ps_continue fun D σ H h => by
  obtain ⟨ι, ρ, M, st, p⟩ := h
  exact Post.rt st.mem p _ st
/-- a statement that is never come to -/
def nvr : Slots → Co Fl := fun _ => fl
theorem xnvr {st : Stmt} : PS X st (rdS G E nvr) := psI ps_never fun D σ H h => by
  obtain ⟨ι, ρ, M, st, p⟩ := h
  exact p.elim
end
/-! ### a def -/
def defF (n np : Nat) (b : Slots → Co Fl) : List Dv → Co Dv := fun ds => chk (Nat.beq ds.length np) (bnd (b (ds ++ List.replicate (n - np) .u)) fun f => match f with
  | .nx _ => rt (.g .none)
  | .rt d => rt d
  | _ => fl)
section
variable {G : Gx} {E : XK}
theorem start_st {H : Hp} {ι : List Addr} {M : Mem} {N : List Str} {vs : List V} {ds : List Dv} (m : MemR G ι H M) (r : RpDs G ι H vs ds) : StR G H (L2.start N vs) ι (ds ++ List.replicate (N.length - ds.length) .u) M where
  len := by
    unfold L2.start
    rw [List.length_append, List.length_append, List.length_map, List.length_replicate, List.length_replicate, r.length]
  mem := m
  sl := fun i d h n => by
    by_cases hi : i < ds.length
    · rw [List.getElem?_append_left hi] at h
      obtain ⟨v, h1, h2⟩ := r.get h
      refine ⟨v, ?_, h2⟩
      unfold L2.start
      rw [List.getElem?_append_left (by rw [List.length_map, r.length]; exact hi), List.getElem?_map, h1]
      rfl
    · rw [List.getElem?_append_right (by omega), List.getElem?_replicate] at h
      split at h
      · cases h
        exact absurd rfl n
      · cases h
variable {P : Program} {w : World} {base : Heap} {CX : CXT} {x qual : Str} {params : Arguments} {body : List Stmt} {scope : Scope} {f : Addr} {fd : FuncData} {N ps : List Str} {k : Nat} {b : Slots → Co Fl}
theorem spF_len {n np : Nat} {vs : List V} {H : Hp} {Q : VK} (h : spF G (defF n np b) vs H Q E) : vs.length = np := by
  obtain ⟨ι, M, ds, m, r, p⟩ := h
  obtain ⟨c, _⟩ := Post.chk p
  rw [r.length]
  exact Nat.eq_of_beq_eq_true c
theorem xdef (F : FunD G.K x qual params body scope [] [] f fd) (S : FnScope N ps scope)
    (hb : ∀ (cdv : Value) (A : Around) (outer : List PySem.Env) (s : Shared) (H : Hp) (E : XK), Room k (A.deeper (envOfC qual scope s.heap.objs.size f cdv)) → PSs (cxOf CX P w G.K G.mg base N qual scope f cdv A outer s H E) body (rdS G E b)) :
    FnOk P w G.K G.mg base CX (k + 1) f fd ps (spF G (defF N.length ps.length b)) := by
  refine F.ok S (fun vs H Q E h => spF_len h) fun cdv A outer s H vs Q E hr h => ?_
  have hl := spF_len h
  obtain ⟨ι, M, ds, m, r, p⟩ := h
  obtain ⟨_, p⟩ := Post.chk p
  refine ⟨_, hb cdv A outer s H E hr, ι, _, M, ?_, (Post.bnd p).mono fun fl ι1 M1 H1 x1 p1 => ?_⟩
  · have e := start_st (N := N) m r
    rw [← r.length, hl] at e
    exact e
  · cases fl with
    | nx ρ => exact fun σ _ => Post.rt x1.mem p1 _ (.g .non)
    | rt d => exact Post.rt (E := E) x1.mem p1
    | _ => exact p1.elim
end
end Xt
set_option Elab.async false
set_option linter.all false
set_option maxRecDepth 100000
set_option maxHeartbeats 1000000
namespace Xt
open PySem PySem.Spec PyProof.Rows L2

/-! ### what is walked -/
/-- the iterator yields these, whatever happens meanwhile to what may change -/
structure Wk (G : Gx) (ι : List Addr) (H : Hp) (J : It) (ds : List Dv) : Prop where
  go : ∀ i H1, Keep H H1 → i < ds.length → J.go i H1
  stop : ∀ H1, Keep H H1 → J.stop ds.length H1
  yld : ∀ i H1 x H2, Keep H H1 → i < ds.length → J.yld i H1 x H2 → ∃ d, ds[i]? = some d ∧ RpD G ι H2 x d ∧ (H2 = H1 ∨ ∃ T vs, H1 T = none ∧ H2 = upd H1 T (.tup vs))
def rdI (G : Gx) (E : XK) (src : Slots → Co (List Dv)) : TI := fun σ H R => ∃ ι ρ M, StR G H σ ι ρ M ∧ Post G E ι H (fun ds ι' _ H' => ∀ J, Wk G ι' H' J ds → R J H') (src ρ M)
section
variable {X : Cx} {G : Gx} {E : XK} {e : Expr} {es : List Expr} {f : Slots → Co Dv} {gs : Slots → Co (List Dv)} {pos p : Pos} {tg : Expr}
theorem piI {t t' : TI} (h : PI X tg e t) (k : ∀ σ H Q, t' σ H Q → t σ H Q) : PI X tg e t' := ⟨fun pins s σ H Q I z => h.run pins s σ H Q I (k σ H Q z)⟩
theorem pi_or {t t' : TI} (h : PI X tg e t) (h' : PI X tg e t') : PI X tg e (fun σ H R => t σ H R ∨ t' σ H R) := ⟨fun pins s σ H R I z => z.elim (h.run pins s σ H R I) (h'.run pins s σ H R I)⟩
/-- the items of a list or a tuple that do not change -/
def its : Dv → Option (List Dv)
  | .g (.list xs) => some (xs.map Dv.g)
  | .g (.tuple xs) => some (xs.map Dv.g)
  | .t xs => some xs
  | _ => none
def srcS (f : Slots → Co Dv) : Slots → Co (List Dv) := fun ρ => bnd (f ρ) fun d => ofO (its d)
theorem wk_list {K : PySem.W.Frag} {ι : List Addr} {H : Hp} {a : Addr} {vs : List V} {xs : List PyData} (hK : K = G.K) (h : LsF K H a vs) (r : RpVs G.K H vs xs) : Wk G ι H (Itl K a) (xs.map Dv.g) where
  go := fun i H1 k hi => by
    rw [List.length_map, ← r.length] at hi
    exact ⟨vs, vs[i], (h.mono k).sq, List.getElem?_eq_getElem hi⟩
  stop := fun H1 k => ⟨vs, (h.mono k).sq, by rw [List.length_map, r.length]; exact Nat.le_refl _⟩
  yld := fun i H1 x H2 k hi y => by
    obtain ⟨e, y⟩ := y
    have q := y vs (h.mono k).sq
    rw [List.length_map] at hi
    refine ⟨.g xs[i], by rw [List.getElem?_map, List.getElem?_eq_getElem hi]; rfl, .g ?_, .inl e⟩
    rw [e]
    exact (r.get (List.getElem?_eq_getElem hi) q).mono k
theorem wk_tup {K : PySem.W.Frag} {ι : List Addr} {H : Hp} {a : Addr} {vs : List V} {ds : List Dv} (h : H a = some (.tup vs)) (r : RpDs G ι H vs ds) : Wk G ι H (Itt K a) ds where
  go := fun i H1 k hi => by
    rw [← r.length] at hi
    exact ⟨vs, vs[i], .of (k.tup _ _ h), List.getElem?_eq_getElem hi⟩
  stop := fun H1 k => ⟨vs, .of (k.tup _ _ h), by rw [r.length]; exact Nat.le_refl _⟩
  yld := fun i H1 x H2 k hi y => by
    obtain ⟨e, y⟩ := y
    have q := y vs (.of (k.tup _ _ h))
    obtain ⟨w, h1, h2⟩ := r.get (List.getElem?_eq_getElem hi)
    rw [h1] at q
    cases q
    refine ⟨ds[i], List.getElem?_eq_getElem hi, ?_, .inl e⟩
    rw [e]
    exact h2.mono (List.prefix_refl _) k
theorem xis (hK : X.K = G.K) (he : PE X e (rdE G E f)) : PI X tg e (rdI G E (srcS f)) :=
  piI (pi_or (pi_list he) (pi_tup he)) fun σ H R h => by
    obtain ⟨ι, ρ, M, st, p⟩ := h
    have p0 := Post.bnd p
    cases q : f ρ M with
    | fail =>
      rw [q] at p0
      exact p0.elim
    | ex c M' =>
      rw [q] at p0
      exact .inl ⟨ι, ρ, M, st, by rw [q]; exact p0⟩
    | ok d M1 =>
      rw [q] at p0
      have side : (∃ xs, d = .g (.list xs)) ∨ (∀ xs, d ≠ .g (.list xs)) := by
        cases d with
        | g x =>
          cases x with
          | list xs => exact .inl ⟨xs, rfl⟩
          | _ => exact .inr fun _ z => by cases z
        | _ => exact .inr fun _ z => by cases z
      rcases side with ⟨xs, rfl⟩ | side
      · refine .inl ⟨ι, ρ, M, st, ?_⟩
        rw [q]
        intro ι1 H1 x1 v rv
        cases rv with
        | g rv =>
          cases rv with
          | @lst a vs _ h r =>
            refine ⟨a, rfl, ⟨vs, by rw [hK]; exact h.sq⟩, ?_⟩
            have p1 := p0 ι1 H1 x1
            exact Post.rt x1.mem p1 (Itl X.K a) (wk_list hK (by rw [hK]; exact h) r)
      · refine .inr ⟨ι, ρ, M, st, ?_⟩
        rw [q]
        intro ι1 H1 x1 v rv
        have p1 := p0 ι1 H1 x1
        obtain ⟨ds, e1, p2⟩ := post_ofO x1.mem p1
        have e2 : asT d = some ds := by
          cases d with
          | g x =>
            cases x with
            | list xs => exact absurd rfl (side xs)
            | tuple xs => exact e1
            | _ => cases e1
          | t xs => exact e1
          | _ => cases e1
        obtain ⟨a, vs, rfl, h1, h2⟩ := asT_rp rv e2
        exact ⟨a, rfl, ⟨vs, .of h1⟩, p2 _ (wk_tup h1 h2)⟩
/-- ranges -/
def rngs (c : Int) : Int → Nat → List Dv
  | _, 0 => []
  | lo, n + 1 => dI lo :: rngs c (lo + c) n
theorem rngs_len (c : Int) : ∀ (lo : Int) (n : Nat), (rngs c lo n).length = n
  | _, 0 => rfl
  | lo, n + 1 => by rw [rngs, List.length_cons, rngs_len c (lo + c) n]
theorem rngs_get (c : Int) : ∀ (lo : Int) (n i : Nat), i < n → (rngs c lo n)[i]? = some (dI (lo + i * c))
  | _, 0, _, h => absurd h (Nat.not_lt_zero _)
  | lo, n + 1, 0, _ => by
    rw [rngs, List.getElem?_cons_zero]
    congr 2
    simp
  | lo, n + 1, i + 1, h => by
    rw [rngs, List.getElem?_cons_succ, rngs_get c (lo + c) n i (Nat.lt_of_succ_lt_succ h)]
    congr 2
    rw [Int.natCast_succ, Int.add_mul]
    omega
theorem wk_rng {ι : List Addr} {H : Hp} (lo : Int) (n : Nat) : Wk G ι H (Itr lo n) (rngs 1 lo n) where
  go := fun i H1 _ hi => by
    rw [rngs_len] at hi
    exact hi
  stop := fun H1 _ => by
    rw [rngs_len]
    exact Nat.le_refl _
  yld := fun i H1 x H2 _ hi y => by
    obtain ⟨e, y⟩ := y
    rw [rngs_len] at hi
    refine ⟨_, rngs_get 1 lo n i hi, ?_, .inl e⟩
    rw [y, Int.mul_one]
    exact rpI
theorem wk_rngC {ι : List Addr} {H : Hp} (lo c : Int) (n : Nat) : Wk G ι H (Itc lo c n) (rngs c lo n) where
  go := fun i H1 _ hi => by
    rw [rngs_len] at hi
    exact hi
  stop := fun H1 _ => by
    rw [rngs_len]
    exact Nat.le_refl _
  yld := fun i H1 x H2 _ hi y => by
    obtain ⟨e, y⟩ := y
    rw [rngs_len] at hi
    refine ⟨_, rngs_get c lo n i hi, ?_, .inl e⟩
    rw [y]
    exact rpI
def rOk (i : Int) : Bool := Nat.ble i.natAbs 4611686018427387903
theorem rOk_lt {i : Int} (h : rOk i = true) : -(2 ^ 62) ≤ i ∧ i < 2 ^ 62 := by
  have := Nat.le_of_ble_eq_true h
  omega
/-- range(b), range(a, b), range(a, b, c) -/
def srcR1 (gs : Slots → Co (List Dv)) : Slots → Co (List Dv) := fun ρ => bnd (gs ρ) fun ds => match ds with
  | [d] => bnd (ofO (asI d)) fun j => chk (rOk j) (rt (rngs 1 0 j.toNat))
  | _ => fl
def srcR2 (gs : Slots → Co (List Dv)) : Slots → Co (List Dv) := fun ρ => bnd (gs ρ) fun ds => match ds with
  | [d, e] => bnd (ofO (asI d)) fun i => bnd (ofO (asI e)) fun j => chk (rOk i && rOk j) (rt (rngs 1 i (j - i).toNat))
  | _ => fl
def rgN (i j c : Int) : Option Nat := match decide (c ≠ 0) && (Nat.blt c.natAbs 1073741824 && Builtin.Range.small i j c) with
  | true => (match Builtin.Range.rangeSize i j c with
    | .ofNat n => some n
    | _ => none)
  | false => none
theorem rgN_c {i j c : Int} {n : Nat} (h : rgN i j c = some n) : RgC i j c n := by
  unfold rgN at h
  split at h
  · rename_i q
    obtain ⟨h1, h2⟩ := Bool.and_eq_true_iff.mp q
    obtain ⟨h3, h4⟩ := Bool.and_eq_true_iff.mp h2
    split at h
    · rename_i n' e
      cases h
      exact ⟨of_decide_eq_true h1, Nat.le_of_ble_eq_true h3, h4, e⟩
    · cases h
  · cases h
def srcR3 (gs : Slots → Co (List Dv)) : Slots → Co (List Dv) := fun ρ => bnd (gs ρ) fun ds => match ds with
  | [d, e, f] => bnd (ofO (asI d)) fun i => bnd (ofO (asI e)) fun j => bnd (ofO (asI f)) fun c => bnd (ofO (rgN i j c)) fun n => rt (rngs c i n)
  | _ => fl
theorem xir1 {a : Expr} (ha : PA X [a] (rdA G E gs)) (hg : Gl X "range" := by rfl) (hm : X.mg "range" = none := by assumption) (hs : starEach [a] X.env = [(false, eval a X.env)] := by rfl) : PI X tg (.Call (.Name "range" p) [a] [] pos) (rdI G E (srcR1 gs)) :=
  piI (pi_range1 hg hm ha hs) fun σ H R h => by
    obtain ⟨ι, ρ, M, st, p⟩ := h
    refine ⟨ι, ρ, M, st, (Post.bnd p).mono fun ds ι1 M1 H1 x1 p1 vs rv => ?_⟩
    cases rv with
    | nil => exact p1.elim
    | cons r1 rv =>
      cases rv with
      | cons _ _ => exact p1.elim
      | nil =>
        obtain ⟨j, e1, p2⟩ := Post.ofO p1
        obtain ⟨c, p3⟩ := Post.chk p2
        obtain ⟨h1, h2⟩ := rOk_lt c
        exact ⟨j, by rw [(asI_rp r1 e1).1], h1, h2, Post.rt x1.mem p3 _ (wk_rng 0 _)⟩
theorem xir2 {a b : Expr} (ha : PA X [a, b] (rdA G E gs)) (hg : Gl X "range" := by rfl) (hm : X.mg "range" = none := by assumption) (hs : starEach [a, b] X.env = [(false, eval a X.env), (false, eval b X.env)] := by rfl) (hs2 : starEach [b] X.env = [(false, eval b X.env)] := by rfl) :
    PI X tg (.Call (.Name "range" p) [a, b] [] pos) (rdI G E (srcR2 gs)) :=
  piI (pi_range2 hg hm ha hs hs2) fun σ H R h => by
    obtain ⟨ι, ρ, M, st, p⟩ := h
    refine ⟨ι, ρ, M, st, (Post.bnd p).mono fun ds ι1 M1 H1 x1 p1 vs rv => ?_⟩
    cases rv with
    | nil => exact p1.elim
    | cons r1 rv =>
      cases rv with
      | nil => exact p1.elim
      | cons r2 rv =>
        cases rv with
        | cons _ _ => exact p1.elim
        | nil =>
          obtain ⟨i, e1, p2⟩ := Post.ofO p1
          obtain ⟨j, e2, p2⟩ := Post.ofO p2
          obtain ⟨c, p3⟩ := Post.chk p2
          obtain ⟨c1, c2⟩ := Bool.and_eq_true_iff.mp c
          obtain ⟨h1, h2⟩ := rOk_lt c1
          obtain ⟨h3, h4⟩ := rOk_lt c2
          exact ⟨i, j, by rw [(asI_rp r1 e1).1, (asI_rp r2 e2).1], ⟨h1, h2, h3, h4⟩, Post.rt x1.mem p3 _ (wk_rng i _)⟩
theorem xir3 {a b c : Expr} (ha : PA X [a, b, c] (rdA G E gs)) (hg : Gl X "range" := by rfl) (hm : X.mg "range" = none := by assumption) (hs : starEach [a, b, c] X.env = (false, eval a X.env) :: starEach [b, c] X.env := by rfl) (hpl : (backTo pos (starEach [b, c] X.env)).any (·.1) = false := by rfl) :
    PI X tg (.Call (.Name "range" p) [a, b, c] [] pos) (rdI G E (srcR3 gs)) :=
  piI (pi_range3 hg hm ha hs hpl) fun σ H R h => by
    obtain ⟨ι, ρ, M, st, p⟩ := h
    refine ⟨ι, ρ, M, st, (Post.bnd p).mono fun ds ι1 M1 H1 x1 p1 vs rv => ?_⟩
    cases rv with
    | nil => exact p1.elim
    | cons r1 rv =>
      cases rv with
      | nil => exact p1.elim
      | cons r2 rv =>
        cases rv with
        | nil => exact p1.elim
        | cons r3 rv =>
          cases rv with
          | cons _ _ => exact p1.elim
          | nil =>
            obtain ⟨i, e1, p2⟩ := Post.ofO p1
            obtain ⟨j, e2, p2⟩ := Post.ofO p2
            obtain ⟨k, e3, p2⟩ := Post.ofO p2
            obtain ⟨n, e4, p3⟩ := Post.ofO p2
            exact ⟨i, j, k, n, by rw [(asI_rp r1 e1).1, (asI_rp r2 e2).1, (asI_rp r3 e3).1], rgN_c e4, Post.rt x1.mem p3 _ (wk_rngC i k n)⟩
/-- the pairs of a dict that does not change -/
def dIts : List (PyData × PyData) → List Dv
  | [] => []
  | (k, x) :: r => .g (.tuple [k, x]) :: dIts r
def srcD (f : Slots → Co Dv) : Slots → Co (List Dv) := fun ρ => bnd (f ρ) fun d => match d with
  | .g (.dict kds) => rt (dIts kds)
  | _ => fl
theorem dIts_get {K : PySem.W.Frag} {H : Hp} : ∀ {kvs : List (Key × V)} {kds : List (PyData × PyData)} {i : Nat}, RpKs K H kvs kds → i < kds.length → ∃ k x j v, (dIts kds)[i]? = some (.g (.tuple [.int k, x])) ∧ kvs[i]? = some (j, v) ∧ j = .inl k ∧ RpV K H v x
  | _, _, _, .nil, h => absurd h (Nat.not_lt_zero _)
  | _, _, 0, .cons h _, _ => ⟨_, _, _, _, rfl, rfl, rfl, h⟩
  | _, _, i + 1, .cons _ r, h => by
    obtain ⟨k, x, j, v, h1, h2, h3⟩ := dIts_get (i := i) r (Nat.lt_of_succ_lt_succ h)
    exact ⟨k, x, j, v, h1, h2, h3⟩
theorem dIts_len : ∀ kds : List (PyData × PyData), (dIts kds).length = kds.length
  | [] => rfl
  | (_, _) :: r => by rw [dIts, List.length_cons, List.length_cons, dIts_len r]
theorem xid {apos cpos tpos : Pos} {elts : List Expr} {kk : Nat} (he : PE X e (rdE G E f)) (hb : attributeBase e (Str.ofString "items") X.env (eval e X.env) = eval e X.env := by rfl) (hl : (apos.endLine == cpos.line) = true := by rfl) :
    PI X (.Tuple elts kk tpos) (.Call (.Attribute e "items" apos) [] [] cpos) (rdI G E (srcD f)) :=
  piI (pi_items he hb hl) fun σ H R h => by
    obtain ⟨ι, ρ, M, st, p⟩ := h
    refine ⟨ι, ρ, M, st, (Post.bnd p).mono fun d ι1 M1 H1 x1 p1 v rv => ?_⟩
    cases rv with
    | g rv =>
      cases rv with
      | @dct a o kvs kds h r =>
        refine ⟨a, o, kvs, rfl, h, Post.rt x1.mem p1 _ ⟨fun i H2 k hi => ⟨k.frz _ _ _ h, ?_⟩, fun H2 k => ⟨k.frz _ _ _ h, ?_⟩, fun i H2 x H3 k hi y => ?_⟩⟩
        · rw [dIts_len] at hi
          rw [r.length]
          exact hi
        · rw [dIts_len, r.length]
          exact Nat.le_refl _
        · obtain ⟨T, kk, w, e1, rfl, hT, rfl⟩ := y
          rw [dIts_len] at hi
          obtain ⟨k2, z, j, v2, g1, g2, g3, g4⟩ := dIts_get r hi
          rw [g2] at e1
          cases e1
          refine ⟨_, g1, .g (.tup upd_same (.cons ?_ (.cons ?_ .nil))), .inr ⟨T, _, hT, rfl⟩⟩
          · rw [g3]
            exact .int k2
          · exact (g4.mono k).mono (keep_new hT)
      | _ => exact p1.elim
    | r _ => exact p1.elim
    | t _ _ => exact p1.elim

/-! ### for -/
def forL (tf : Dv → Slots → Co Slots) (b : Slots → Co Fl) : List Dv → Slots → Co Fl
  | [], ρ => rt (.nx ρ)
  | d :: r, ρ => bnd (tf d ρ) fun ρ1 => bnd (b ρ1) fun f => match f with
    | .nx ρ2 => forL tf b r ρ2
    | .ct ρ2 => forL tf b r ρ2
    | .bk ρ2 => rt (.nx ρ2)
    | .rt d => rt (.rt d)
def forX (src : Slots → Co (List Dv)) (tf : Dv → Slots → Co Slots) (b : Slots → Co Fl) : Slots → Co Fl := fun ρ => bnd (src ρ) fun ds => forL tf b ds ρ
theorem wk_new {ι : List Addr} {M : Mem} {H H2 : Hp} (m : MemR G ι H M) (h : H2 = H ∨ ∃ T vs, H T = none ∧ H2 = upd H T (.tup vs)) : Ext G ι H ι M H2 := by
  rcases h with rfl | ⟨T, vs, hT, rfl⟩
  · exact .refl m
  · exact .new m hT
theorem xfor {body : List Stmt} {src : Slots → Co (List Dv)} {tf : Dv → Slots → Co Slots} {b : Slots → Co Fl} {iter : Expr} (hp : PassesOwn (model X.prog X.w) X.A X.env X.xe) (hc : X.calm = true) (hi : PI X tg iter (rdI G E src)) (hg : PG X tg (rdG G E tf)) (hb : PSs X body (rdS G E b))
    (hs : ∀ x, foldedSetIterable iter X.env x = pure x := by intro _; rfl) : PS X (.For tg iter body [] pos) (rdS G E (forX src tf b)) :=
  psI (ps_for hp hc hi hg hb hs) fun D σ H h => by
    obtain ⟨ι, ρ, M, st, p⟩ := h
    refine ⟨ι, ρ, M, st, (Post.bnd p).mono fun ds ι1 M1 H1 x1 p1 J wk => ?_⟩
    refine ⟨fun i m σ H => i + m = ds.length ∧ Keep H1 H ∧ ∃ ι ρ M, ι1 <+: ι ∧ StR G H σ ι ρ M ∧ Post G E ι H (QS G D) (forL tf b (ds.drop i) ρ M), ⟨ds.length, Nat.zero_add _, .refl _, ι1, ρ, M1, List.prefix_refl _, st.ext x1, p1⟩, ?_⟩
    rintro i m σ2 H2 ⟨him, k2, ι2, ρ2, M2, pr2, st2, p2⟩
    by_cases hlt : i < ds.length
    · right
      obtain ⟨m', rfl⟩ : ∃ m', m = m' + 1 := ⟨m - 1, by omega⟩
      refine ⟨wk.go i H2 k2 hlt, fun σ H => ((i + 1) + m' = ds.length ∧ Keep H1 H ∧ ∃ ι ρ M, ι1 <+: ι ∧ StR G H σ ι ρ M ∧ Post G E ι H (QS G D) (forL tf b (ds.drop (i + 1)) ρ M)), fun σ H z => ⟨m', Nat.lt_succ_self _, z⟩, fun x H3 y => ?_⟩
      obtain ⟨d, e1, rd, new⟩ := wk.yld i H2 x H3 k2 hlt y
      have e2 : ds.drop i = d :: ds.drop (i + 1) := by
        rw [List.drop_eq_getElem_cons hlt]
        rw [List.getElem?_eq_getElem hlt] at e1
        cases e1
        rfl
      have x3 : Ext G ι2 H2 ι2 M2 H3 := wk_new st2.mem new
      rw [e2, forL] at p2
      have p3 := p2.shift x3
      refine ⟨ι2, ρ2, M2, d, st2.ext x3, rd.mono pr2 (.refl _), (Post.bnd p3).mono fun ρ' ι4 M4 H4 x4 p4 σ' st' => ?_⟩
      refine ⟨ι4, ρ', M4, st', (Post.bnd p4).mono fun fl ι5 M5 H5 x5 p5 => ?_⟩
      have k5 : Keep H1 H5 := ((k2.trans x3.keep).trans x4.keep).trans x5.keep
      have pr5 : ι1 <+: ι5 := (pr2.trans x4.pre).trans x5.pre
      cases fl with
      | nx ρ5 => exact fun σ5 st5 => ⟨by omega, k5, ι5, ρ5, M5, pr5, st5, p5⟩
      | ct ρ5 => exact fun σ5 st5 => ⟨by omega, k5, ι5, ρ5, M5, pr5, st5, p5⟩
      | bk ρ5 => exact Post.rt (E := E) x5.mem p5
      | rt d => exact Post.rt (E := E) x5.mem p5
    · left
      have hi : i = ds.length := by omega
      subst hi
      rw [List.drop_length, forL] at p2
      exact ⟨wk.stop H2 k2, Post.rt (E := E) st2.mem p2 _ st2⟩
/-! ### while: n turns at most -/
def whl (c : Slots → Co Bool) (b : Slots → Co Fl) : Nat → Slots → Co Fl
  | 0, _ => fl
  | n + 1, ρ => bnd (c ρ) fun q => match q with
    | false => rt (.nx ρ)
    | true => bnd (b ρ) fun f => match f with
      | .nx ρ2 => whl c b n ρ2
      | .ct ρ2 => whl c b n ρ2
      | .bk ρ2 => rt (.nx ρ2)
      | .rt d => rt (.rt d)
theorem xwhl {c : Expr} {body : List Stmt} {cf : Slots → Co Bool} {b : Slots → Co Fl} (n : Nat) (hp : PassesOwn (model X.prog X.w) X.A X.env X.xe) (hc : PT X c (rdT G E cf)) (hb : PSs X body (rdS G E b)) : PS X (.While c body [] pos) (rdS G E (whl cf b n)) :=
  psI (ps_while hp hc hb) fun D σ H h => by
    refine ⟨fun m σ H => rdS G E (whl cf b m) D σ H, ⟨n, h⟩, ?_⟩
    rintro m σ1 H1 ⟨ι, ρ, M, st, p⟩
    cases m with
    | zero => exact p.elim
    | succ m =>
      rw [whl] at p
      refine ⟨ι, ρ, M, st, (Post.bnd p).mono fun q ι1 M1 H1 x1 p1 => ?_⟩
      cases q with
      | false => exact iteF (Post.rt (E := E) x1.mem p1 _ (st.ext x1))
      | true =>
        refine iteT ⟨rdS G E (whl cf b m) D, fun σ H z => ⟨m, Nat.lt_succ_self _, z⟩, ι1, ρ, M1, st.ext x1, (Post.bnd p1).mono fun fl ι2 M2 H2 x2 p2 => ?_⟩
        cases fl with
        | nx ρ2 => exact fun σ2 st2 => ⟨ι2, ρ2, M2, st2, p2⟩
        | ct ρ2 => exact fun σ2 st2 => ⟨ι2, ρ2, M2, st2, p2⟩
        | bk ρ2 => exact Post.rt (E := E) x2.mem p2
        | rt d => exact Post.rt (E := E) x2.mem p2
end
end Xt
set_option Elab.async false
set_option linter.all false
set_option maxRecDepth 100000
set_option maxHeartbeats 1000000
namespace Xt
open PySem PySem.Spec PyProof.Rows L2

/-! ### a heap without one object (the list that is being made) -/
def hid (H : Hp) (D : Addr) : Hp := fun b => if b = D then none else H b
section
variable {G : Gx} {E : XK} {ι : List Addr} {H H' : Hp} {M : Mem} {D : Addr} {vs : List V}
theorem hid_ne {b : Addr} (h : b ≠ D) : hid H D b = H b := if_neg h
theorem hid_at : hid H D D = none := if_pos rfl
theorem hid_some {b : Addr} {o : HO} (h : hid H D b = some o) : b ≠ D ∧ H b = some o := by
  by_cases e : b = D
  · rw [e, hid_at] at h
    cases h
  · rw [hid_ne e] at h
    exact ⟨e, h⟩
theorem keep_up : Keep (hid H D) H := ⟨fun _ _ _ h => (hid_some h).2, fun _ _ h => (hid_some h).2⟩
theorem keep_dn (hD : H D = some (.lst vs)) : Keep H (hid H D) :=
  ⟨fun a o u h => by rw [hid_ne (fun e => by rw [e, hD] at h; cases h)]; exact h, fun a xs h => by rw [hid_ne (fun e => by rw [e, hD] at h; cases h)]; exact h⟩
theorem MemR.up (m : MemR G ι (hid H D) M) : MemR G ι H M :=
  ⟨m.len, m.nd, fun i a mo h1 h2 => by
    obtain ⟨o, ho⟩ := m.at (List.mem_of_getElem? h1)
    exact (m.ob i a mo h1 h2).mono (List.prefix_refl _) keep_up (by rw [hid_ne (hid_some ho).1]), fun P hP => by
    obtain ⟨ps, h, t⟩ := m.tab P hP
    exact ⟨ps, (hid_some h).2, t⟩⟩
theorem MemR.dn (hD : H D = some (.lst vs)) (hn : D ∉ ι) (m : MemR G ι H M) : MemR G ι (hid H D) M :=
  ⟨m.len, m.nd, fun i a mo h1 h2 => by
    have ne : a ≠ D := fun e => hn (by rw [← e]; exact List.mem_of_getElem? h1)
    exact (m.ob i a mo h1 h2).mono (List.prefix_refl _) (keep_dn hD) (hid_ne ne), fun P hP => by
    obtain ⟨ps, h, t⟩ := m.tab P hP
    exact ⟨ps, by rw [hid_ne (fun e => by rw [e, hD] at h; cases h)]; exact h, t⟩⟩
theorem StR.up {σ : L2.St} {ρ : Slots} (s : StR G (hid H D) σ ι ρ M) : StR G H σ ι ρ M :=
  ⟨s.len, s.mem.up, fun i d h n => by
    obtain ⟨v, e, r⟩ := s.sl i d h n
    exact ⟨v, e, r.mono (List.prefix_refl _) keep_up⟩⟩
theorem StR.dn {σ : L2.St} {ρ : Slots} (hD : H D = some (.lst vs)) (hn : D ∉ ι) (s : StR G H σ ι ρ M) : StR G (hid H D) σ ι ρ M :=
  ⟨s.len, s.mem.dn hD hn, fun i d h n => by
    obtain ⟨v, e, r⟩ := s.sl i d h n
    exact ⟨v, e, r.mono (List.prefix_refl _) (keep_dn hD)⟩⟩
/-- what happens with the list in sight happens without -/
theorem Ext.hid {ι' : List Addr} {M' : Mem} (hD : H D = some (.lst vs)) (hn : D ∉ ι) (x : Ext G ι H ι' M' H') : Ext G ι (Xt.hid H D) ι' M' (Xt.hid H' D) ∧ H' D = some (.lst vs) ∧ D ∉ ι' := by
  have hn' : D ∉ ι' := fun z => by
    have e := x.fresh D z hn
    rw [hD] at e
    cases e
  have hD' : H' D = some (.lst vs) := x.frame D _ hD rfl hn
  refine ⟨⟨x.pre, x.mem.dn hD' hn', (keep_up.trans x.keep).trans (keep_dn hD'), fun b o h1 h2 h3 => ?_, fun b ps h => ?_, fun a h n => ?_⟩, hD', hn'⟩
  · obtain ⟨ne, h⟩ := hid_some h1
    rw [hid_ne ne]
    exact x.frame b o h h2 h3
  · obtain ⟨ne, h⟩ := hid_some h
    rw [hid_ne ne]
    exact x.tbl b ps h
  · by_cases e : a = D
    · rw [e]
      exact hid_at
    · rw [hid_ne e]
      exact x.fresh a h n
/-- no exception -/
def nox {α : Type} (c : Co α) : Co α := fun M => match c M with
  | .ex _ _ => .fail
  | r => r
theorem Post.hid {α : Type} {E' : XK} {c : Co α} {Q : α → List Addr → Mem → Hp → Prop} (hD : H D = some (.lst vs)) (hn : D ∉ ι) (p : Post G E ι (Xt.hid H D) Q (nox c M)) :
    Post G E' ι H (fun a ι' M' H' => Q a ι' M' (Xt.hid H' D) ∧ H' D = some (.lst vs) ∧ D ∉ ι') (c M) := by
  unfold nox at p
  cases e : c M with
  | fail =>
    rw [e] at p
    exact p.elim
  | ex _ _ =>
    rw [e] at p
    exact p.elim
  | ok a M' =>
    rw [e] at p
    intro ι' H' x
    obtain ⟨y, h1, h2⟩ := x.hid hD hn
    exact ⟨p ι' _ y, h1, h2⟩

/-! ### a comprehension's targets: its own names -/
def wip (ρ : Slots) : List Nat → Slots
  | [] => ρ
  | i :: r => (wip ρ r).set i .u
theorem wip_st {σ : L2.St} {ρ : Slots} (s : StR G H σ ι ρ M) : ∀ own : List Nat, StR G H (wipe σ own) ι (wip ρ own) M
  | [] => s
  | i :: r => by
    have q := wip_st s r
    refine ⟨?_, q.mem, fun j d h n => ?_⟩
    · rw [wip, wipe_length, List.length_set]
      have e := q.len
      rw [wipe_length] at e
      exact e
    · rw [wip] at h
      by_cases hj : i = j
      · subst hj
        by_cases hl : i < (wip ρ r).length
        · rw [List.getElem?_set_self hl] at h
          cases h
          exact absurd rfl n
        · rw [List.getElem?_eq_none (by rw [List.length_set]; omega)] at h
          cases h
      · rw [List.getElem?_set_ne hj] at h
        obtain ⟨v, e, r'⟩ := q.sl j d h n
        refine ⟨v, ?_, r'⟩
        show ((wipe σ r).set i none)[j]? = some (some v)
        rw [List.getElem?_set_ne hj]
        exact e
theorem wipe_set (σ : L2.St) (i : Nat) (v : Option V) : ∀ {own : List Nat}, i ∈ own → wipe (σ.set i v) own = wipe σ own
  | [], h => by cases h
  | j :: r, h => by
    show (wipe (σ.set i v) r).set j none = (wipe σ r).set j none
    by_cases hr : i ∈ r
    · rw [wipe_set σ i v hr]
    · have e : i = j := by
        rcases List.mem_cons.mp h with e | h
        · exact e
        · exact absurd h hr
      subst e
      have com : ∀ (l : List Nat), i ∉ l → wipe (σ.set i v) l = (wipe σ l).set i v := by
        intro l
        induction l with
        | nil => intro _; rfl
        | cons k l ih =>
          intro hk
          show (wipe (σ.set i v) l).set k none = ((wipe σ l).set k none).set i v
          rw [ih (fun z => hk (List.mem_cons_of_mem _ z)), List.set_comm _ _ (fun z => hk (by rw [z]; exact List.mem_cons_self))]
      rw [com r hr, List.set_set]
theorem wipe_com (i : Nat) (v : Option V) : ∀ (l : List Nat) (σ : L2.St), i ∉ l → wipe (σ.set i v) l = (wipe σ l).set i v
  | [], _, _ => rfl
  | k :: l, σ, hk => by
    show (wipe (σ.set i v) l).set k none = ((wipe σ l).set k none).set i v
    rw [wipe_com i v l σ (fun z => hk (List.mem_cons_of_mem _ z)), List.set_comm _ _ (fun z => hk (by rw [z]; exact List.mem_cons_self))]
theorem wipe_wipe (σ : L2.St) : ∀ own : List Nat, wipe (wipe σ own) own = wipe σ own
  | [] => rfl
  | i :: r => by
    show (wipe ((wipe σ r).set i none) r).set i none = (wipe σ r).set i none
    by_cases hr : i ∈ r
    · rw [wipe_set _ i none hr, wipe_wipe σ r]
    · rw [wipe_com i none r _ hr, List.set_set, wipe_wipe σ r]
/-- g binds as tf does, and its own names alone -/
def TgS (G : Gx) (E : XK) (own : List Nat) (g : TG) (tf : Dv → Slots → Co Slots) : Prop := ∀ (ι : List Addr) (ρ : Slots) (M : Mem) (σ : L2.St) (H : Hp) (v : V) (d : Dv) (Q : L2.St → Hp → Prop), StR G H σ ι ρ M → RpD G ι H v d →
  Post G E ι H (fun ρ' ι' M' H' => ∀ σ', StR G H' σ' ι' ρ' M' → wipe σ' own = wipe σ own → Q σ' H') (tf d ρ M) → g v σ H Q
theorem tg_n {own : List Nat} {i : Nat} (h : i ∈ own) : TgS G E own (gName i) (tN i) := fun ι ρ M σ H v d Q s r p => Post.rt (E := E) s.mem p _ (s.set i r) (wipe_set σ i _ h)
theorem tg_2 {own : List Nat} {K : PySem.W.Frag} {i j : Nat} (hi : i ∈ own) (hj : j ∈ own) : TgS G E own (gTup K 2 (gCons (gName i) (gCons (gName j) gNil))) (tT 2 (tC (tN i) (tC (tN j) tZ))) := fun ι ρ M σ H v d Q s r p => by
  obtain ⟨ds, e, p⟩ := Post.ofO p
  obtain ⟨c, p⟩ := Post.chk p
  obtain ⟨a, vs, rfl, h1, h2⟩ := asT_rp r e
  have hl : ds.length = 2 := Nat.eq_of_beq_eq_true c
  cases h2 with
  | nil => cases hl
  | cons r1 h2 =>
    cases h2 with
    | nil => cases hl
    | cons r2 h2 =>
      cases h2 with
      | cons _ _ => cases hl
      | nil =>
        refine ⟨a, _, rfl, .of h1, rfl, _, _, rfl, _, _, rfl, rfl, ?_⟩
        exact Post.rt (E := E) s.mem p _ ((s.set i r1).set j r2) (by rw [wipe_set _ j _ hj, wipe_set _ i _ hi])
theorem tg_3 {own : List Nat} {K : PySem.W.Frag} {i j k : Nat} (hi : i ∈ own) (hj : j ∈ own) (hk : k ∈ own) : TgS G E own (gTup K 3 (gCons (gName i) (gCons (gName j) (gCons (gName k) gNil)))) (tT 3 (tC (tN i) (tC (tN j) (tC (tN k) tZ)))) := fun ι ρ M σ H v d Q s r p => by
  obtain ⟨ds, e, p⟩ := Post.ofO p
  obtain ⟨c, p⟩ := Post.chk p
  obtain ⟨a, vs, rfl, h1, h2⟩ := asT_rp r e
  have hl : ds.length = 3 := Nat.eq_of_beq_eq_true c
  cases h2 with
  | nil => cases hl
  | cons r1 h2 =>
    cases h2 with
    | nil => cases hl
    | cons r2 h2 =>
      cases h2 with
      | nil => cases hl
      | cons r3 h2 =>
        cases h2 with
        | cons _ _ => cases hl
        | nil =>
          refine ⟨a, _, rfl, .of h1, rfl, _, _, rfl, _, _, rfl, _, _, rfl, rfl, ?_⟩
          exact Post.rt (E := E) s.mem p _ (((s.set i r1).set j r2).set k r3) (by rw [wipe_set _ k _ hk, wipe_set _ j _ hj, wipe_set _ i _ hi])
/-- tests: none, one -/
def PtS (G : Gx) (E : XK) (t : TT) (tt : Slots → Co Bool) : Prop := ∀ (ι : List Addr) (ρ : Slots) (M : Mem) (σ : L2.St) (H : Hp) (Q : Bool → Hp → Prop), StR G H σ ι ρ M → Post G E ι H (fun b _ _ H' => Q b H') (tt ρ M) → t σ H Q
def yes : Slots → Co Bool := fun _ => rt true
theorem pt_0 : PtS G E tYes yes := fun ι ρ M σ H Q s p => Post.rt (E := E) s.mem p
theorem pt_1 {tt : Slots → Co Bool} : PtS G E (rdT G E tt) tt := fun ι ρ M σ H Q s p => ⟨ι, ρ, M, s, p⟩
def gOf : Dv → Option PyData
  | .g x => some x
  | _ => none
/-! ### a list comprehension -/
def lcL (tf : Dv → Slots → Co Slots) (tt : Slots → Co Bool) (te : Slots → Co Dv) (ρ : Slots) : List Dv → Co (List PyData)
  | [] => rt []
  | d :: r => bnd (nox (tf d ρ)) fun ρ1 => bnd (nox (tt ρ1)) fun q => match q with
    | true => bnd (nox (te ρ1)) fun y => bnd (ofO (gOf y)) fun x => bnd (lcL tf tt te ρ r) fun xs => rt (x :: xs)
    | false => lcL tf tt te ρ r
def lcX (own : List Nat) (src : Slots → Co (List Dv)) (tf : Dv → Slots → Co Slots) (tt : Slots → Co Bool) (te : Slots → Co Dv) : Slots → Co Dv := fun ρ => bnd (src ρ) fun ds => chk (szOk ds.length) (bnd (lcL tf tt te (wip ρ own) ds) fun xs => rt (.g (.list xs)))
theorem bnd_assoc {α β γ : Type} (f : Co α) (k : α → Co β) (l : β → Co γ) : bnd (bnd f k) l = bnd f fun a => bnd (k a) l := by
  funext M
  unfold bnd
  cases f M <;> rfl
theorem bnd_rt {α β : Type} (a : α) (k : α → Co β) : bnd (rt a) k = k a := rfl
theorem RpVs.snoc {K : PySem.W.Frag} {vs : List V} {xs : List PyData} {v : V} {x : PyData} (h : RpVs K H vs xs) (z : RpV K H v x) : RpVs K H (vs ++ [v]) (xs ++ [x]) := h.append (.cons z .nil)
end
section
variable {X : Cx} {G : Gx} {E : XK} {e : Expr} {es : List Expr} {f : Slots → Co Dv} {pos p : Pos} {tg : Expr}
theorem rd_lc {src : Slots → Co (List Dv)} {tf : Dv → Slots → Co Slots} {tt : Slots → Co Bool} {te : Slots → Co Dv} {g : TG} {t : TT} {own : List Nat} (hg : TgS G E0 own g tf) (ht : PtS G E0 t tt) {σ : L2.St} {H : Hp} {Q : VK} (h : rdE G E (lcX own src tf tt te) σ H Q) :
    tLc (rdI G E src) g t (rdE G E0 te) own σ H (VF Q) := by
  obtain ⟨ι, ρ, M, st, p⟩ := h
  refine ⟨ι, ρ, M, st, (Post.bnd p).mono fun ds ι1 M1 H1 x1 p1 J wk D hD => ?_⟩
  obtain ⟨sz, p2⟩ := Post.chk p1
  have hn : D ∉ ι1 := fun z => by
    obtain ⟨o, ho⟩ := x1.mem.at z
    rw [hD] at ho
    cases ho
  have h0 : hid (upd H1 D (.lst [])) D = H1 := by
    funext b
    by_cases e : b = D
    · rw [e, hid_at, hD]
    · rw [hid_ne e, upd_ne e]
  refine ⟨fun i m Hc => i + m = ds.length ∧ Keep H1 Hc ∧ ∃ ι2 M2 xs vs, ι1 <+: ι2 ∧ D ∉ ι2 ∧ Hc D = some (.lst vs) ∧ RpVs G.K Hc vs xs ∧ xs.length ≤ i ∧ StR G (hid Hc D) σ ι2 ρ M2 ∧
    Post G E ι2 (hid Hc D) (QE G Q) (bnd (lcL tf tt te (wip ρ own) (ds.drop i)) (fun ys => rt (.g (.list (xs ++ ys)))) M2), ⟨ds.length, Nat.zero_add _, keep_new hD, ι1, M1, [], [], List.prefix_refl _, hn, upd_same, .nil, Nat.le_refl _, by rw [h0]; exact st.ext x1, by rw [h0]; exact p2⟩, ?_⟩
  rintro i m Hc ⟨him, kc, ι2, M2, xs, vs, pr2, hn2, hDc, rxs, hlen, st2, p3⟩
  by_cases hlt : i < ds.length
  · right
    obtain ⟨m', rfl⟩ : ∃ m', m = m' + 1 := ⟨m - 1, by omega⟩
    refine ⟨wk.go i Hc kc hlt, _, fun Hn z => ⟨m', Nat.lt_succ_self _, z⟩, fun x H3 y => ?_⟩
    obtain ⟨d, e1, rd, new⟩ := wk.yld i Hc x H3 kc hlt y
    have e2 : ds.drop i = d :: ds.drop (i + 1) := by
      rw [List.drop_eq_getElem_cons hlt]
      rw [List.getElem?_eq_getElem hlt] at e1
      cases e1
      rfl
    -- the item's own tuple
    have hD3 : H3 D = some (.lst vs) := by
      rcases new with rfl | ⟨T, ws, hT, rfl⟩
      · exact hDc
      · rw [upd_ne (ne_of_none hDc hT)]
        exact hDc
    have x3 : Ext G ι2 (hid Hc D) ι2 M2 (hid H3 D) := by
      rcases new with rfl | ⟨T, ws, hT, rfl⟩
      · exact .refl st2.mem
      · have e : hid (upd Hc T (.tup ws)) D = upd (hid Hc D) T (.tup ws) := by
          funext b
          by_cases e : b = D
          · rw [e, hid_at, upd_ne (ne_of_none hDc hT), hid_at]
          · by_cases e2 : b = T
            · rw [e2, hid_ne (fun z => e (e2.trans z)), upd_same, upd_same]
            · rw [hid_ne e, upd_ne e2, upd_ne e2, hid_ne e]
        rw [e]
        refine .new st2.mem ?_
        by_cases e2 : T = D
        · rw [e2]
          exact hid_at
        · rw [hid_ne e2]
          exact hT
    have k3 : Keep Hc H3 := by
      rcases new with rfl | ⟨T, ws, hT, rfl⟩
      · exact .refl _
      · exact keep_new hT
    have p4 := p3.shift x3
    rw [e2, lcL, bnd_assoc] at p4
    have st3 := (wip_st (st2.ext x3) own).up
    refine hg ι2 _ M2 _ H3 x d _ st3 (rd.mono pr2 (.refl _)) ((Post.hid hD3 hn2 (Post.bnd p4)).mono fun ρ1 ι4 M4 H4 x4 ⟨p5, hD4, hn4⟩ σ4 st4 hw => ⟨hw.trans (wipe_wipe σ own), ?_⟩)
    rw [bnd_assoc] at p5
    refine ht ι4 ρ1 M4 σ4 H4 _ st4 ((Post.hid hD4 hn4 (Post.bnd p5)).mono fun q ι5 M5 H5 x5 ⟨p6, hD5, hn5⟩ => ?_)
    have st5 : StR G (hid H5 D) σ ι5 ρ M5 := by
      have y4 := (x4.hid hD3 hn2).1
      have y5 := (x5.hid hD4 hn4).1
      exact ((st2.ext x3).ext y4).ext y5
    have k5 : Keep H1 H5 := (((kc.trans k3).trans x4.keep).trans x5.keep)
    have pr5 : ι1 <+: ι5 := (pr2.trans x4.pre).trans x5.pre
    cases q with
    | false =>
      refine iteF ⟨by omega, k5, ι5, M5, xs, vs, pr5, hn5, hD5, ((rxs.mono k3).mono x4.keep).mono x5.keep, by omega, st5, p6⟩
    | true =>
      refine iteT ?_
      rw [bnd_assoc] at p6
      refine ⟨ι5, ρ1, M5, (st4.ext x5), (Post.hid hD5 hn5 (Post.bnd p6)).mono fun d6 ι6 M6 H6 x6 ⟨p7, hD6, hn6⟩ v6 rv6 => ?_⟩
      rw [bnd_assoc] at p7
      obtain ⟨z, ez, p8⟩ := Post.ofO p7
      have ed : d6 = .g z := by
        cases d6 with
        | g w =>
          cases ez
          rfl
        | _ => cases ez
      subst ed
      cases rv6 with
      | g rv6 =>
        have rx6 : RpVs G.K H6 vs xs := (((rxs.mono k3).mono x4.keep).mono x5.keep).mono x6.keep
        have h6 : hid (upd H6 D (.lst (vs ++ [v6]))) D = hid H6 D := by
          funext b
          by_cases e : b = D
          · rw [e, hid_at, hid_at]
          · rw [hid_ne e, hid_ne e, upd_ne e]
        have ks : Keep H6 (upd H6 D (.lst (vs ++ [v6]))) := keep_store hD6 rfl
        refine ⟨vs, hD6, ?_, by omega, (k5.trans x6.keep).trans ks, ι6, M6, xs ++ [z], vs ++ [v6], pr5.trans x6.pre, hn6, upd_same, (rx6.snoc rv6).mono ks, ?_, ?_, ?_⟩
        · have h9 := szOk_le sz
          rw [rxs.length]
          omega
        · rw [List.length_append]
          show xs.length + 1 ≤ i + 1
          omega
        · rw [h6]
          exact st5.ext (x6.hid hD5 hn5).1
        · rw [h6]
          rw [bnd_assoc] at p8
          have e9 : ∀ ys, xs ++ [z] ++ ys = xs ++ z :: ys := fun ys => by simp
          simp only [e9]
          exact p8
  · left
    have hi : i = ds.length := by omega
    subst hi
    rw [List.drop_length, lcL, bnd_rt, List.append_nil] at p3
    refine ⟨wk.stop Hc kc, .inr ⟨D, .lst vs, rfl, hDc, trivial, fun od => ?_⟩⟩
    have e : upd Hc D (.frz od (.lst vs)) = upd (hid Hc D) D (.frz od (.lst vs)) := by
      funext b
      by_cases e : b = D
      · rw [e, upd_same, upd_same]
      · rw [upd_ne e, upd_ne e, hid_ne e]
    rw [e]
    have x9 : Ext G ι2 (hid Hc D) ι2 M2 (upd (hid Hc D) D (.frz od (.lst vs))) := .new st2.mem hid_at
    exact Post.rt (E := E) x9.mem (p3.shift x9) _ (.g (.lst (.inl ⟨od, upd_same⟩) ((rxs.mono (keep_dn hDc)).mono x9.keep)))
theorem xlc {elt iter : Expr} {ifs : List Expr} {scope : Scope} {own : List (Str × Nat)} {src : Slots → Co (List Dv)} {tf : Dv → Slots → Co Slots} {tt : Slots → Co Bool} {te : Slots → Co Dv} {g : TG} {t : TT} (hc : X.calm = true) (hN : X.N.Nodup) (hi : PI X tg iter (rdI G E src)) (ok : BlkOk X.N X.env.scope scope own)
    (tg_ : TgS G E0 (own.map (·.2)) g tf) (pt_ : PtS G E0 t tt) (hg : ∀ (s : Shared) (H : Hp) (C : Addr) (cl : List (Str × Addr)) (fp : List Addr), PG (X.blk s H scope (compEnvC scope cl C X.env) fp) tg g) (ht : ∀ (s : Shared) (H : Hp) (C : Addr) (cl : List (Str × Addr)) (fp : List Addr), PTs (X.blk s H scope (compEnvC scope cl C X.env) fp) ifs t)
    (he : ∀ (s : Shared) (H : Hp) (C : Addr) (cl : List (Str × Addr)) (fp : List Addr), PE (X.blk s H scope (compEnvC scope cl C X.env) fp) elt (rdE G E0 te)) (hs : ∀ x, foldedSetIterable iter X.env x = pure x := by intro _; rfl) :
    PE X (.ListComp elt [⟨tg, iter, ifs, 0⟩] scope pos) (rdE G E (lcX (own.map (·.2)) src tf tt te)) :=
  peI (pe_frz (pe_lc hc hN hi ok hg ht he hs)) fun _ _ _ h => rd_lc tg_ pt_ h
end
end Xt
set_option Elab.async false
set_option linter.all false
set_option maxRecDepth 100000
set_option maxHeartbeats 1000000
namespace Xt
open PySem PySem.Spec PyProof.Rows L2

/-! ### defs by name -/
/-- the def that stands under the name x gives what F n gives, with n calls, one in another -/
def Dok (P : Program) (w : World) (base : Heap) (CX : CXT) (G : Gx) (x : Str) (ps : List Str) (n : Nat) (F : List Dv → Co Dv) : Prop :=
  ∃ (fa : Addr) (fd : FuncData), G.mg x = some (.ref fa) ∧ PySem.W.keepIn G.K (.ref fa) = true ∧ Binds G.K fd ps [] ∧ FnOk P w G.K G.mg base CX n fa fd ps (spF G F)
theorem Dok.imp {P : Program} {w : World} {base : Heap} {CX : CXT} {G : Gx} {x : Str} {ps : List Str} {n : Nat} {F F' : List Dv → Co Dv} (d : Dok P w base CX G x ps n F) (h : ∀ ds M, F' ds M = F ds M ∨ F' ds M = .fail) : Dok P w base CX G x ps n F' := by
  obtain ⟨fa, fd, h1, h2, h3, h4⟩ := d
  exact ⟨fa, fd, h1, h2, h3, h4.imp fun vs H Q E s => spF_imp h s⟩
theorem Dok.mono {P : Program} {w : World} {base : Heap} {CX : CXT} {G : Gx} {x : Str} {ps : List Str} {n m : Nat} {F : List Dv → Co Dv} (d : Dok P w base CX G x ps n F) (h : n ≤ m) : Dok P w base CX G x ps m F := by
  obtain ⟨fa, fd, h1, h2, h3, h4⟩ := d
  exact ⟨fa, fd, h1, h2, h3, h4.mono h⟩
theorem px0 {X : Cx} {E : XK} : Passes CX0 X E := fun _ _ _ _ _ _ _ h => h.elim
section
variable {X : Cx} {G : Gx} {E : XK} {e : Expr} {es : List Expr} {gs : Slots → Co (List Dv)} {pos p : Pos} {CX : CXT} {x : Str} {ps : List Str} {n : Nat} {F : List Dv → Co Dv}
theorem xcP (d : Dok X.prog X.w X.base CX G x ps n F) (hK : X.K = G.K) (hm : X.mg = G.mg) (hr : Room n X.A) (hx : Passes CX X E) (ha : PA X (e :: es) (rdA G E gs)) (hg : Gl X x := by rfl)
    (hdb : (x == ("__debug__" : Str)) = false := by decide) (he : starEach (e :: es) X.env = (false, eval e X.env) :: starEach es X.env := by rfl) (hpl : (backTo pos (starEach es X.env)).any (·.1) = false := by rfl) :
    PE X (.Call (.Name x p) (e :: es) [] pos) (rdE G E (cB (pureC F) gs)) := by
  obtain ⟨fa, fd, h1, h2, h3, h4⟩ := d
  rw [← hK, ← hm] at h4
  rw [← hm] at h1
  rw [← hK] at h2 h3
  exact xcallP h4 hr hg h1 h2 h3 hx ha hdb he hpl
theorem xcW (d : Dok X.prog X.w X.base CX G x ps n F) (hK : X.K = G.K) (hm : X.mg = G.mg) (hr : Room n X.A) (hx : Passes CX X E) (ha : PA X (e :: es) (rdA G E gs)) (hg : Gl X x := by rfl)
    (hdb : (x == ("__debug__" : Str)) = false := by decide) (he : starEach (e :: es) X.env = (false, eval e X.env) :: starEach es X.env := by rfl) (hpl : (backTo pos (starEach es X.env)).any (·.1) = false := by rfl) :
    PE X (.Call (.Name x p) (e :: es) [] pos) (rdE G E (cB F gs)) := by
  obtain ⟨fa, fd, h1, h2, h3, h4⟩ := d
  rw [← hK, ← hm] at h4
  rw [← hm] at h1
  rw [← hK] at h2 h3
  exact xcallW h4 hr hg h1 h2 h3 hx ha hdb he hpl
end
/-! ### what the head tells -/
structure Tx (fa : List He.Fa) (fn : List He.DefD) (G : Gx) : Prop where
  says : He.SaysD fa fn G.K
  hp : ∃ h : Heap, G.K.In h ∧ h.Ns mainGlobals G.mg
section
variable {fa : List He.Fa} {fn : List He.DefD} {G : Gx}
theorem Tx.glo (T : Tx fa fn G) {x : Str} (i : Nat) (h : fa[i]? = some (.glo x) := by rfl) : G.mg x = some (.ref (He.ga G.K x)) := by
  obtain ⟨hh, h1, h2⟩ := T.hp
  exact He.glo_ok h1 h2 (T.says.fact i h)
theorem Tx.free (T : Tx fa fn G) {x : Str} (i : Nat) (h : fa[i]? = some (.free x) := by rfl) : G.mg x = none := by
  obtain ⟨hh, h1, h2⟩ := T.hp
  exact He.free_ok h1 h2 (T.says.fact i h)
theorem Tx.int (T : Tx fa fn G) {x : Str} {z : Int} (i : Nat) (h : fa[i]? = some (.int x z) := by rfl) : ∃ t, G.mg x = some (.int z t) := by
  obtain ⟨hh, h1, h2⟩ := T.hp
  exact He.int_ok h1 h2 (T.says.fact i h)
end
/-- nothing is promised with no call -/
theorem fn_zero {P : Program} {w : World} {K : PySem.W.Frag} {mg : Str → Option Value} {base : Heap} {CX : CXT} {k : Nat} {f : Addr} {fd : FuncData} {ps : List Str} {G : Gx} : FnOk P w K mg base CX k f fd ps (spF G fun _ => fl) := by
  have no : ∀ vs H Q E, ¬ spF G (fun _ => fl) vs H Q E := fun vs H Q E h => by
    obtain ⟨ι, M, ds, _, _, p⟩ := h
    exact p.elim
  exact ⟨fun vs H Q E h => absurd h (no vs H Q E), fun A outer s H args us vs Q E _ _ _ _ h => absurd h (no vs H Q E)⟩
/-- a def of the text, by its body: n calls for what it calls -/
theorem dok_mk {P : Program} {w : World} {base : Heap} {G : Gx} {x nm qual : Str} {params : Arguments} {body : List Stmt} {scope : Scope} {fa : Addr} {N ps : List Str} {Fn : Nat → List Dv → Co Dv} {b : Nat → Slots → Co Fl} (h0 : Fn 0 = fun _ => fl) (hs : ∀ n, Fn (n + 1) = defF N.length ps.length (b n))
    (F : ∃ fd, FunD G.K nm qual params body scope [] [] fa fd) (hm : G.mg x = some (.ref fa)) (S : FnScope N ps scope)
    (hbd : ∀ (kV doc pm : Value) (an : Option Addr) (cdv ct : Value) (us : List Value), us.length = ps.length → bindArgs (PySem.W.fnOf nm qual params body scope .none kV doc pm an cdv ct) ⟨us, []⟩ = pure (ps.zip us))
    (hb : ∀ n, Dok P w base CX0 G x ps n (Fn n) → ∀ (cdv : Value) (A : Around) (outer : List Env) (s : Shared) (H : Hp) (E : XK), Room n (A.deeper (envOfC qual scope s.heap.objs.size fa cdv)) → PSs (cxOf CX0 P w G.K G.mg base N qual scope fa cdv A outer s H E).nox body (rdS G E (b n))) :
    ∀ n, Dok P w base CX0 G x ps n (Fn n) := by
  obtain ⟨fd, F⟩ := F
  intro n
  induction n with
  | zero => exact ⟨fa, fd, hm, F.kp, F.bindsN hbd, by rw [h0]; exact fn_zero⟩
  | succ n ih => exact ⟨fa, fd, hm, F.kp, F.bindsN hbd, by
      rw [hs]
      exact xdef F S fun cdv A outer s H E hr => (hb n ih cdv A outer s H E hr).nox⟩
end Xt
set_option Elab.async false
set_option linter.all false
set_option maxRecDepth 100000
set_option maxHeartbeats 1000000
namespace Xt
open PySem PySem.Spec PyProof.Rows L2

/-! ### a call that may change what stands in the memory, its own new objects forgotten -/
def grdO : MO → Bool
  | .lst xs => (grd xs).isSome
  | .dct kvs => (grd (kvs.map (·.2))).isSome
  | .ins _ fs => (grd (fs.map (·.2))).isSome
  | .dead => true
def trimC (F : List Dv → Co Dv) : List Dv → Co Dv := fun ds M => match F ds M with
  | .ok (.g x) M' => (match (M'.take M.length).all grdO with
    | true => .ok (.g x) (M'.take M.length)
    | false => .fail)
  | .ok _ _ => .fail
  | .ex c M' => (match (M'.take M.length).all grdO with
    | true => .ex c (M'.take M.length)
    | false => .fail)
  | .fail => .fail
section
variable {G : Gx} {E : XK} {ι ι' : List Addr} {H H' : Hp} {M M' : Mem}
theorem grd_cons {x : Dv} {xs : List Dv} (h : (grd (x :: xs)).isSome = true) : (∃ y, x = .g y) ∧ (grd xs).isSome = true := by
  cases x with
  | g y =>
    refine ⟨⟨y, rfl⟩, ?_⟩
    have h2 : ((grd xs).map (y :: ·)).isSome = true := h
    cases e : grd xs with
    | none =>
      rw [e] at h2
      cases h2
    | some _ => rfl
  | _ => cases h
theorem RpDs.any_ι {vs : List V} {ds : List Dv} (r : RpDs G ι' H vs ds) (h : (Xt.grd ds).isSome = true) : RpDs G ι H vs ds := by
  obtain ⟨xs, e⟩ := Option.isSome_iff_exists.mp h
  have e2 : ∀ {ds : List Dv} {xs : List PyData}, Xt.grd ds = some xs → ds = xs.map Dv.g := by
    intro ds
    induction ds with
    | nil =>
      intro xs e
      cases e
      rfl
    | cons d ds ih =>
      intro xs e
      cases d with
      | g y =>
        have e3 : (Xt.grd ds).map (y :: ·) = some xs := e
        cases q : Xt.grd ds with
        | none =>
          rw [q] at e3
          cases e3
        | some zs =>
          rw [q] at e3
          cases e3
          rw [ih q]
          rfl
      | _ => cases e
  rw [e2 e]
  exact (r.grd e).ds
theorem RpI.any_ι {vs : List (Key × V)} {ds : List (Int × Dv)} (r : RpI G ι' H vs ds) (h : (Xt.grd (ds.map (·.2))).isSome = true) : RpI G ι H vs ds := by
  induction r with
  | nil => exact .nil
  | @cons i v kvs d kds hd _ ih =>
    obtain ⟨⟨y, e⟩, h2⟩ := grd_cons h
    have e' : d = .g y := e
    subst e'
    cases hd with
    | g hv => exact .cons (.g hv) (ih h2)
theorem RpF.any_ι {vs : List (Str × V)} {ds : List (Str × Dv)} (r : RpF G ι' H vs ds) (h : (Xt.grd (ds.map (·.2))).isSome = true) : RpF G ι H vs ds := by
  induction r with
  | nil => exact .nil
  | @cons i v kvs d kds hd _ ih =>
    obtain ⟨⟨y, e⟩, h2⟩ := grd_cons h
    have e' : d = .g y := e
    subst e'
    cases hd with
    | g hv => exact .cons (.g hv) (ih h2)
theorem Ext.trim (m : MemR G ι H M) (x : Ext G ι H ι' M' H') (h : (M'.take M.length).all grdO = true) : Ext G ι H ι (M'.take M.length) H' where
  pre := List.prefix_refl _
  mem := by
    obtain ⟨t, e⟩ := x.pre
    have hl : ι'.length = M'.length := x.mem.len
    have hlen : M.length ≤ M'.length := by
      rw [← hl, ← e, List.length_append, m.len]
      omega
    refine ⟨by rw [List.length_take, m.len]; omega, m.nd, fun i a mo h1 h2 => ?_, x.mem.tab⟩
    have h3 : M'[i]? = some mo := by
      rw [List.getElem?_take] at h2
      split at h2
      · exact h2
      · cases h2
    have q := x.mem.ob i a mo (pre_get x.pre h1) h3
    have z := List.all_eq_true.mp h mo (List.mem_of_getElem? h2)
    cases mo with
    | lst xs =>
      obtain ⟨vs, q1, q2⟩ := q
      exact ⟨vs, q1, q2.any_ι z⟩
    | dct xs =>
      obtain ⟨vs, q1, q2⟩ := q
      exact ⟨vs, q1, q2.any_ι z⟩
    | ins c xs =>
      obtain ⟨C, dx, vs, q0, q1, q2⟩ := q
      exact ⟨C, dx, vs, q0, q1, q2.any_ι z⟩
    | dead => exact q
  keep := x.keep
  frame := x.frame
  tbl := x.tbl
  fresh := fun a h n => absurd h n
theorem sp_trim {F : List Dv → Co Dv} {ds : List Dv} {Q : VK} (m : MemR G ι H M) (p : Post G E ι H (QE G Q) (trimC F ds M)) : Post G E ι H (QE G Q) (F ds M) := by
  unfold trimC at p
  cases e : F ds M with
  | fail =>
    rw [e] at p
    exact p.elim
  | ok d M' =>
    rw [e] at p
    cases d with
    | g x =>
      cases z : (M'.take M.length).all grdO with
      | false =>
        simp only [z] at p
        exact p.elim
      | true =>
        simp only [z] at p
        intro ι' H' y v rv
        cases rv with
        | g rv => exact p ι H' (y.trim m z) v (.g rv)
    | _ => exact p.elim
  | ex c M' =>
    rw [e] at p
    cases z : (M'.take M.length).all grdO with
    | false =>
      simp only [z] at p
      exact p.elim
    | true =>
      simp only [z] at p
      intro ι' H' cls dx y hx
      exact p ι H' cls dx (y.trim m z) hx
end
section
variable {X : Cx} {G : Gx} {E : XK} {e e1 e2 : Expr} {es : List Expr} {f g : Slots → Co Dv} {gs : Slots → Co (List Dv)} {pos p : Pos} {CX : CXT} {x : Str} {ps : List Str} {n : Nat} {F : List Dv → Co Dv}
theorem rd_callT {σ : L2.St} {H : Hp} {Q : VK} (h : rdE G E (cB (trimC F) gs) σ H Q) : tCall (spF G F) [] E (rdA G E gs) σ H Q := by
  obtain ⟨ι, ρ, M, st, p⟩ := h
  refine ⟨ι, ρ, M, st, (Post.bnd p).mono fun ds ι1 M1 H1 x1 p1 vs rv => ?_⟩
  show spF G F (vs ++ []) H1 Q E
  rw [List.append_nil]
  exact ⟨ι1, M1, ds, x1.mem, rv, sp_trim x1.mem p1⟩
theorem xcT (d : Dok X.prog X.w X.base CX G x ps n F) (hK : X.K = G.K) (hm : X.mg = G.mg) (hr : Room n X.A) (hx : Passes CX X E) (ha : PA X (e :: es) (rdA G E gs)) (hg : Gl X x := by rfl)
    (hdb : (x == ("__debug__" : Str)) = false := by decide) (he : starEach (e :: es) X.env = (false, eval e X.env) :: starEach es X.env := by rfl) (hpl : (backTo pos (starEach es X.env)).any (·.1) = false := by rfl) :
    PE X (.Call (.Name x p) (e :: es) [] pos) (rdE G E (cB (trimC F) gs)) := by
  obtain ⟨fa, fd, h1, h2, h3, h4⟩ := d
  rw [← hK, ← hm] at h4
  rw [← hm] at h1
  rw [← hK] at h2 h3
  exact peI (pe_call h4 hr hg h1 h2 h3 .nil hx ha hdb he hpl) fun _ _ _ h => rd_callT h
end
end Xt
set_option Elab.async false
set_option linter.all false
set_option maxRecDepth 100000
set_option maxHeartbeats 2000000
/-! a generator expression inside sum(..), all(..): its items one after another, calls of own defs among them -/
namespace Xt
open PySem PySem.Spec PyProof.Rows L2 GenW

/-! ### the items -/
def gxL (tf : Dv → Slots → Co Slots) (te : Slots → Co Dv) (ρ : Slots) : List Dv → Mem → Option (List (PyData × Mem))
  | [], _ => some []
  | d :: r, M => match tf d ρ M with
    | .ok ρ1 M1 => (match te ρ1 M1 with
      | .ok (.g y) M2 => (match gxL tf te ρ r M2 with
        | some l => some ((y, M2) :: l)
        | none => none)
      | _ => none)
    | _ => none
/-- the memory behind them -/
def gxM : Mem → List (PyData × Mem) → Mem
  | M, [] => M
  | _, (_, M) :: r => gxM M r
theorem gxL_cons {tf : Dv → Slots → Co Slots} {te : Slots → Co Dv} {ρ : Slots} {d : Dv} {r : List Dv} {M : Mem} {z : PyData} {Mz : Mem} {l : List (PyData × Mem)} (h : gxL tf te ρ (d :: r) M = some ((z, Mz) :: l)) :
    ∃ ρ1 M1, tf d ρ M = .ok ρ1 M1 ∧ te ρ1 M1 = .ok (.g z) Mz ∧ gxL tf te ρ r Mz = some l := by
  unfold gxL at h
  split at h
  · rename_i ρ1 M1 e1
    split at h
    · rename_i y M2 e2
      split at h
      · rename_i l' e3
        cases h
        exact ⟨ρ1, M1, e1, e2, e3⟩
      · cases h
    · cases h
  · cases h
theorem gxL_len {tf : Dv → Slots → Co Slots} {te : Slots → Co Dv} {ρ : Slots} : ∀ {ds : List Dv} {M : Mem} {l : List (PyData × Mem)}, gxL tf te ρ ds M = some l → l.length = ds.length
  | [], M, l, h => by
    cases h
    rfl
  | d :: r, M, [], h => by
    unfold gxL at h
    split at h
    · split at h
      · split at h <;> cases h
      · cases h
    · cases h
  | d :: r, M, (z, Mz) :: l, h => by
    obtain ⟨_, _, _, _, e⟩ := gxL_cons h
    rw [List.length_cons, List.length_cons, gxL_len e]
/-- what stands at the targets does not matter -/
def BkS (G : Gx) (ρ : Slots) (tf : Dv → Slots → Co Slots) : Prop := ∀ (d : Dv) (M M1 : Mem) (ρ1 : Slots), tf d ρ M = .ok ρ1 M1 → ∀ (σ : L2.St) (ι : List Addr) (H : Hp) (M2 : Mem), StR G H σ ι ρ1 M2 → StR G H σ ι ρ M2
section
variable {G : Gx} {ρ : Slots}
theorem StR.unset {H : Hp} {σ : L2.St} {ι : List Addr} {M : Mem} {i : Nat} {d : Dv} (h : ρ[i]? = some .u) (s : StR G H σ ι (ρ.set i d) M) : StR G H σ ι ρ M :=
  ⟨by rw [s.len, List.length_set], s.mem, fun j e hj n => s.sl j e (by
    rw [List.getElem?_set_ne (fun z => by
      rw [← z, h] at hj
      cases hj
      exact n rfl)]
    exact hj) n⟩
theorem bk_n {i : Nat} (h : ρ[i]? = some .u) : BkS G ρ (tN i) := fun d M M1 ρ1 e σ ι H M2 s => by
  cases e
  exact s.unset h
theorem bk_2 {i j : Nat} (hij : i ≠ j) (hi : ρ[i]? = some .u) (hj : ρ[j]? = some .u) : BkS G ρ (tT 2 (tC (tN i) (tC (tN j) tZ))) := fun d M M1 ρ1 e σ ι H M2 s => by
  unfold tT at e
  cases q : asT d with
  | none =>
    rw [q] at e
    cases e
  | some ds =>
    rw [q] at e
    match ds, e with
    | [], e => cases e
    | [_], e => cases e
    | [a, b], e =>
      have e2 : ρ1 = (ρ.set i a).set j b := by
        cases e
        rfl
      rw [e2] at s
      exact StR.unset hi (StR.unset (i := j) (by rw [List.getElem?_set_ne hij]; exact hj) s)
    | _ :: _ :: _ :: _, e => cases e
end
section
variable {X : Cx} {G : Gx} {elt iter tg : Expr} {scope : Scope} {gpos : Pos} {tf : Dv → Slots → Co Slots} {te : Slots → Co Dv} {ρ : Slots} {it : Addr} {fp : List Addr} {tn : Nat → Heap → Prop} {J : It} {ι0 : List Addr} {H0 : Hp} {ds : List Dv} {zms : List (PyData × Mem)} {Mf : Mem} {PP : List (Addr × Obj) → Prop} {A : Around}
/-- i items are out, the next is asked for -/
def GSt (X : Cx) (G : Gx) (ρ : Slots) (fp : List Addr) (tn : Nat → Heap → Prop) (ι0 : List Addr) (H0 : Hp) (PP : List (Addr × Obj) → Prop) (i : Nat) (M : Mem) (s₀ s : Shared) : Prop :=
  ∃ ι H σ pp, PP pp ∧ (∀ p ∈ pp, s₀.heap.get? p.1 = some p.2) ∧ Inv X pp σ H s ∧ Ext G ι0 H0 ι M H ∧ StR G H σ ι ρ M ∧ tn i s.heap ∧ ∀ b ∈ fp, H b = none
def GYd (X : Cx) (G : Gx) (ι0 : List Addr) (H0 : Hp) (zms : List (PyData × Mem)) (fp : List Addr) (PP : List (Addr × Obj) → Prop) : Protocol := fun m s₀ v s kap =>
  ∃ i z M ι H σ V pp ip, i + m + 1 = zms.length ∧ zms[i]? = some (z, M) ∧ PP pp ∧ (∀ p ∈ pp, s₀.heap.get? p.1 = some p.2) ∧ Inv X (pp ++ ip) σ H s ∧ Ext G ι0 H0 ι M H ∧ RelV V v ∧ RpV G.K H V z ∧ (∀ p ∈ ip, p.1 ∈ fp) ∧ ∀ s' pp', PP pp' → Inv X (pp' ++ ip) σ H s' → kap (.send .none) s'
def GEd (X : Cx) (G : Gx) (ι0 : List Addr) (H0 : Hp) (Mf : Mem) (PP : List (Addr × Obj) → Prop) : Nat → Shared → Shared → Prop := fun m s₀ s =>
  m = 0 ∧ ∃ ι H σ pp, PP pp ∧ (∀ p ∈ pp, s₀.heap.get? p.1 = some p.2) ∧ Inv X pp σ H s ∧ Ext G ι0 H0 ι Mf H
theorem seg_gx (hov : A.over (.compLoop (.GeneratorExp elt [⟨tg, iter, [], 0⟩] scope gpos) 0 (.ref it) .none X.env) [] = X.A) (hc : X.calm = true) (hxe : ∀ e s, X.xe e s → False) (T : Turn X.prog X.w X.K tg J fp it tn)
    (hst : ∀ pp (H' : Hp), PP pp → (∀ b ∈ fp, H' b = none) → ∀ b ∈ fp, FpOk X pp H' b) (wk : Wk G ι0 H0 J ds) (hg : PG X tg (rdG G L2.E0 tf)) (he : PE X elt (rdE G L2.E0 te)) (hb : BkS G ρ tf) (hco : X.env.scope.isCoroutine = false) (hn : zms.length = ds.length) :
    ∀ (l : List (PyData × Mem)) (i : Nat) (M : Mem) (s₀ s : Shared), i + l.length = ds.length → gxL tf te ρ (ds.drop i) M = some l → zms.drop i = l → gxM M l = Mf → GSt X G ρ fp tn ι0 H0 PP i M s₀ s →
      Seg (model X.prog X.w) A (fun n s₀ r s₁ => r = .ok .next ∧ GEd X G ι0 H0 Mf PP n s₀ s₁) (GYd X G ι0 H0 zms fp PP) l.length s₀
        (.compLoop (.GeneratorExp elt [⟨tg, iter, [], 0⟩] scope gpos) 0 (.ref it) .none X.env) ((model X.prog X.w).den (.compLoop (.GeneratorExp elt [⟨tg, iter, [], 0⟩] scope gpos) 0 (.ref it) .none X.env)) [] s := by
  intro l
  induction l with
  | nil =>
    intro i M s₀ s hil hl hz hM ⟨ι, H, σ, pp, hp, hs0, I, x, st, ht, hf⟩
    have hin : i = ds.length := by simpa using hil
    subst hin
    show Seg _ A _ _ _ s₀ _ ((compTurn (.GeneratorExp elt [⟨tg, iter, [], 0⟩] scope gpos) 0 (.ref it) .none X.env).onRaise (leaving X.env)) [] s
    rw [compTurn_gen, Sem.onRaise_eq_wrap]
    refine seg_bind_wrap (wpAny_standAt ?_)
    refine seg_bind_wrap ?_
    rw [hov]
    refine thn (T.done X rfl rfl rfl hc _ pp s σ H _ I (hst pp H hp hf) ht (wk.stop H x.keep)) fun r s1 ⟨hr, I1⟩ => ?_
    subst hr
    refine seg_end (.ok .next) ⟨rfl, rfl, ι, H, σ, pp, hp, hs0, I1, ?_⟩
    rw [← hM]
    exact x
  | cons zm l ih =>
    intro i M s₀ s hil hl hz hM ⟨ι, H, σ, pp, hp, hs0, I, x, st, ht, hf⟩
    obtain ⟨z, Mz⟩ := zm
    have hlt : i < ds.length := by
      rw [List.length_cons] at hil
      omega
    have e0 : ds.drop i = ds[i] :: ds.drop (i + 1) := List.drop_eq_getElem_cons hlt
    rw [e0] at hl
    obtain ⟨ρ1, M1, q1, q2, q3⟩ := gxL_cons hl
    have hlz : i < zms.length := by rw [hn]; exact hlt
    have ez : zms.drop i = zms[i] :: zms.drop (i + 1) := List.drop_eq_getElem_cons hlz
    rw [ez] at hz
    have hz1 : zms[i] = (z, Mz) := (List.cons.inj hz).1
    have hz2 : zms.drop (i + 1) = l := (List.cons.inj hz).2
    show Seg _ A _ _ _ s₀ _ ((compTurn (.GeneratorExp elt [⟨tg, iter, [], 0⟩] scope gpos) 0 (.ref it) .none X.env).onRaise (leaving X.env)) [] s
    rw [compTurn_gen, Sem.onRaise_eq_wrap]
    refine seg_bind_wrap (wpAny_standAt ?_)
    refine seg_bind_wrap ?_
    rw [hov]
    refine thn (T.item X rfl rfl rfl hc i pp s σ H _ I (hst pp H hp hf) ht (wk.go i H x.keep hlt)) fun r s1 ⟨u, hr, h1⟩ => ?_
    subst hr
    refine seg_bind_wrap ?_
    rw [hov]
    refine thn h1 fun _ s2 ⟨V, H2, I2, r2, y2, st2, f2⟩ => ?_
    obtain ⟨d, ed, rd, new⟩ := wk.yld i H V H2 x.keep hlt y2
    rw [List.getElem?_eq_getElem hlt] at ed
    cases ed
    have x2 : Ext G ι H ι M H2 := wk_new x.mem new
    have I2' := I2.pinned (hst pp H2 hp f2) (T.obj _ _ st2)
    refine seg_bind_wrap ?_
    rw [hov]
    refine wpAny_mono (hg.run _ s2 σ H2 V u (fun σ' H' => ∃ ι', Ext G ι H2 ι' M1 H' ∧ StR G H' σ' ι' ρ1 M1) I2' r2 ⟨ι, ρ, M, ds[i], st.ext x2, rd.mono x.pre (.refl _), ?_⟩) (fun _ s3 ⟨σ3, H3, I3, ι3, x3, st3⟩ => ?_) fun e s' hx => (hxe e s' hx).elim
    · rw [q1]
      exact fun ι' H' y σ' s' => ⟨ι', y, s'⟩
    simp only [List.forIn_nil]
    refine seg_bind_wrap (wpAny_pure ?_)
    simp only [if_true]
    have hy : ∀ v, yieldOut X.env v = yieldValue v := fun v => by simp only [yieldOut, hco, Bool.false_eq_true, if_false]
    simp only [hy]
    rw [Sem.bind_eq_wrap', Sem.bind_eq_wrap', Sem.wrap_wrap, Sem.wrap_wrap]
    refine seg_wrap ?_
    rw [hov]
    refine wpAny_mono (he.run _ s3 σ3 H3 (fun V' H' => ∃ ι', Ext G ι3 H3 ι' Mz H' ∧ RpV G.K H' V' z) I3 ⟨ι3, ρ1, M1, st3, ?_⟩) (fun w s4 ⟨V4, H4, I4, r4, ι4, x4, rp4⟩ => ?_) fun e s' hx => (hxe e s' hx).elim
    · rw [q2]
      intro ι' H' y v rv
      cases rv with
      | g rv => exact ⟨ι', y, rv⟩
    have x04 : Ext G ι0 H0 ι4 Mz H4 := ((x.trans x2).trans x3).trans x4
    refine seg_at (seg_yield rfl rfl rfl ⟨i, z, Mz, ι4, H4, σ3, V4, pp, pinsAt fp s2.heap, ?_, ?_, hp, hs0, I4, x04, r4, rp4, fun p hp' => (of_pinsAt hp').1, fun s' pp' hpp' I5 => ?_⟩)
    · rw [hn, ← hil, List.length_cons]
      omega
    · rw [List.getElem?_eq_getElem hlz, hz1]
    · refine seg_again rfl (ih (i + 1) Mz s' s' ?_ q3 hz2 hM ⟨ι4, H4, σ3, pp', hpp', fun p hp' => (I5.pin p (List.mem_append_right _ (List.mem_append_left _ hp'))).1, I5.unpinned, x04, hb _ _ _ _ q1 _ _ _ _ (st3.ext x4), ?_, fun b hb' => ?_⟩)
      · rw [List.length_cons] at hil
        omega
      · exact T.keep _ _ _ st2 fun b hb' o e => (I5.pin (b, o) (List.mem_append_right _ (List.mem_append_right _ (mem_pinsAt hb' e)))).1
      · obtain ⟨o, e, _⟩ := T.obj _ _ st2 b hb'
        exact (I5.pin (b, o) (List.mem_append_right _ (List.mem_append_right _ (mem_pinsAt hb' e)))).2.1
end
end Xt
set_option Elab.async false
set_option linter.all false
set_option maxRecDepth 100000
set_option maxHeartbeats 2000000
namespace Xt
open PySem PySem.Spec PyProof.Rows L2 GenW
section
variable {X : Cx} {G : Gx} {elt iter tg : Expr} {scope : Scope} {gpos : Pos} {tf : Dv → Slots → Co Slots} {te : Slots → Co Dv} {ρ : Slots} {it : Addr} {fp : List Addr} {tn : Nat → Heap → Prop} {J : It} {ι0 : List Addr} {H0 : Hp} {ds : List Dv} {zms : List (PyData × Mem)} {Mf : Mem} {PP : List (Addr × Obj) → Prop} {A : Around}
theorem seg_gx0 (hov : A.over (.compLoop (.GeneratorExp elt [⟨tg, iter, [], 0⟩] scope gpos) 0 (.ref it) .none X.env) [] = X.A) (hc : X.calm = true) (hxe : ∀ e s, X.xe e s → False) (T : Turn X.prog X.w X.K tg J fp it tn)
    (hst : ∀ pp (H' : Hp), PP pp → (∀ b ∈ fp, H' b = none) → ∀ b ∈ fp, FpOk X pp H' b) (wk : Wk G ι0 H0 J ds) (hg : PG X tg (rdG G L2.E0 tf)) (he : PE X elt (rdE G L2.E0 te)) (hb : BkS G ρ tf) (hco : X.env.scope.isCoroutine = false)
    {M : Mem} {s₀ s : Shared} (hl : gxL tf te ρ ds M = some zms) (hM : gxM M zms = Mf) (st : GSt X G ρ fp tn ι0 H0 PP 0 M s₀ s) :
    Seg (model X.prog X.w) A (fun n s₀ r s₁ => r = .ok .next ∧ GEd X G ι0 H0 Mf PP n s₀ s₁) (GYd X G ι0 H0 zms fp PP) zms.length s₀
      (.compStart (.GeneratorExp elt [⟨tg, iter, [], 0⟩] scope gpos) 0 (.ref it) .none X.env) ((model X.prog X.w).den (.compStart (.GeneratorExp elt [⟨tg, iter, [], 0⟩] scope gpos) 0 (.ref it) .none X.env)) [] s := by
  have hn := gxL_len hl
  have loop := seg_gx hov hc hxe T hst wk hg he hb hco hn zms 0 M s₀ s (by rw [hn]; exact Nat.zero_add _) hl rfl hM st
  obtain ⟨ι, H, σ, pp, hp, _, I, x, sr, ht, hf⟩ := st
  show Seg _ A _ _ _ s₀ _ ((compStart (.GeneratorExp elt [⟨tg, iter, [], 0⟩] scope gpos) 0 (.ref it) .none X.env).onRaise (leaving X.env)) [] s
  unfold compStart
  rw [Sem.onRaise_eq_wrap]
  show Seg _ A _ _ _ s₀ _ ((ask >>= _).wrap _ _ _ _) [] s
  refine seg_bind_wrap (wpAny_askSetting ?_)
  split
  · exact seg_again rfl loop
  · first
      | exact seg_bind_wrap (wpAny_rule (seg_bind_wrap (wpAny_standAt (seg_bind_wrap (T.self _ 0 s _ _ ht (seg_again rfl loop))))))
      | (refine seg_bind_wrap (wpAny_rule ?_); show Seg _ A _ _ _ s₀ _ ((standAt iter.pos >>= _).wrap _ _ _ _) [] s; exact seg_bind_wrap (wpAny_standAt (seg_bind_wrap (T.self _ 0 s _ _ ht (seg_again rfl loop)))))

/-! ### the next item is asked for -/
theorem Inv.sg {pins : List (Addr × Obj)} {σ : L2.St} {H : Hp} {s : Shared} {g : Nat} {x : GenState} (I : Inv X pins σ H s) (hx : x.bare = true) : Inv X pins σ H (s.setGen g x) :=
  I.call' (ch := []) rfl .refl I.hok (allBare_setGen I.bare hx) fun b z => by cases z
theorem Inv.kh {pins : List (Addr × Obj)} {σ : L2.St} {H : Hp} {s s' : Shared} (I : Inv X pins σ H s) (ho : s'.os = s.os) (k : ∀ b o, s.heap.get? b = some o → s'.heap.get? b = some o) (hb : AllBare s'.gens) : Inv X pins σ H s' :=
  I.call' (ch := []) ho (Un.kept k) (I.hok.kept k) hb fun b z => by cases z
/-- the generator: i items are out, l will be -/
structure GGo (X : Cx) (G : Gx) (A : Around) (a : Addr) (g : Nat) (ι0 : List Addr) (H0 : Hp) (zms : List (PyData × Mem)) (fp : List Addr) (Mf : Mem) (PP : List (Addr × Obj) → Prop) (m : Nat) (σ : L2.St) (H : Hp) (ip : List (Addr × Obj)) (s : Shared) : Prop where
  gen : s.heap.IsGen a g
  ipf : ∀ p ∈ ip, p.1 ∈ fp
  goes : ∃ gs, s.gens[g]? = some gs ∧ ∀ s'' pp', PP pp' → Inv X (pp' ++ ip) σ H s'' → gs.Goes (model X.prog X.w) A.in1 (fun n s₀ r s₁ => r = .ok .next ∧ GEd X G ι0 H0 Mf PP n s₀ s₁) (GYd X G ι0 H0 zms fp PP) m (.send .none) s''
theorem next_gx {a : Addr} {g i m : Nat} {go : Obj} {σ : L2.St} {H : Hp} {ip pp : List (Addr × Obj)} {s : Shared} {Q : Option Value → Shared → Prop} {E : Value → Shared → Prop} (hh : A.handled = none) (hroom : A.depth < recursionLimit)
    (hgo : ∀ h : Heap, h.get? a = some go → h.IsGen a g) (hpn : (a, go) ∈ X.pn) (gg : GGo X G A a g ι0 H0 zms fp Mf PP m σ H ip s) (hp : PP pp) (I : Inv X (pp ++ ip) σ H s) (him : i + m = zms.length)
    (hY : ∀ z Mz m' v V s' ι' H' σ' ip' pp', m = m' + 1 → zms[i]? = some (z, Mz) → RelV V v → RpV G.K H' V z → PP pp' → (∀ p ∈ pp', s.heap.get? p.1 = some p.2) → Inv X (pp' ++ ip') σ' H' s' → Ext G ι0 H0 ι' Mz H' → GGo X G A a g ι0 H0 zms fp Mf PP m' σ' H' ip' s' → Q (some v) s')
    (hN : ∀ s' ι' H' σ' pp', m = 0 → PP pp' → (∀ p ∈ pp', s.heap.get? p.1 = some p.2) → Inv X pp' σ' H' s' → Ext G ι0 H0 ι' Mf H' → Q none s') : wpAny (model X.prog X.w) A (pyNext (.ref a)) Q E s := by
  obtain ⟨hg, hip, gs, hgs, hgoes⟩ := gg
  have hgl : g < s.gens.size := (Array.getElem?_eq_some_iff.mp hgs).1
  refine wpAny_gsz (n := g + 1) hgl ?_
  refine wpAny_pyNext_genexpQ (P := GEd X G ι0 H0 Mf PP) hh I.nolimit hroom hg hgs (hgoes _ pp hp (Inv.sg I rfl)) (fun v s₁ gs' hb hv => ?_) (fun s₁ hx h' hk => ?_)
  · obtain ⟨j, z, Mz, ι', H', σ', V, pp', ip', hj, hz, hp', hs0, I', x', rv, rp, hip', kap⟩ := hv
    intro hsz
    have hsz1 : g < s₁.gens.size := by
      have q : (s₁.setGen g gs').gens.size = s₁.gens.size := setGen_size _ _ _
      have hsz' : g + 1 ≤ (s₁.setGen g gs').gens.size := hsz
      omega
    cases m with
    | zero => exact (kap s₁ pp' hp' I').elim
    | succ m' =>
      have hji : j = i := by omega
      subst hji
      refine hY z Mz m' v V _ ι' H' σ' ip' pp' rfl hz rv rp hp' hs0 (Inv.sg I' hb) x' ⟨?_, hip', gs', setGen_at hsz1, fun s'' pp'' h1 h2 => kap s'' pp'' h1 h2⟩
      exact hgo _ (I'.pin (a, go) (List.mem_append_left _ hpn)).1
  · obtain ⟨hm, ι', H', σ', pp', hp', hs0, I', x'⟩ := hx
    intro _
    refine hN _ ι' H' σ' pp' hm hp' hs0 ?_ x'
    exact Inv.kh (s := s₁.setGen g .finished) (Inv.sg I' rfl) rfl hk (allBare_setGen I'.bare rfl)

/-! ### all(..) -/
def allZ : List (PyData × Mem) → Option (Bool × Mem) → Option (Bool × Mem)
  | [], e => e
  | (.bool true, M) :: r, e => allZ r (e.map fun _ => (true, M))
  | (.bool false, M) :: _, _ => some (false, M)
  | _, _ => none
theorem all_loop {a : Addr} {g : Nat} {go : Obj} {R : Result → Shared → Prop} {s2 : Shared} (hh : A.in1.handled = none) (hroom : A.in1.depth < recursionLimit) (hgo : ∀ h : Heap, h.get? a = some go → h.IsGen a g) (hpn : (a, go) ∈ X.pn) {b : Bool} {Me : Mem}
    (hR : ∀ s' ι' H' σ', Inv X [] σ' H' s' → Ext G ι0 H0 ι' Me H' → R (.ok (.ret (.bool b))) s') : ∀ (m i : Nat) (M : Mem) (σ : L2.St) (H : Hp) (ip : List (Addr × Obj)) (s : Shared),
      i + m = zms.length → allZ (zms.drop i) (some (true, M)) = some (b, Me) → (m = 0 → M = Mf) → gxM M (zms.drop i) = Mf → GGo X G A.in1 a g ι0 H0 zms fp Mf (fun pp => pp = []) m σ H ip s → Inv X ip σ H s →
      codeAny (model X.prog X.w) A (.builtin "all.loop" ⟨[.ref a], []⟩) R s := by
  intro m
  induction m with
  | zero =>
    intro i M σ H ip s him hz hM hM2 gg I
    refine codeAny_builtin F.entry_all_loop ?_
    rw [Around.under_plainId F.plain_all_loop _]
    show wpAny _ A.in1 (pyNext (.ref a) >>= _) _ _ s
    refine wpAny_bind (next_gx (pp := []) hh hroom hgo hpn gg rfl I him (fun z Mz m' v V s' ι' H' σ' ip' pp' e => by cases e) fun s' ι' H' σ' pp' _ hp' _ I' x' => ?_)
    subst hp'
    refine wpAny_bind (wpAny_rule (wpAny_pure ?_))
    have e : zms.drop i = [] := by rw [List.drop_eq_nil_iff]; omega
    rw [e] at hz
    have hz' : some (true, M) = some (b, Me) := hz
    cases hz'
    rw [hM rfl] at hR
    exact hR s' ι' H' σ' I' x'
  | succ m ih =>
    intro i M σ H ip s him hz hM hM2 gg I
    refine codeAny_builtin F.entry_all_loop ?_
    rw [Around.under_plainId F.plain_all_loop _]
    show wpAny _ A.in1 (pyNext (.ref a) >>= _) _ _ s
    refine wpAny_bind (next_gx (pp := []) hh hroom hgo hpn gg rfl I him (fun z Mz m' v V s' ι' H' σ' ip' pp' e hzi rv rp hp' _ I' x' gg' => ?_) fun s' ι' H' σ' pp' e => by cases e)
    cases e
    subst hp'
    have hlz : i < zms.length := (List.getElem?_eq_some_iff.mp hzi).1
    have ez : zms.drop i = (z, Mz) :: zms.drop (i + 1) := by
      rw [List.drop_eq_getElem_cons hlz]
      rw [List.getElem?_eq_getElem hlz] at hzi
      rw [Option.some.inj hzi]
    rw [ez] at hz hM2
    cases z with
    | bool c =>
      cases rp with
      | bl c =>
        have ev : v = .bool c := rv
        subst ev
        refine wpAny_bind (wpAny_holding (wpAny_truthy_bool ?_))
        refine wpAny_bind (wpAny_letGo ?_)
        cases c with
        | true =>
          simp only [if_true]
          have hz2 : allZ (zms.drop (i + 1)) (some (true, Mz)) = some (b, Me) := hz
          have hM3 : gxM Mz (zms.drop (i + 1)) = Mf := hM2
          refine wpAny_pure ⟨plainId_quiet F.plain_all_loop _, ih (i + 1) Mz σ' H' ip' s' (by omega) hz2 (fun e => ?_) hM3 gg' I'⟩
          have e2 : zms.drop (i + 1) = [] := by rw [List.drop_eq_nil_iff]; omega
          rw [e2] at hM3
          exact hM3
        | false =>
          have hz2 : some (false, Mz) = some (b, Me) := hz
          cases hz2
          simp only [Bool.false_eq_true, if_false]
          refine wpAny_bind (wpAny_rule (wpAny_pure ?_))
          exact hR s' ι' H' σ' (I'.pins_of fun p hp => by cases hp) x'
    | _ => cases hz
end
end Xt
set_option Elab.async false
set_option linter.all false
set_option maxRecDepth 100000
set_option maxHeartbeats 2000000
namespace Xt
open PySem PySem.Spec PyProof.Rows L2 GenW
section
variable {X : Cx} {G : Gx} {fp : List Addr} {ι0 : List Addr} {H0 : Hp} {zms : List (PyData × Mem)} {Mf : Mem} {A : Around}
/-- sum's own cell -/
abbrev sumO (acc : Int) (t : Tok) (c : Nat) : Obj := { cls := .type "list", dict := none, data := .seq #[.int acc t] c, slots := #[] }
def SP1 (S : Addr) : List (Addr × Obj) → Prop := fun pp => ∃ acc t c, pp = [(S, sumO acc t c)]
/-- one place is not the frame's -/
structure Off (X : Cx) (fp : List Addr) (S : Addr) : Prop where
  above : X.s_0.heap.objs.size ≤ S
  loc : S ≠ X.env.locals
  cel : ∀ x c, X.env.cells.lookup x = some c → c ≠ S
  pn : ∀ p ∈ X.pn, p.1 ≠ S
  fp : ∀ b ∈ fp, b ≠ S
theorem Inv.poke {S : Addr} {o o' : Obj} {ip : List (Addr × Obj)} {σ : L2.St} {H : Hp} {s : Shared} {h' : Heap} {t' : Nat} (hS : Off X fp S) (hip : ∀ p ∈ ip, p.1 ∈ fp) (I : Inv X ([(S, o)] ++ ip) σ H s) (hk : ∀ b u, b ≠ S → s.heap.get? b = some u → h'.get? b = some u) (hS' : h'.get? S = some o') (nc : ∀ v, o'.data ≠ .cell v) :
    Inv X ([(S, o')] ++ ip) σ H { s with heap := h', toks := t' } := by
  obtain ⟨p1, p2, p3, p4, p5⟩ := I.pin (S, o) (List.mem_append_right _ List.mem_cons_self)
  have I0 : Inv X ip σ H s := I.pins_of fun p hp => I.pin p (List.mem_append_right _ (List.mem_cons_of_mem _ hp))
  have ne : ∀ b u, H b = some u → b ≠ S := fun b u q e => by
    rw [e, p2] at q
    cases q
  have nc2 : ∀ b, b ∉ [S] → b ≠ S := fun b hb e => hb (by rw [e]; exact List.mem_singleton.mpr rfl)
  have J : Inv X ip σ H { s with heap := h', gens := s.gens, drawn := s.drawn, toks := t' } := by
    refine I0.step (g' := s.gens) (d' := s.drawn) (t' := t') (ch := [S]) (fun b hb => ?_) (fun b u _ _ hb e _ => hk b u (nc2 b hb) e) (fun b u _ _ hb e _ => ⟨u.slots, hk b u (nc2 b hb) e⟩) (fun _ _ _ _ n => n) (fun b u hb e => ⟨u, hk b u (nc2 b hb) e⟩)
      (fun _ _ e => e) (fun _ _ _ e => e) (fun b ps e => ⟨#[], by rw [e]; simp⟩) (fun m hm => ?_) (fun b u e => ?_) I0.bare
    · rw [List.mem_singleton.mp hb]
      exact ⟨.inr hS.above, hS.loc, hS.cel, fun p hp => (List.mem_append.mp hp).elim (hS.pn p) fun z => hS.fp _ (hip p z)⟩
    · obtain ⟨ob, es, ep, ho, r⟩ := hm
      exact ⟨ob, es, ep, hk _ ob (Ne.symm hS.loc) ho, r⟩
    · refine (I0.hok b u e).stay (fun c v hc y => hk c v ?_ y) (fun _ y => y) fun _ _ y => y
      rcases hc with y | y
      · rw [y]
        exact ne b u e
      · exact ne c _ y
  refine J.pins_of fun p hp => ?_
  rcases List.mem_append.mp hp with z | z
  · rw [List.mem_singleton.mp z]
    exact ⟨hS', p2, p3, p4, nc⟩
  · exact J.pin p (List.mem_append_right _ z)
def intsZ : List (PyData × Mem) → Option (List Int)
  | [] => some []
  | (.int i, _) :: r => (intsZ r).map (i :: ·)
  | _ => none
def sumZ (a : Int) : List Int → Int
  | [] => a
  | i :: r => sumZ (a + i) r
theorem sum_loop {a S : Addr} {g : Nat} {go : Obj} {R : Result → Shared → Prop} (hh : A.in1.handled = none) (hroom : A.in1.depth < recursionLimit) (hgo : ∀ h : Heap, h.get? a = some go → h.IsGen a g) (hpn : (a, go) ∈ X.pn) (hS : Off X fp S) {tot : Int}
    (hR : ∀ t s' ι' H' σ', Inv X [] σ' H' s' → Ext G ι0 H0 ι' Mf H' → R (.ok (.ret (.int tot t))) s') : ∀ (m i : Nat) (zs : List Int) (acc : Int) (tA : Tok) (c : Nat) (st : Int) (σ : L2.St) (H : Hp) (ip : List (Addr × Obj)) (s : Shared),
      (st = 0 ∨ st = 2) → i + m = zms.length → intsZ (zms.drop i) = some zs → sumZ acc zs = tot → GGo X G A.in1 a g ι0 H0 zms fp Mf (SP1 S) m σ H ip s → Inv X ([(S, sumO acc tA c)] ++ ip) σ H s →
      codeAny (model X.prog X.w) A (.builtin "sum.loop" ⟨[.ref a, .ref S, rawInt st, rawInt 0], []⟩) R s := by
  intro m
  induction m with
  | zero =>
    intro i zs acc tA c st σ H ip s hst2 him hz htot gg I
    have hSo := (I.pin (S, sumO acc tA c) (List.mem_append_right _ List.mem_cons_self)).1
    refine codeAny_builtin F.entry_sum_loop ?_
    rw [Around.under_plainId F.plain_sum_loop _]
    show wpAny _ A.in1 (seqItems? (.ref S) >>= _) _ _ s
    refine wpAny_bind (wpAny_seqItems hSo rfl ?_)
    show wpAny _ A.in1 (tryCatch (pyNext (.ref a)) _ >>= _) _ _ s
    refine wpAny_bind (wpAny_tryCatch (next_gx hh hroom hgo hpn gg ⟨acc, tA, c, rfl⟩ I him (fun z Mz m' v V s' ι' H' σ' ip' pp' e => by cases e) fun s' ι' H' σ' pp' _ hp' _ I' x' => ?_))
    have e : zms.drop i = [] := by rw [List.drop_eq_nil_iff]; omega
    rw [e] at hz
    have hz' : some [] = some zs := hz
    cases hz'
    have htot' : acc = tot := htot
    subst htot'
    exact wpAny_pure (hR tA s' ι' H' σ' (I'.pins_of fun p hp => by cases hp) x')
  | succ m ih =>
    intro i zs acc tA c st σ H ip s hst2 him hz htot gg I
    have hSo := (I.pin (S, sumO acc tA c) (List.mem_append_right _ List.mem_cons_self)).1
    refine codeAny_builtin F.entry_sum_loop ?_
    rw [Around.under_plainId F.plain_sum_loop _]
    show wpAny _ A.in1 (seqItems? (.ref S) >>= _) _ _ s
    refine wpAny_bind (wpAny_seqItems hSo rfl ?_)
    show wpAny _ A.in1 (tryCatch (pyNext (.ref a)) _ >>= _) _ _ s
    refine wpAny_bind (wpAny_tryCatch (next_gx hh hroom hgo hpn gg ⟨acc, tA, c, rfl⟩ I him (fun z Mz m' v V s' ι' H' σ' ip' pp' e hzi rv rp hp' hs0 I' x' gg' => ?_) fun s' ι' H' σ' pp' e => by cases e))
    cases e
    have hlz : i < zms.length := (List.getElem?_eq_some_iff.mp hzi).1
    have ez : zms.drop i = (z, Mz) :: zms.drop (i + 1) := by
      rw [List.drop_eq_getElem_cons hlz]
      rw [List.getElem?_eq_getElem hlz] at hzi
      rw [Option.some.inj hzi]
    rw [ez] at hz
    -- the cell is as it was
    obtain ⟨acc', tA', c', rfl⟩ := hp'
    have hs1 := hs0 (S, sumO acc' tA' c') List.mem_cons_self
    have hs2 : s.heap.get? S = some (sumO acc' tA' c') := hs1
    rw [hSo] at hs2
    cases hs2
    have hS' := (I'.pin (S, sumO acc tA c) (List.mem_append_right _ List.mem_cons_self)).1
    cases z with
    | int k =>
      cases rp with
      | int k =>
        obtain ⟨t, rfl⟩ : ∃ t, v = .int k t := rv
        cases ezs : intsZ (zms.drop (i + 1)) with
        | none =>
          have hz2 : (intsZ (zms.drop (i + 1))).map (k :: ·) = some zs := hz
          rw [ezs] at hz2
          cases hz2
        | some zs' =>
          have hz2 : (intsZ (zms.drop (i + 1))).map (k :: ·) = some zs := hz
          rw [ezs] at hz2
          cases hz2
          have htot2 : sumZ (acc + k) zs' = tot := htot
          have other : ∀ (hp : Heap) (f : Obj → Obj) (b : Addr) (u : Obj), b ≠ S → hp.get? b = some u → (hp.update S f).get? b = some u := fun hp f b u hb e => (Heap.get?_update_other _ _ (Ne.symm hb)).trans e
          have gk : ∀ {s9 : Shared}, s9.gens = s'.gens → s9.heap.IsGen a g → GGo X G A.in1 a g ι0 H0 zms fp Mf (SP1 S) m σ' H' ip' s9 := fun {s9} e1 e2 => ⟨e2, gg'.ipf, by
            obtain ⟨gs, q1, q2⟩ := gg'.goes
            exact ⟨gs, by rw [e1]; exact q1, q2⟩⟩
          have back : ∀ (st' : Int) (t' : Nat) (tk : Tok) (h' : Heap) (c' : Nat), (st' = 0 ∨ st' = 2) → (∀ b u, b ≠ S → s'.heap.get? b = some u → h'.get? b = some u) → h'.get? S = some (sumO (acc + k) tk c') →
              codeAny (model X.prog X.w) A (.builtin "sum.loop" ⟨[.ref a, .ref S, rawInt st', rawInt 0], []⟩) R { s' with heap := h', toks := t' } := fun st' t' tk h' c' hst' hk hS2 => by
            have I2 := Inv.poke (t' := t') hS gg'.ipf I' hk hS2 (fun v q => by cases q)
            refine ih (i + 1) zs' (acc + k) tk c' st' σ' H' ip' _ hst' (by omega) ezs htot2 (gk rfl ?_) I2
            exact hgo _ (I2.pin (a, go) (List.mem_append_left _ hpn)).1
          rcases hst2 with rfl | rfl
          · show wpAny _ A.in1 (if (_ : Bool) = true then (mkInt (acc + k) >>= _) else _) _ _ _
            split
            · refine wpAny_bind (wpAny_mkInt ?_)
              show wpAny _ A.in1 (updateSeq S (fun _ => #[.int (acc + k) s'.toks]) >>= _) _ _ _
              refine wpAny_bind ?_
              refine wpAny_updateSeq hS' rfl (wpAny_pure ⟨plainId_quiet F.plain_sum_loop _, ?_⟩)
              exact back 0 _ s'.toks _ _ (.inl rfl) (other _ _) (Heap.get?_update_self _ hS' rfl)
            · refine wpAny_bind (wpAny_rule ?_)
              refine wpAny_bind (wpAny_attempt (wpAny_holding (wpAny_add_int ?_)))
              show wpAny _ A.in1 (updateSeq S (fun _ => #[.int (acc + k) s'.toks]) >>= _) _ _ _
              refine wpAny_bind (wpAny_updateSeq hS' rfl ?_)
              have hS2 := Heap.get?_update_self (Obj.mapSeq fun _ => #[Value.int (acc + k) s'.toks]) hS' rfl
              refine wpAny_bind (wpAny_letGo ?_)
              refine wpAny_bind (wpAny_updateSeq hS2 rfl (wpAny_pure ⟨plainId_quiet F.plain_sum_loop _, ?_⟩))
              exact back 2 _ s'.toks _ _ (.inr rfl) (fun b u hb e => other _ _ b u hb (other _ _ b u hb e)) (Heap.get?_update_self _ hS2 rfl)
          · show wpAny _ A.in1 ((holding [Value.int k t] (binaryOp .Add (.int acc tA) (.int k t))).attempt >>= _) _ _ _
            refine wpAny_bind (wpAny_attempt (wpAny_holding (wpAny_add_int ?_)))
            show wpAny _ A.in1 (updateSeq S (fun _ => #[.int (acc + k) s'.toks]) >>= _) _ _ _
            refine wpAny_bind (wpAny_updateSeq hS' rfl ?_)
            have hS2 := Heap.get?_update_self (Obj.mapSeq fun _ => #[Value.int (acc + k) s'.toks]) hS' rfl
            refine wpAny_bind (wpAny_letGo ?_)
            refine wpAny_bind (wpAny_updateSeq hS2 rfl (wpAny_pure ⟨plainId_quiet F.plain_sum_loop _, ?_⟩))
            exact back 2 _ s'.toks _ _ (.inr rfl) (fun b u hb e => other _ _ b u hb (other _ _ b u hb e)) (Heap.get?_update_self _ hS2 rfl)
    | _ => cases hz
end
section
variable {prog : Program} {w : World} {A : Around} {E : Value → Shared → Prop} {s : Shared}
theorem call_allG {x : Value} {Q : Value → Shared → Prop} (h : wpAny (model prog w) A.in1 (pyIter x) (fun it s₂ => codeAny (model prog w) A (.builtin "all.loop" ⟨[it], []⟩) (fun r s' => match r with | .ok (.ret v) => Q v s' | .ok _ => False | .error e => E e s') s₂) E s) :
    wpAny (model prog w) A (call (.builtin "all") [x]) Q E s := by
  refine call_function_tree F.kind_all F.plain_all F.entry_all (F.args_all1 _) ?_
  unfold Builtin.«all»
  refine wpAny_bind (m := oneArg "all" _) (wpAny_pure ?_)
  refine wpAny_bind (wpAny_mono h (fun it s₂ h₂ => ?_) fun _ _ e => e)
  exact wpAny_pure ⟨plainId_quiet F.plain_all_loop _, h₂⟩
theorem call_sumG {x : Value} {Q : Value → Shared → Prop} (h : wpAny (model prog w) A.in1 (pyIter x) (fun it s₂ => ∀ tk, codeAny (model prog w) A (.builtin "sum.loop" ⟨[it, .ref s₂.heap.objs.size, rawInt 0, rawInt 0], []⟩) (fun r s' => match r with | .ok (.ret v) => Q v s' | .ok _ => False | .error e => E e s')
      { s₂ with heap := s₂.heap.push (sumO 0 s₂.toks 0), toks := tk }) E s) :
    wpAny (model prog w) A (call (.builtin "sum") [x]) Q E s := by
  refine call_function_tree F.kind_sum F.plain_sum F.entry_sum (F.args_sum1 _) ?_
  unfold Builtin.«sum»
  simp only [List.length_cons, List.length_nil]
  rw [if_neg (by decide)]
  refine wpAny_bind (wpAny_of_eq (show Builtin.Builtins.bindParams "sum" ["start"] 0 { } = pure [none] from rfl) ?_)
  refine wpAny_bind (wpAny_mono h (fun it s₂ h₂ => ?_) fun _ _ e => e)
  refine wpAny_bind (wpAny_mkInt ?_)
  refine wpAny_bind (wpAny_pure ?_)
  simp only [List.forIn_cons, List.forIn_nil]
  refine wpAny_bind (wpAny_bind (wpAny_bind (wpAny_isInstance (T := "int") (b := false) (typeIs_int _ _ _) PySem.sub_int_str ?_)))
  simp only [Bool.false_eq_true, if_false]
  refine wpAny_pure (wpAny_bind (wpAny_bind (wpAny_isInstance (T := "int") (b := false) (typeIs_int _ _ _) PySem.sub_int_bytes ?_)))
  simp only [Bool.false_eq_true, if_false]
  refine wpAny_pure (wpAny_bind (wpAny_bind (wpAny_isInstance (T := "int") (b := false) (typeIs_int _ _ _) PySem.sub_int_bytearray ?_)))
  simp only [Bool.false_eq_true, if_false]
  refine wpAny_pure (wpAny_pure ?_)
  refine wpAny_bind (wpAny_newObj_type ?_)
  exact wpAny_pure ⟨plainId_quiet F.plain_sum_loop _, h₂ _⟩
end
end Xt
set_option Elab.async false
set_option linter.all false
set_option maxRecDepth 100000
set_option maxHeartbeats 2000000
namespace Xt
open PySem PySem.Spec PyProof.Rows L2 GenW
/-! ### the generator's own context -/
/-- the names of its frame: its own (none), the captured (their place outside) -/
def frOk (N : List Str) (nm : List (Str × NameKind)) : List Str → List (Option Nat) → Bool
  | [], [] => true
  | _ :: r, none :: q => frOk N nm r q
  | x :: r, some j :: q => N[j]? == some x && (nm.lookup x == some .free && frOk N nm r q)
  | _, _ => false
structure GxS (N N' : List Str) (fr : List (Option Nat)) (out scope : Scope) : Prop where
  kind : scope.kind = .function
  co : scope.isCoroutine = false
  cell : ∀ y ∈ scope.names, y.2 ≠ .cell
  dot : scope.names.lookup (".0" : Str) = some NameKind.local
  free : ∀ y ∈ scope.names, y.2 = .free → out.names.lookup y.1 = some .cell ∨ out.names.lookup y.1 = some .free
  nd : N'.Nodup
  fr : frOk N scope.names N' fr = true
theorem frOk_at {N : List Str} {nm : List (Str × NameKind)} : ∀ {N' : List Str} {fr : List (Option Nat)}, frOk N nm N' fr = true → fr.length = N'.length ∧ ∀ (i j : Nat), fr[i]? = some (some j) → ∃ x, N'[i]? = some x ∧ N[j]? = some x ∧ nm.lookup x = some .free
  | [], [], _ => ⟨rfl, fun i j h => by simp at h⟩
  | [], _ :: _, h => by cases h
  | _ :: _, [], h => by cases h
  | x :: r, none :: q, h => by
    obtain ⟨h1, h2⟩ := frOk_at (N' := r) (fr := q) h
    refine ⟨by rw [List.length_cons, List.length_cons, h1], fun i j e => ?_⟩
    cases i with
    | zero =>
      rw [List.getElem?_cons_zero] at e
      cases e
    | succ i => exact h2 i j e
  | x :: r, some j0 :: q, h => by
    have h0 : (N[j0]? == some x && (nm.lookup x == some .free && frOk N nm r q)) = true := h
    obtain ⟨a, b⟩ := Bool.and_eq_true_iff.mp h0
    obtain ⟨b, c⟩ := Bool.and_eq_true_iff.mp b
    obtain ⟨h1, h2⟩ := frOk_at (N' := r) (fr := q) c
    refine ⟨by rw [List.length_cons, List.length_cons, h1], fun i j e => ?_⟩
    cases i with
    | zero =>
      rw [List.getElem?_cons_zero] at e
      cases e
      exact ⟨x, rfl, by simpa using a, by simpa using b⟩
    | succ i => exact h2 i j e
def gσ (σ : L2.St) (fr : List (Option Nat)) : L2.St := fr.map fun o => match o with
  | none => none
  | some j => (match σ[j]? with
    | some v => v
    | none => none)
def gρ (ρ : Slots) (fr : List (Option Nat)) : Slots := fr.map fun o => match o with
  | none => .u
  | some j => (match ρ[j]? with
    | some d => d
    | none => .u)
theorem gρ_own {ρ : Slots} {fr : List (Option Nat)} {i : Nat} (h : fr[i]? = some none) : (gρ ρ fr)[i]? = some .u := by
  unfold gρ
  rw [List.getElem?_map, h]
  rfl
def gcx (X : Cx) (A : Around) (N : List Str) (s : Shared) (H : Hp) (cenv : Env) (fp : List Addr) (pn : List (Addr × Obj)) : Cx :=
  { X with A := A, N := N, s_0 := s, H_0 := H, env := cenv, outer := X.stack, stack := cenv :: X.stack, ex := fp, fn := fun _ => false, calm := true, pn := pn, xe := fun _ _ => False }
section
variable {X : Cx} {G : Gx} {N' : List Str} {fr : List (Option Nat)} {scope : Scope} {pins : List (Addr × Obj)} {σ : L2.St} {H : Hp} {s s5 : Shared} {A : Around} {code : Value}
theorem GxS.cells (S : GxS X.N N' fr X.env.scope scope) (ok : X.Ok) {y : Str} {c : Addr} (h : (cloFrom X.env.cells scope.names []).lookup y = some c) : X.env.cells.lookup y = some c ∧ (y, NameKind.free) ∈ scope.names := by
  rcases cloFrom_mem (PySem.mem_of_lookup h) with z | ⟨z, e⟩
  · cases z
  · obtain ⟨c', q⟩ := ok.has y (S.free _ z rfl)
    rw [q] at e
    rw [q, e]
    exact ⟨rfl, z⟩
theorem GxS.free_has (S : GxS X.N N' fr X.env.scope scope) (ok : X.Ok) {y : Str} (h : scope.names.lookup y = some .free) : ∃ c, (cloFrom X.env.cells scope.names []).lookup y = some c ∧ X.env.cells.lookup y = some c := by
  obtain ⟨c, e⟩ := mem_lookup (cloFrom_has (cells := X.env.cells) (acc := []) (PySem.mem_of_lookup h))
  exact ⟨c, e, (S.cells ok e).1⟩
theorem inv_gx (S : GxS X.N N' fr X.env.scope scope) (I : Inv X pins σ H s) (hh : A.handled = none) (hf : A.frames = some (genEnv scope (cloFrom X.env.cells scope.names []) s.heap.objs.size code builtinsNs X.env :: X.stack))
    (k : ∀ b o, s.heap.get? b = some o → s5.heap.get? b = some o) (os : s5.os = s.os) (bare : AllBare s5.gens) (ns : ∃ m, s5.heap.Ns s.heap.objs.size m)
    {go : Obj} {a : Addr} {fp : List Addr} (hfp : ∀ b ∈ fp, FpOk X pins H b ∧ b < s.heap.objs.size) (ha : s5.heap.get? a = some go) (hs : s.heap.objs.size < a) (hgd : ∀ v, go.data ≠ .cell v) :
    Inv (gcx X A N' s H (genEnv scope (cloFrom X.env.cells scope.names []) s.heap.objs.size code builtinsNs X.env) fp [(a, go)]) [] (gσ σ fr) H s5 := by
  have nst : ∀ b ∈ fp, b ∉ frs X.stack := fun b hb z => by
    obtain ⟨_, f1, f2, _⟩ := (hfp b hb).1
    rcases List.mem_cons.mp (I.stkSub b z) with w | w
    · exact f1 w
    · exact f2 w
  obtain ⟨fl, fa⟩ := frOk_at S.fr
  obtain ⟨m, hns⟩ := ns
  have clt : ∀ x c, X.env.cells.lookup x = some c → c < s.heap.objs.size := fun x c e => by
    obtain ⟨v, ob, ho, _⟩ := I.cell x c e
    exact Heap.lt_size ho
  refine ⟨⟨I.ok.mod, S.kind, I.ok.glob, rfl, Nat.le_refl _, fun y z c h1 h2 => I.ok.inj _ _ _ (S.cells I.ok h1).1 (S.cells I.ok h2).1, fun y hy => ?_, fun y c z _ => (by cases z), fun _ => hh, hf, .inr ⟨rfl, rfl⟩, fun b hb => ⟨Nat.ne_of_lt (hfp b hb).2, fun x c e => (hfp b hb).1.2.2.2.2.1 x c (S.cells I.ok e).1⟩, fun b o e => I.bs b o e, Nat.le_trans I.ok.bsz I.sz, fun b o e hb => ?_, nst, I.stack, I.stkFree⟩,
    os, bare, Un.kept k, ⟨m, hns, fun i x v h1 h2 h3 => ?_⟩, fun y c h => ?_, I.hok.fresh (Nat.le_refl _), fun y c h => I.freeC y c (S.cells I.ok h).1, fun p hp => ?_, I.hok.kept k, ?_⟩
  rotate_left 1
  · rcases (hfp b hb).1.2.2.2.1 with z | z
    · exact I.ok.noex b o e z
    · exact absurd (Heap.lt_size e) (Nat.not_lt.mpr (Nat.le_trans I.ok.bsz z))
  rotate_right 1
  · have hy' : scope.names.lookup y = some .cell ∨ scope.names.lookup y = some .free := hy
    rcases hy' with z | z
    · exact absurd rfl (S.cell _ (PySem.mem_of_lookup z))
    · obtain ⟨c, e, _⟩ := S.free_has I.ok z
      exact ⟨c, e⟩
  · unfold gσ at h2
    rw [List.getElem?_map] at h2
    cases e : fr[i]? with
    | none =>
      rw [e] at h2
      cases h2
    | some o =>
      rw [e] at h2
      cases o with
      | none => cases h2
      | some j =>
        obtain ⟨x', n1, n2, n3⟩ := fa i j e
        have h1' : N'[i]? = some x := h1
        rw [n1] at h1'
        cases h1'
        have h2' : (match σ[j]? with | some v => v | none => none) = some v := Option.some.inj h2
        cases q : σ[j]? with
        | none =>
          rw [q] at h2'
          cases h2'
        | some w =>
          rw [q] at h2'
          have h2'' : w = some v := h2'
          subst h2''
          obtain ⟨c, e1, e2⟩ := S.free_has I.ok n3
          obtain ⟨mo, hmo, look⟩ := I.loc
          have vis : X.env.scope.names.lookup x = some .cell ∨ X.env.scope.names.lookup x = some .free := S.free _ (PySem.mem_of_lookup n3) rfl
          obtain ⟨u, r, lk⟩ := look j x v n2 q (.inr vis)
          refine ⟨u, r, .inr ⟨.inr n3, c, e1, ?_⟩⟩
          rcases lk with ⟨z, _⟩ | ⟨_, c', e3, e4⟩
          · have z' : X.env.scope.names.lookup x = some .local := z
            rcases vis with w | w <;> rw [w] at z' <;> cases z'
          · rw [e2] at e3
            cases e3
            obtain ⟨ob, ho, hd⟩ := e4
            exact ⟨ob, k _ _ ho, hd⟩
  · obtain ⟨v, ob, ho, hd⟩ := I.cell y c (S.cells I.ok h).1
    exact ⟨v, ob, k _ _ ho, hd⟩
  · have hp' : p ∈ [(a, go)] := by
      rcases List.mem_append.mp hp with z | z
      · exact z
      · cases z
    rw [List.mem_singleton.mp hp']
    refine ⟨ha, I.hok.fresh (Nat.le_of_lt hs), Nat.ne_of_gt hs, fun z => ?_, hgd⟩
    obtain ⟨_, o, ho, _⟩ := I.stack.mem (b := a) z
    exact absurd (Heap.lt_size ho) (Nat.not_lt.mpr (Nat.le_of_lt hs))
  · unfold gσ
    rw [List.length_map]
    exact fl
theorem gst_gx (S : GxS X.N N' fr X.env.scope scope) {ι : List Addr} {ρ : Slots} {M : Mem} (st : StR G H σ ι ρ M) : StR G H (gσ σ fr) ι (gρ ρ fr) M := by
  refine ⟨by unfold gσ gρ; rw [List.length_map, List.length_map], st.mem, fun i d h n => ?_⟩
  unfold gρ at h
  rw [List.getElem?_map] at h
  cases e : fr[i]? with
  | none =>
    rw [e] at h
    cases h
  | some o =>
    rw [e] at h
    cases o with
    | none =>
      cases h
      exact absurd rfl n
    | some j =>
      have h' : (match ρ[j]? with | some d => d | none => .u) = d := Option.some.inj h
      cases q : ρ[j]? with
      | none =>
        rw [q] at h'
        exact absurd h'.symm n
      | some d' =>
        rw [q] at h'
        have h'' : d' = d := h'
        subst h''
        obtain ⟨v, e1, e2⟩ := st.sl j d' q n
        refine ⟨v, ?_, e2⟩
        unfold gσ
        rw [List.getElem?_map, e]
        show some (match σ[j]? with | some v => v | none => none) = some (some v)
        rw [e1]
end
end Xt
set_option Elab.async false
set_option linter.all false
set_option maxRecDepth 100000
set_option maxHeartbeats 2000000
namespace Xt
open PySem PySem.Spec PyProof.Rows L2 GenW
section
variable {X : Cx} {G : Gx} {N' : List Str} {fr : List (Option Nat)} {scope : Scope} {pins : List (Addr × Obj)} {σ : L2.St} {H : Hp} {s : Shared} {tg iter elt : Expr} {gpos : Pos}
/-- a table has grown -/
theorem Ext.tab {ι : List Addr} {M : Mem} {P : Addr} {ps qs : Array Value} (m : MemR G ι H M) (hP : H P = some (.tbl ps)) (ht : TriplesOk qs.toList) : Ext G ι H ι M (upd H P (.tbl qs)) where
  pre := List.prefix_refl _
  mem := ⟨m.len, m.nd, fun i a mo h1 h2 => by
    have q := m.ob i a mo h1 h2
    have ne : a ≠ P := fun e => by
      subst e
      cases mo with
      | lst xs =>
        obtain ⟨vs, q, _⟩ := q
        rw [hP] at q
        cases q
      | dct xs =>
        obtain ⟨vs, q, _⟩ := q
        rw [hP] at q
        cases q
      | ins c xs =>
        obtain ⟨C, dx, vs, _, q, _⟩ := q
        rw [hP] at q
        cases q
      | dead =>
        obtain ⟨o, q, z⟩ := q
        rw [hP] at q
        cases q
        cases z
    refine q.mono (List.prefix_refl _) ⟨fun b o u e => ?_, fun b xs e => ?_⟩ (upd_ne ne)
    · rw [upd_ne (fun z => by
        rw [z, hP] at e
        cases e)]
      exact e
    · rw [upd_ne (fun z => by
        rw [z, hP] at e
        cases e)]
      exact e, fun Q hQ => by
    by_cases e : Q = P
    · rw [e, upd_same]
      exact ⟨qs, rfl, ht⟩
    · rw [upd_ne e]
      exact m.tab Q hQ⟩
  keep := ⟨fun b o u e => by
    rw [upd_ne (fun z => by
      rw [z, hP] at e
      cases e)]
    exact e, fun b xs e => by
    rw [upd_ne (fun z => by
      rw [z, hP] at e
      cases e)]
    exact e⟩
  frame := fun b o e n _ => by
    rw [upd_ne (fun z => by
      rw [z, hP] at e
      cases e
      cases n)]
    exact e
  tbl := fun b rs e => by
    by_cases z : b = P
    · rw [z, upd_same]
      exact ⟨qs, rfl⟩
    · rw [upd_ne z]
      exact ⟨rs, e⟩
  fresh := fun a h n => absurd h n
/-- the generator at a has been made -/
def GRdy (X : Cx) (G : Gx) (scope : Scope) (tg iter elt : Expr) (gpos : Pos) (pins : List (Addr × Obj)) (σ : L2.St) (ι1 : List Addr) (H1 : Hp) (M1 : Mem) (ds : List Dv) (a : Addr) (s5 : Shared) : Prop :=
  ∃ (s4 : Shared) (H4 : Hp) (code : Value) (it : Addr) (fp : List Addr) (tn : Nat → Heap → Prop) (J : It) (g : Nat) (go : Obj),
    Inv X pins σ H4 s4 ∧ Ext G ι1 H1 ι1 M1 H4 ∧ Turn X.prog X.w X.K tg J fp it tn ∧ tn 0 s5.heap ∧ (∀ b ∈ fp, FpOk X pins H4 b ∧ b < s4.heap.objs.size) ∧ Wk G ι1 H1 J ds ∧ s4.heap.objs.size < a ∧ s5.heap.get? a = some go ∧
    (∀ h : Heap, h.get? a = some go → h.IsGen a g) ∧ (∀ v, go.data ≠ .cell v) ∧ (∀ b o, s4.heap.get? b = some o → s5.heap.get? b = some o) ∧ s5.os = s4.os ∧ AllBare s5.gens ∧ (∃ m, s5.heap.Ns s4.heap.objs.size m) ∧
    s5.gens[g]? = some (.fresh (.compStart (.GeneratorExp elt [⟨tg, iter, [], 0⟩] scope gpos) 0 (.ref it) .none (genEnv scope (cloFrom X.env.cells scope.names []) s4.heap.objs.size code builtinsNs X.env)))
theorem gx_make {c P : Addr} {src : Slots → Co (List Dv)} {k : Nat} {Q' : Value → Shared → Prop} {R : List Dv → List Addr → Mem → Hp → Prop} (hr : Room k X.A) (TB : LamX.TabB X.base X.mg c P) (hPt : P ∈ G.tbs) (hcode : X.env.code = .ref c) (S : GxS X.N N' fr X.env.scope scope)
    (hi : PI X tg iter (rdI G E0 src)) (hs : ∀ v, genFold iter X.env v = pure v) (I : Inv X pins σ H s) {ι : List Addr} {ρ : Slots} {M : Mem} (st : StR G H σ ι ρ M) (h : Post G E0 ι H R (src ρ M))
    (hQ : ∀ ds ι1 M1 H1 a s5, R ds ι1 M1 H1 → StR G H1 σ ι1 ρ M1 → GRdy X G scope tg iter elt gpos pins σ ι1 H1 M1 ds a s5 → Q' (.ref a) s5) :
    wpAny (model X.prog X.w) X.A (eval (.GeneratorExp elt [⟨tg, iter, [], 0⟩] scope gpos) X.env) Q' X.xe s := by
  have hfree : ∀ y ∈ scope.names, y.2 = .free → ∃ c, X.env.cells.lookup y.1 = some c := fun y hy e => I.ok.has y.1 (S.free y hy e)
  refine wpAny_GeneratorExp_make S.co (closure_ok hfree) S.cell S.dot S.kind (by have := hr.dp; omega) ?_ hs
  refine wpAny_mono (hi.run pins s σ H (fun J H1 => ∃ ds ι1 M1, Wk G ι1 H1 J ds ∧ StR G H1 σ ι1 ρ M1 ∧ R ds ι1 M1 H1) I ⟨ι, ρ, M, st, h.mono fun ds ι1 M1 H1 x1 q J wk => ⟨ds, ι1, M1, wk, st.ext x1, q⟩⟩) (fun xv s1 h1 => ?_) fun _ _ e => e
  refine thn h1 fun itv s2 ⟨it, fp, tn, J, H1, eit, I2, T, tn0, hf, ds, ι1, M1, wk, st1, hR⟩ => ?_
  subst eit
  obtain ⟨ps, hP, ht⟩ := st1.mem.tab P hPt
  have hPs : s2.heap.get? P = some { cls := .none, data := .fields ps } := I2.hok P _ hP
  have cd : PySem.W.CodeHd s2.heap c P := TB.code.keeps fun b u e => I2.bk b u e
  refine ⟨I2.nolimit, ?_⟩
  have hne : ∀ b ∈ fp, b ≠ P := fun b hb z => by
    have q := (hf b hb).1
    rw [z, hP] at q
    cases q
  have cont : ∀ (code : Value) (H4 : Hp) (s3 : Shared), (∀ b ∈ fp, H4 b = none) → Inv X pins σ H4 s3 → Ext G ι1 H1 ι1 M1 H4 → (∀ b o, b ≠ P → s2.heap.get? b = some o → s3.heap.get? b = some o) → s2.heap.objs.size ≤ s3.heap.objs.size →
      wpAny (model X.prog X.w) X.A (builtinsFor X.env.globals X.env.builtins) (fun bi s₄ =>
        ∀ h', h'.Ns s₄.heap.objs.size (fun y => if y = ".0" then some (.ref it) else none) → Heap.SameBut s₄.heap.objs.size (s₄.heap.push { cls := .type "frame", data := .dict #[] }) h' →
          Q' (.ref h'.objs.size) { s₄ with
            gens := s₄.gens.push (.fresh (.compStart (.GeneratorExp elt [⟨tg, iter, [], 0⟩] scope gpos) 0 (.ref it) .none (genEnv scope (cloFrom X.env.cells scope.names []) s₄.heap.objs.size code bi X.env))),
            toks := s₄.toks + 1 + 1 + 1,
            heap := h'.push { cls := .type "generator", data := .fields #[.int s₄.gens.size 0, .str "<genexpr>" (s₄.toks + 1), .str (X.env.qual ++ "<genexpr>") (s₄.toks + 1 + 1)] } }) X.xe s3 := by
    intro code H4 s3 hfree4 I3 x4 hk hsz
    obtain ⟨bm, ob, e1, e2, e3, e4, e5, e6, e7, e8⟩ := TB.bm
    refine wpAny_builtinsFor (m := X.mg) (by rw [I3.ok.glob]; exact I3.mod.glob.keeps I3.bk) e1 e2 (I3.bk _ _ e5) e6 e7 e8 ?_
    intro h' hns hsb
    have kp : ∀ b o, s3.heap.get? b = some o → h'.get? b = some o := fun b o e => hsb.extBut b o (Nat.ne_of_lt (Heap.lt_size e)) (Heap.get?_push_of_some _ e)
    have sz : h'.objs.size = s3.heap.objs.size + 1 := by rw [hsb.1, Heap.size_push]
    refine hQ ds ι1 M1 H1 _ _ hR st1 ⟨s3, H4, code, it, fp, tn, J, s3.gens.size, _, I3, x4, T, ?_, fun b hb => ?_, wk, ?_, Heap.get?_push_size _ rfl, fun h e => ⟨_, _, _, e, rfl, rfl, rfl⟩, fun v q => (by cases q), fun b o e => Heap.get?_push_of_some _ (kp b o e), rfl, AllBare.push I3.bare rfl, ⟨_, hns.push _⟩, Array.getElem?_push_size ..⟩
    · exact T.keep 0 _ _ tn0 fun b hb o e => Heap.get?_push_of_some _ (kp b o (hk b o (hne b hb) e))
    · obtain ⟨ob, hob, nd⟩ := T.obj 0 _ tn0 b hb
      exact ⟨⟨hfree4 b hb, (hf b hb).2⟩, Nat.lt_of_lt_of_le (Heap.lt_size hob) hsz⟩
    · show s3.heap.objs.size < h'.objs.size
      omega
  cases hf2 : codeAmong gpos ps.toList with
  | none =>
    refine wpAny_genexprCodeX hcode (cd.code hPs ht) (cd.tab hPs) hf2 fun c' h' tk hx hge hlt hco' _ htab' _ => ?_
    obtain ⟨o1, vs, f1, tf, fl, tg', inF, tx, tt, op, _, _, _, _, _, _, _, _, _, htr, _⟩ := hco'
    have J3 := GxR.inv_tab (g' := s2.gens) (d' := s2.drawn) (t' := tk) I2 hP (fun b o hb e => hx b o hb e) htab'.2 I2.bare
    exact cont (.ref c') _ { s2 with heap := h', toks := tk } (fun b hb => by rw [upd_ne (hne b hb)]; exact (hf b hb).1) J3 (.tab st1.mem hP htr) (fun b o hb e => hx b o hb e) (Nat.le_trans hge (Nat.le_of_lt hlt))
  | some cv =>
    refine wpAny_genexprCode_hit hcode (cd.code hPs ht) hf2 ?_
    exact cont cv H1 s2 (fun b hb => (hf b hb).1) I2 (.refl st1.mem) (fun b o _ e => e) (Nat.le_refl _)

/-! ### sum(..), all(..) -/
def sumG (src : Slots → Co (List Dv)) (tf : Dv → Slots → Co Slots) (te : Slots → Co Dv) (fr : List (Option Nat)) : Slots → Co Dv := fun ρ => bnd (src ρ) fun ds M => match gxL tf te (gρ ρ fr) ds M with
  | none => .fail
  | some l => (match intsZ l with
    | none => .fail
    | some zs => .ok (dI (sumZ 0 zs)) (gxM M l))
def allG (src : Slots → Co (List Dv)) (tf : Dv → Slots → Co Slots) (te : Slots → Co Dv) (fr : List (Option Nat)) : Slots → Co Dv := fun ρ => bnd (src ρ) fun ds M => match gxL tf te (gρ ρ fr) ds M with
  | none => .fail
  | some l => (match allZ l (some (true, M)) with
    | none => .fail
    | some (b, Me) => .ok (vB b) Me)
/-- the generator's frame is a frame over the builtin's -/
theorem over_gx {A : Around} {it : Value} {env : Env} {st : List Env} (hA : A.frames = some st) : (A.over (.compLoop (.GeneratorExp elt [⟨tg, iter, [], 0⟩] scope gpos) 0 it .none env) []).frames = some (env :: st) := by
  unfold Around.over
  simp only [hA]
  rfl
theorem room_gx {k : Nat} {A : Around} {it : Value} {env : Env} (hr : Room (k + 1) A) : Room k (A.in1.in1.over (.compLoop (.GeneratorExp elt [⟨tg, iter, [], 0⟩] scope gpos) 0 it .none env) []) := by
  refine ⟨hr.hd, ?_, ?_⟩
  · have := hr.dp
    show A.depth + 1 + 3 * k + 5 < _
    omega
  · have := hr.un
    show A.units + 1 + 1 + 3 + 16 * k + 200 < _
    omega
end
end Xt
set_option Elab.async false
set_option linter.all false
set_option maxRecDepth 100000
set_option maxHeartbeats 2000000
namespace Xt
open PySem PySem.Spec PyProof.Rows L2 GenW
section
variable {X : Cx} {G : Gx} {E : XK} {N' : List Str} {fr : List (Option Nat)} {scope : Scope} {tg iter elt : Expr} {gpos pos p : Pos} {src : Slots → Co (List Dv)} {tf : Dv → Slots → Co Slots} {te : Slots → Co Dv} {k : Nat} {c P : Addr}
/-- the generator's context, whatever the state -/
abbrev gcxA (X : Cx) (N' : List Str) (scope : Scope) (A : Around) (s : Shared) (H : Hp) (code : Value) (fp : List Addr) (pn : List (Addr × Obj)) : Cx :=
  gcx X A N' s H (genEnv scope (cloFrom X.env.cells scope.names []) s.heap.objs.size code builtinsNs X.env) fp pn
/-- what a generator expression asks -/
structure GxOk (X : Cx) (G : Gx) (N' : List Str) (fr : List (Option Nat)) (scope : Scope) (tg iter elt : Expr) (src : Slots → Co (List Dv)) (tf : Dv → Slots → Co Slots) (te : Slots → Co Dv) (k : Nat) : Prop where
  sc : GxS X.N N' fr X.env.scope scope
  pi : PI X tg iter (rdI G E0 src)
  pg : ∀ A s H code fp pn, PG (gcxA X N' scope A s H code fp pn) tg (rdG G E0 tf)
  pe : ∀ A s H code fp pn, Room k A → PE (gcxA X N' scope A s H code fp pn) elt (rdE G E0 te)
  bk : ∀ ρ, BkS G (gρ ρ fr) tf
  fold : ∀ v, genFold iter X.env v = pure v
theorem rd_nox {α : Type} {H : Hp} {ι : List Addr} {Q : α → List Addr → Mem → Hp → Prop} {E : XK} {c : Co α} {M : Mem} (h : Post G E ι H Q (nox c M)) : Post G E0 ι H Q (c M) := by
  unfold nox at h
  cases e : c M with
  | fail =>
    rw [e] at h
    exact h.elim
  | ok a M' =>
    rw [e] at h
    exact h
  | ex c' M' =>
    rw [e] at h
    exact h.elim
theorem fp_gx {pins pp : List (Addr × Obj)} {s4 : Shared} {H4 H' : Hp} {fp : List Addr} {σ : L2.St} {cd : Value} {a : Addr} {go : Obj} {A : Around} (S : GxS X.N N' fr X.env.scope scope) (I4 : Inv X pins σ H4 s4) (hf : ∀ b ∈ fp, FpOk X pins H4 b ∧ b < s4.heap.objs.size) (hag : s4.heap.objs.size < a)
    (hpp : ∀ q ∈ pp, s4.heap.objs.size ≤ q.1) (hz : ∀ b ∈ fp, H' b = none) : ∀ b ∈ fp, FpOk (gcxA X N' scope A s4 H4 cd fp [(a, go)]) pp H' b := fun b hb => by
  obtain ⟨⟨_, f1, f2, _, f4, _⟩, lt⟩ := hf b hb
  refine ⟨hz b hb, Nat.ne_of_lt lt, fun z => ?_, .inl hb, fun x c e => f4 x c (S.cells I4.ok e).1, fun q hq e => ?_⟩
  · rcases List.mem_cons.mp (I4.stkSub b z) with w | w
    · exact f1 w
    · exact f2 w
  · have lt' : b < s4.heap.objs.size := lt
    rcases List.mem_append.mp hq with w | w
    · have w' : q = (a, go) := List.mem_singleton.mp w
      rw [w'] at e
      have e' : a = b := e
      rw [← e'] at lt'
      exact Nat.lt_asymm lt' hag
    · have := hpp q w
      rw [e] at this
      exact absurd lt' (Nat.not_lt.mpr this)
theorem xallG (ok : GxOk X G N' fr scope tg iter elt src tf te k) (hr : Room (k + 1) X.A) (TB : LamX.TabB X.base X.mg c P) (hPt : P ∈ G.tbs) (hcode : X.env.code = .ref c) (hg : Gl X "all") (hm : X.mg "all" = none)
    (he : starEach [.GeneratorExp elt [⟨tg, iter, [], 0⟩] scope gpos] X.env = (false, eval (.GeneratorExp elt [⟨tg, iter, [], 0⟩] scope gpos) X.env) :: starEach [] X.env := by rfl) :
    PE X (.Call (.Name "all" p) [.GeneratorExp elt [⟨tg, iter, [], 0⟩] scope gpos] [] pos) (rdE G E (allG (fun ρ => nox (src ρ)) tf te fr)) := by
  refine ⟨fun pins s σ H Q I h => ?_⟩
  obtain ⟨ι, ρ, M, st, po⟩ := h
  refine wpAny_Call_Name_kw (ld_blt I hg hm (show bootBuiltins "all" = some (.builtin "all") from rfl) ?_)
  refine PyProof.Rows.callWith_builtin1 ?_ he (by rfl)
  rw [he]
  show wpAny _ _ (spliced ((false, eval (.GeneratorExp elt [⟨tg, iter, [], 0⟩] scope gpos) X.env) :: backTo pos (starEach [] X.env))) _ _ s
  have po2 := rd_nox (Post.bnd po)
  refine Calls.spliced_cons (gx_make hr TB hPt hcode ok.sc ok.pi ok.fold I st po2 fun ds ι1 M1 H1 a s5 hR st1 rdy => ?_)
  obtain ⟨s4, H4, cd, it, fp, tn, J, g, go, I4, x4, T, tn0, hf, wk, hag, hgo0, hgo, hgd, hk, os, bare, ns, hgs⟩ := rdy
  refine Calls.spliced_nil ?_
  refine call_allG (wpAny_pyIter_gen (hgo _ hgo0) ?_)
  -- the items
  cases el : gxL tf te (gρ ρ fr) ds M1 with
  | none =>
    simp only [el] at hR
    exact hR.elim
  | some l =>
  simp only [el] at hR
  cases ez : allZ l (some (true, M1)) with
  | none =>
    simp only [ez] at hR
    exact hR.elim
  | some bm =>
  obtain ⟨b, Me⟩ := bm
  simp only [ez] at hR
  have hr1 := hr
  -- the context in the generator
  have hov : (X.A.in1.in1.over (.compLoop (.GeneratorExp elt [⟨tg, iter, [], 0⟩] scope gpos) 0 (.ref it) .none (genEnv scope (cloFrom X.env.cells scope.names []) s4.heap.objs.size cd builtinsNs X.env)) []).handled = none := hr.hd
  have hfrm := over_gx (A := X.A.in1.in1) (tg := tg) (iter := iter) (elt := elt) (scope := scope) (gpos := gpos) (it := .ref it) (env := genEnv scope (cloFrom X.env.cells scope.names []) s4.heap.objs.size cd builtinsNs X.env) I.ok.frames
  have J5 := inv_gx (N' := N') (fr := fr) ok.sc I4 hov hfrm hk os bare ns hf hgo0 hag hgd
  have hn := gxL_len el
  have sr4 : StR G H4 (gσ σ fr) ι1 (gρ ρ fr) M1 := gst_gx ok.sc (st1.ext x4)
  have J6 := Inv.pinned (pins := []) J5 (fp_gx (pp := []) ok.sc I4 hf hag (fun q hq => (by cases hq)) fun b hb => (hf b hb).1.1) (T.obj _ _ tn0)
  refine all_loop (G := G) (X := gcxA X N' scope _ s4 H4 cd fp [(a, go)]) (A := X.A) (fp := fp) (ι0 := ι1) (H0 := H1) (zms := l) (Mf := gxM M1 l) (s2 := s5) hr.hd hr.depth hgo List.mem_cons_self (b := b) (Me := Me) (fun s' ι' H' σ' I' x' => ?_) l.length 0 M1 (gσ σ fr) H4 (pinsAt fp s5.heap) s5 (Nat.zero_add _) ez (fun e => ?_) rfl
    ⟨hgo _ hgo0, fun p hp => (of_pinsAt hp).1, _, hgs, fun s'' pp' hpp' I'' => ?_⟩ J6
  · have I9 : Inv X pins σ H' s' := I4.call' (ch := fp) I'.os I'.base I'.hok I'.bare fun b hb => ⟨(hf b hb).1.2.2.2.1, (hf b hb).1.2.1, (hf b hb).1.2.2.2.2⟩
    exact ⟨.bl b, H', I9, rfl, hR ι' H' x' _ (.g (.bl b))⟩
  · cases l with
    | nil => rfl
    | cons _ _ => cases e
  · subst hpp'
    refine ⟨rfl, ?_⟩
    refine seg_gx0 (X := gcxA X N' scope _ s4 H4 cd fp [(a, go)]) (A := X.A.in1.in1) (ds := ds) (ρ := gρ ρ fr) (M := M1) (tf := tf) (te := te) (fp := fp) (tn := tn) (J := J) (PP := fun pp => pp = []) (s₀ := s'') rfl rfl (fun _ _ z => z) T (fun pp H' hpp hz b hb => ?_) wk (ok.pg _ _ _ _ _ _) (ok.pe _ _ _ _ _ _ (room_gx hr)) (ok.bk ρ) ok.sc.co el rfl
      ⟨ι1, H4, gσ σ fr, [], rfl, fun p hp => (by cases hp), I''.pins_of fun p hp => (by cases hp), x4, sr4, ?_, fun b hb => (hf b hb).1.1⟩
    · subst hpp
      exact fp_gx ok.sc I4 hf hag (fun q hq => (by cases hq)) hz b hb
    · exact T.keep _ _ _ tn0 fun b hb o e => (I''.pin (b, o) (List.mem_append_right _ (List.mem_append_right _ (mem_pinsAt hb e)))).1
theorem xsumG (ok : GxOk X G N' fr scope tg iter elt src tf te k) (hr : Room (k + 1) X.A) (TB : LamX.TabB X.base X.mg c P) (hPt : P ∈ G.tbs) (hcode : X.env.code = .ref c) (hg : Gl X "sum") (hm : X.mg "sum" = none)
    (he : starEach [.GeneratorExp elt [⟨tg, iter, [], 0⟩] scope gpos] X.env = (false, eval (.GeneratorExp elt [⟨tg, iter, [], 0⟩] scope gpos) X.env) :: starEach [] X.env := by rfl) :
    PE X (.Call (.Name "sum" p) [.GeneratorExp elt [⟨tg, iter, [], 0⟩] scope gpos] [] pos) (rdE G E (sumG (fun ρ => nox (src ρ)) tf te fr)) := by
  refine ⟨fun pins s σ H Q I h => ?_⟩
  obtain ⟨ι, ρ, M, st, po⟩ := h
  refine wpAny_Call_Name_kw (ld_blt I hg hm (show bootBuiltins "sum" = some (.builtin "sum") from rfl) ?_)
  refine PyProof.Rows.callWith_builtin1 ?_ he (by rfl)
  rw [he]
  show wpAny _ _ (spliced ((false, eval (.GeneratorExp elt [⟨tg, iter, [], 0⟩] scope gpos) X.env) :: backTo pos (starEach [] X.env))) _ _ s
  have po2 := rd_nox (Post.bnd po)
  refine Calls.spliced_cons (gx_make hr TB hPt hcode ok.sc ok.pi ok.fold I st po2 fun ds ι1 M1 H1 a s5 hR st1 rdy => ?_)
  obtain ⟨s4, H4, cd, it, fp, tn, J, g, go, I4, x4, T, tn0, hf, wk, hag, hgo0, hgo, hgd, hk, os, bare, ns, hgs⟩ := rdy
  refine Calls.spliced_nil ?_
  refine call_sumG (wpAny_pyIter_gen (hgo _ hgo0) fun tk => ?_)
  cases el : gxL tf te (gρ ρ fr) ds M1 with
  | none =>
    simp only [el] at hR
    exact hR.elim
  | some l =>
  simp only [el] at hR
  cases ez : intsZ l with
  | none =>
    simp only [ez] at hR
    exact hR.elim
  | some zs =>
  simp only [ez] at hR
  have hov : (X.A.in1.in1.over (.compLoop (.GeneratorExp elt [⟨tg, iter, [], 0⟩] scope gpos) 0 (.ref it) .none (genEnv scope (cloFrom X.env.cells scope.names []) s4.heap.objs.size cd builtinsNs X.env)) []).handled = none := hr.hd
  have hfrm := over_gx (A := X.A.in1.in1) (tg := tg) (iter := iter) (elt := elt) (scope := scope) (gpos := gpos) (it := .ref it) (env := genEnv scope (cloFrom X.env.cells scope.names []) s4.heap.objs.size cd builtinsNs X.env) I.ok.frames
  have alt : a < s5.heap.objs.size := Heap.lt_size hgo0
  have kS : ∀ b o, s5.heap.get? b = some o → (s5.heap.push (sumO 0 s5.toks 0)).get? b = some o := fun b o e => Heap.get?_push_of_some _ e
  have tn5 : tn 0 (s5.heap.push (sumO 0 s5.toks 0)) := T.keep 0 _ _ tn0 fun b _ o e => kS b o e
  have J5 := inv_gx (s5 := { s5 with heap := s5.heap.push (sumO 0 s5.toks 0), toks := tk }) (N' := N') (fr := fr) ok.sc I4 hov hfrm (fun b o e => kS b o (hk b o e)) os bare (by
    obtain ⟨m, n⟩ := ns
    exact ⟨m, n.push _⟩) hf (kS _ _ hgo0) hag hgd
  have hn := gxL_len el
  have sr4 : StR G H4 (gσ σ fr) ι1 (gρ ρ fr) M1 := gst_gx ok.sc (st1.ext x4)
  have sS : s4.heap.objs.size ≤ s5.heap.objs.size := Nat.le_of_lt (Nat.lt_trans hag alt)
  have off : Off (gcxA X N' scope (X.A.in1.in1.over (.compLoop (.GeneratorExp elt [⟨tg, iter, [], 0⟩] scope gpos) 0 (.ref it) .none (genEnv scope (cloFrom X.env.cells scope.names []) s4.heap.objs.size cd builtinsNs X.env)) []) s4 H4 cd fp [(a, go)]) fp s5.heap.objs.size := by
    refine ⟨sS, Nat.ne_of_gt (Nat.lt_trans hag alt), fun x c e z => ?_, fun q hq z => ?_, fun b hb z => ?_⟩
    · obtain ⟨v, ob, ho, _⟩ := I4.cell x c (ok.sc.cells I4.ok e).1
      have := Heap.lt_size ho
      rw [z] at this
      exact absurd (Nat.lt_of_lt_of_le this sS) (Nat.lt_irrefl _)
    · have hq' : q = (a, go) := List.mem_singleton.mp hq
      rw [hq'] at z
      have z' : a = s5.heap.objs.size := z
      rw [z'] at alt
      exact Nat.lt_irrefl _ alt
    · have := (hf b hb).2
      rw [z] at this
      exact absurd (Nat.lt_of_lt_of_le this sS) (Nat.lt_irrefl _)
  have ge1 : ∀ q ∈ [(s5.heap.objs.size, sumO 0 s5.toks 0)], s4.heap.objs.size ≤ q.1 := fun q hq => by
    rw [List.mem_singleton.mp hq]
    exact sS
  have J7 := J5.pins_of (pins' := [(s5.heap.objs.size, sumO 0 s5.toks 0)]) fun q hq => by
    rw [List.mem_singleton.mp hq]
    refine ⟨Heap.get?_push_size _ rfl, I4.hok.fresh sS, off.loc, fun z => ?_, fun v e => (by cases e)⟩
    obtain ⟨_, o, ho, _⟩ := I4.stack.mem (b := s5.heap.objs.size) z
    exact absurd (Nat.lt_of_lt_of_le (Heap.lt_size ho) sS) (Nat.lt_irrefl _)
  have J6 := Inv.pinned J7 (fp_gx ok.sc I4 hf hag ge1 fun b hb => (hf b hb).1.1) (T.obj _ _ tn5)
  refine sum_loop (G := G) (X := gcxA X N' scope _ s4 H4 cd fp [(a, go)]) (A := X.A) (fp := fp) (ι0 := ι1) (H0 := H1) (zms := l) (Mf := gxM M1 l) (S := s5.heap.objs.size) hr.hd hr.depth hgo List.mem_cons_self off (tot := sumZ 0 zs) (fun t s' ι' H' σ' I' x' => ?_) l.length 0 zs 0 s5.toks 0 0 (gσ σ fr) H4 (pinsAt fp (s5.heap.push (sumO 0 s5.toks 0))) _ (.inl rfl) (Nat.zero_add _) ez rfl
    ⟨hgo _ (kS _ _ hgo0), fun p hp => (of_pinsAt hp).1, _, hgs, fun s'' pp' hpp' I'' => ?_⟩ J6
  · have I9 : Inv X pins σ H' s' := I4.call' (ch := fp) I'.os I'.base I'.hok I'.bare fun b hb => ⟨(hf b hb).1.2.2.2.1, (hf b hb).1.2.1, (hf b hb).1.2.2.2.2⟩
    exact ⟨.int (sumZ 0 zs), H', I9, ⟨t, rfl⟩, hR ι' H' x' _ rpI⟩
  · refine ⟨rfl, ?_⟩
    refine seg_gx0 (X := gcxA X N' scope _ s4 H4 cd fp [(a, go)]) (A := X.A.in1.in1) (ds := ds) (ρ := gρ ρ fr) (M := M1) (tf := tf) (te := te) (fp := fp) (tn := tn) (J := J) (PP := SP1 s5.heap.objs.size) (s₀ := s'') rfl rfl (fun _ _ z => z) T (fun pp H' hpp hz b hb => ?_) wk (ok.pg _ _ _ _ _ _) (ok.pe _ _ _ _ _ _ (room_gx hr)) (ok.bk ρ) ok.sc.co el rfl
      ⟨ι1, H4, gσ σ fr, pp', hpp', fun p hp => (I''.pin p (List.mem_append_right _ (List.mem_append_left _ hp))).1, I''.unpinned, x4, sr4, ?_, fun b hb => (hf b hb).1.1⟩
    · obtain ⟨acc, t, c', rfl⟩ := hpp
      exact fp_gx ok.sc I4 hf hag (fun q hq => by
        rw [List.mem_singleton.mp hq]
        exact sS) hz b hb
    · exact T.keep _ _ _ tn5 fun b hb o e => (I''.pin (b, o) (List.mem_append_right _ (List.mem_append_right _ (mem_pinsAt hb e)))).1
end
end Xt
set_option Elab.async false
set_option linter.all false
set_option maxRecDepth 100000
set_option maxHeartbeats 1000000
namespace Xt
open PySem PySem.Spec PyProof.Rows L2
/-! ### lists that change -/
/-- what stands at i is put anew -/
def putM (i : Nat) (mo : MO) : Co Unit := fun M => .ok () (M.set i mo)
/-- a list of the memory -/
def lstOf : Dv → Co Nat := fun d => match d with
  | .r i => atM i fun mo => match mo with
    | .lst _ => rt i
    | _ => fl
  | _ => fl
def dctOf : Dv → Co Nat := fun d => match d with
  | .r i => atM i fun mo => match mo with
    | .dct _ => rt i
    | _ => fl
  | _ => fl
def apM (i : Nat) (e : Dv) : Co Dv := atM i fun mo => match mo with
  | .lst xs => chk (Nat.blt xs.length 16777216) (fun M => .ok (.g .none) (M.set i (.lst (xs ++ [e]))))
  | _ => fl
def app (f g : Slots → Co Dv) : Slots → Co Dv := fun ρ => bnd (f ρ) fun d => bnd (lstOf d) fun i => bnd (g ρ) fun e => apM i e
section
variable {G : Gx} {E : XK} {ι : List Addr} {H : Hp} {M : Mem} {d : Dv} {v : V}
theorem Post.lstOf {α : Type} {k : Nat → Co α} {Q : α → List Addr → Mem → Hp → Prop} (p : Post G E ι H Q (Xt.bnd (Xt.lstOf d) k M)) : ∃ i xs, d = .r i ∧ M[i]? = some (.lst xs) ∧ Post G E ι H Q (k i M) := by
  have p2 := Post.bnd p
  cases d with
  | r i =>
    have p3 : Post G E ι H Q (Xt.bnd (Xt.atM i fun mo => match mo with | .lst _ => Xt.rt i | _ => fl) k M) := p
    unfold Xt.bnd Xt.atM at p3
    cases e : M[i]? with
    | none =>
      rw [e] at p3
      exact p3.elim
    | some mo =>
      rw [e] at p3
      cases mo with
      | lst xs => exact ⟨i, xs, rfl, e, p3⟩
      | _ => exact p3.elim
  | _ => exact p2.elim
theorem Post.dctOf {α : Type} {k : Nat → Co α} {Q : α → List Addr → Mem → Hp → Prop} (p : Post G E ι H Q (Xt.bnd (Xt.dctOf d) k M)) : ∃ i xs, d = .r i ∧ M[i]? = some (.dct xs) ∧ Post G E ι H Q (k i M) := by
  have p2 := Post.bnd p
  cases d with
  | r i =>
    have p3 : Post G E ι H Q (Xt.bnd (Xt.atM i fun mo => match mo with | .dct _ => Xt.rt i | _ => fl) k M) := p
    unfold Xt.bnd Xt.atM at p3
    cases e : M[i]? with
    | none =>
      rw [e] at p3
      exact p3.elim
    | some mo =>
      rw [e] at p3
      cases mo with
      | dct xs => exact ⟨i, xs, rfl, e, p3⟩
      | _ => exact p3.elim
  | _ => exact p2.elim
end
section
variable {X : Cx} {G : Gx} {E : XK} {e e1 e2 e3 : Expr} {es : List Expr} {f g h3 : Slots → Co Dv} {gs : Slots → Co (List Dv)} {pos p : Pos}
/-- o.append(e) -/
theorem xapp {apos cpos : Pos} (ho : PE X e1 (rdE G E f)) (ha : PE X e2 (rdE G E g))
    (hbase : attributeBase e1 "append" X.env (eval e1 X.env) = eval e1 X.env := by rfl)
    (hfew : ((backTo cpos (starEach [e2] X.env)).all (fun x => !x.1) && (backToKw cpos (keywordEach [] X.env)).all (fun x => x.1.isSome)
      && decide (([e2] : List Expr).length + ([] : List Keyword).length + (if ([] : List Keyword).isEmpty then 0 else 1) < 30)) = true := by rfl)
    (hline : (apos.endLine == cpos.line) = true := by rfl) (hs : starEach [e2] X.env = (false, eval e2 X.env) :: starEach [] X.env := by rfl) (hplain : (backTo cpos (starEach [] X.env)).any (·.1) = false := by rfl) :
    PE X (.Call (.Attribute e1 "append" apos) [e2] [] cpos) (rdE G E (app f g)) :=
  peI (pe_bm PySem.F.plainAttrs_list PySem.F.slot_list_append PySem.F.type_list_append mt_append ho (pa_cons ha pa_nil hs) hbase hfew hline hs hplain) fun σ H Q h => by
    obtain ⟨ι, ρ, M, st, p⟩ := h
    refine ⟨ι, ρ, M, st, (Post.bnd p).mono fun d ι1 M1 H1 x1 p1 v rv => ?_⟩
    obtain ⟨i, xs0, rfl, e0, p2⟩ := Post.lstOf p1
    cases rv with
    | @r a _ hi =>
      obtain ⟨vs0, g1, _⟩ := x1.mem.lstE hi e0
      refine ⟨.inl ⟨rfl, vs0, .of g1⟩, ι1, ρ, M1, st.ext x1, (Post.bnd p2).mono fun d2 ι2 M2 H2 x2 p3 w rw => ?_⟩
      obtain ⟨mo, e1, p4⟩ := Post.atM p3
      cases mo with
      | lst xs =>
        obtain ⟨c, p5⟩ := Post.chk p4
        have hi2 := pre_get x2.pre hi
        obtain ⟨vs, h1, h2⟩ := x2.mem.lstE hi2 e1
        refine ⟨_, vs, w, rfl, rfl, h1, ?_, ?_⟩
        · rw [h2.length, sizeLine_eq]
          exact Nat.le_of_ble_eq_true c
        · have x3 : Ext G ι2 H2 ι2 (M2.set i (.lst (xs ++ [d2]))) (upd H2 a (.lst (vs ++ [w]))) := .store x2.mem hi2 h1 rfl ⟨_, upd_same, (h2.snoc rw).mono (List.prefix_refl _) (keep_store h1 rfl)⟩
          exact p5 ι2 _ x3 _ (.g .non)
      | _ => exact p4.elim
/-! ### o[i] = v -/
def dvV (kvs : List (Int × Dv)) (k : Int) : Option Dv := match kvs with
  | [] => none
  | (j, d) :: r => (match decide (j = k) with
    | true => some d
    | false => dvV r k)
def dvR (kvs : List (Int × Dv)) (k : Int) (v : Dv) : List (Int × Dv) := match kvs with
  | [] => []
  | (j, d) :: r => (j, match decide (j = k) with
    | true => v
    | false => d) :: dvR r k v
def dvP (kvs : List (Int × Dv)) (k : Int) (v : Dv) : List (Int × Dv) := match dvV kvs k with
  | some _ => dvR kvs k v
  | none => kvs ++ [(k, v)]
def stD : Dv → Dv → Dv → Co Unit := fun o i v => bnd (ofO (asI i)) fun k => match o with
  | .r j => atM j fun mo => match mo with
    | .lst xs => bnd (ofO (ixN xs.length k)) fun n => putM j (.lst (xs.set n v))
    | .dct kvs => chk (Nat.blt kvs.length 16777216) (putM j (.dct (dvP kvs k v)))
    | _ => fl
  | _ => fl
end
section
variable {G : Gx} {E : XK} {ι : List Addr} {H : Hp} {M : Mem} {d : Dv} {v : V}
theorem RpI.valV {kws : List (Key × V)} {kvs : List (Int × Dv)} (r : RpI G ι H kws kvs) (k : Int) : match dvV kvs k with
    | some d => ∃ v, L2.valV kws (.inl k) = some v ∧ RpD G ι H v d
    | none => L2.valV kws (.inl k) = none := by
  induction r with
  | nil => exact valV_nil
  | @cons i v kws d kvs h _ ih =>
    unfold dvV
    cases e : decide (i = k) with
    | true =>
      have e2 := of_decide_eq_true e
      subst e2
      exact ⟨v, valV_pos (p := (Sum.inl i, v)) rfl, h⟩
    | false =>
      have e2 := of_decide_eq_false e
      rw [valV_neg (p := (Sum.inl i, v)) (fun z => e2 (Sum.inl.inj z))]
      exact ih
theorem RpI.snoc {kws : List (Key × V)} {kvs : List (Int × Dv)} (r : RpI G ι H kws kvs) {k : Int} (h : RpD G ι H v d) : RpI G ι H (kws ++ [(.inl k, v)]) (kvs ++ [(k, d)]) := by
  induction r with
  | nil => exact .cons h .nil
  | cons q _ ih => exact .cons q ih
theorem RpI.repl {kws : List (Key × V)} {kvs : List (Int × Dv)} (r : RpI G ι H kws kvs) {k : Int} (h : RpD G ι H v d) : RpI G ι H (kws.map fun kv => if kv.1 = .inl k then (kv.1, v) else kv) (dvR kvs k d) := by
  induction r with
  | nil => exact .nil
  | @cons i v' kws d' kvs q _ ih =>
    rw [List.map_cons]
    unfold dvR
    cases e : decide (i = k) with
    | true =>
      have e2 := of_decide_eq_true e
      subst e2
      rw [if_pos rfl]
      exact .cons h ih
    | false =>
      have e2 := of_decide_eq_false e
      rw [if_neg (fun z => e2 (Sum.inl.inj z))]
      exact .cons q ih
theorem RpI.put {kws : List (Key × V)} {kvs : List (Int × Dv)} (r : RpI G ι H kws kvs) {k : Int} (h : RpD G ι H v d) : RpI G ι H (putK kws (.inl k) v) (dvP kvs k d) := by
  have q := r.valV k
  unfold putK dvP
  rw [valV_any]
  cases e : dvV kvs k with
  | some d' =>
    rw [e] at q
    obtain ⟨v', q1, _⟩ := q
    rw [q1, if_pos (by rfl)]
    exact r.repl h
  | none =>
    rw [e] at q
    have q1 : L2.valV kws (.inl k) = none := q
    rw [q1, if_neg (by decide)]
    exact r.snoc h
end
section
variable {X : Cx} {G : Gx} {E : XK} {e e1 e2 e3 : Expr} {es : List Expr} {f g h3 : Slots → Co Dv} {gs : Slots → Co (List Dv)} {pos p : Pos}
def rSetX : TSet := fun o i v H Q => rSetL o i v H Q ∨ rSetD o i v H Q
theorem set_X (hu : X.A.units + 1 < cLine) : PSet X rSetX := fun pins s σ H o i v ov iv u Q I ro ri rv h => h.elim (set_list pins s σ H o i v ov iv u Q I ro ri rv) (set_dict hu pins s σ H o i v ov iv u Q I ro ri rv)
def tSub (f g : Slots → Co Dv) : Dv → Slots → Co Slots := fun d ρ => bnd (f ρ) fun o => bnd (g ρ) fun i => bnd (stD o i d) fun _ => rt ρ
theorem xgsub (hu : X.A.units + 1 < cLine) (ho : PE X e1 (rdE G E f)) (hi : PE X e2 (rdE G E g))
    (ha : ∀ v, assign (.Subscript e1 e2 pos) X.env v = (do
      let ov ← holding [v] (eval e1 X.env)
      let iv ← holding [v, ov] (eval e2 X.env)
      standAt pos
      holding [v, ov, iv] (setItem ov iv v)
      release [v, ov, iv] []) := by intro _; rfl) : PG X (.Subscript e1 e2 pos) (rdG G E (tSub f g)) :=
  pgI (pg_sub ho hi (set_X hu) ha) fun v σ H Q h => by
    obtain ⟨ι, ρ, M, d, st, r, p⟩ := h
    refine ⟨ι, ρ, M, st, (Post.bnd p).mono fun o ι1 M1 H1 x1 p1 ov ro => ?_⟩
    refine ⟨ι1, ρ, M1, st.ext x1, (Post.bnd p1).mono fun i ι2 M2 H2 x2 p2 iv ri => ?_⟩
    have r2 := (r.mono x1.pre x1.keep).mono x2.pre x2.keep
    have st2 := (st.ext x1).ext x2
    have p3 := Post.bnd p2
    obtain ⟨k, ek, p4⟩ := Post.ofO p3
    obtain ⟨rfl, rfl⟩ := asI_rp ri ek
    cases ro with
    | @r a j hj =>
      obtain ⟨mo, e0, p5⟩ := Post.atM p4
      have hj2 := pre_get x2.pre hj
      cases mo with
      | lst xs =>
        obtain ⟨n, en, p6⟩ := Post.ofO p5
        obtain ⟨vs, h1, h2⟩ := x2.mem.lstE hj2 e0
        refine .inl ⟨a, vs, k, n, rfl, rfl, h1, by rw [h2.length]; exact en, ?_⟩
        have x3 : Ext G ι2 H2 ι2 (M2.set j (.lst (xs.set n d))) (upd H2 a (.lst (vs.set n v))) := .store x2.mem hj2 h1 rfl ⟨_, upd_same, (h2.set r2 n).mono (List.prefix_refl _) (keep_store h1 rfl)⟩
        exact Post.rt x3.mem (p6 ι2 _ x3) σ (st2.ext x3)
      | dct kvs =>
        obtain ⟨c, p6⟩ := Post.chk p5
        obtain ⟨kws, h1, h2⟩ := x2.mem.dctE hj2 e0
        refine .inr ⟨a, _, rfl, DPut.k (k := .inl k) h1 (by rw [h2.length, sizeLine_eq]; exact Nat.le_of_ble_eq_true c), ?_⟩
        have x3 : Ext G ι2 H2 ι2 (M2.set j (.dct (dvP kvs k d))) (upd H2 a (.dK (putK kws (.inl k) v))) := .store x2.mem hj2 h1 rfl ⟨_, upd_same, (h2.put r2).mono (List.prefix_refl _) (keep_store h1 rfl)⟩
        exact Post.rt x3.mem (p6 ι2 _ x3) σ (st2.ext x3)
      | _ => exact p5.elim
    | g _ => exact p4.elim
    | t _ _ => exact p4.elim
/-! ### dicts: {}, {k: v}, get -/
def newD (kvs : List (Int × Dv)) : Co Dv := fun M => .ok (.r M.length) (M ++ [.dct kvs])
theorem xd0 : PE X (.Dict [] [] pos) (rdE G E (fun _ => newD [])) := peI pe_dnewK fun σ H Q h => by
  obtain ⟨ι, ρ, M, st, p⟩ := h
  intro a ha
  have x2 : Ext G ι H (ι ++ [a]) (M ++ [.dct []]) (upd H a (.dK [])) := .alloc st.mem ha ⟨[], upd_same, .nil⟩
  refine p _ _ x2 _ (.r ?_)
  rw [← st.mem.len]
  exact get_last _ _
/-- {k: v} -/
def dsp1 (f g : Slots → Co Dv) : Slots → Co Dv := fun ρ M => bnd (f ρ) (fun k => bnd (ofO (asI k)) fun i => bnd (g ρ) fun v => fun M' => match M'[M.length]? with
  | some (.dct []) => .ok (.r M.length) (M'.set M.length (.dct [(i, v)]))
  | _ => .fail) (M ++ [.dct []])
theorem xd1 {e1 e2 : Expr} (ha : PE X e1 (rdE G E f)) (hb : PE X e2 (rdE G E g)) : PE X (.Dict [some e1] [e2] pos) (rdE G E (dsp1 f g)) :=
  peI (pe_disp (pps_cons ha hb pps_nil) rfl rfl (by simp) (by simp)) fun σ H Q h => by
    obtain ⟨ι, ρ, M, st, p⟩ := h
    intro a ha
    have x1 : Ext G ι H (ι ++ [a]) (M ++ [.dct []]) (upd H a (.dK [])) := .alloc st.mem ha ⟨[], upd_same, .nil⟩
    have hi : (ι ++ [a])[M.length]? = some a := by
      rw [← st.mem.len]
      exact get_last _ _
    have p1 := p.shift x1
    refine ⟨ι ++ [a], ρ, _, st.ext x1, (Post.bnd (E := E) p1).mono fun d ι2 M2 H2 x2 p2 v rv => ?_⟩
    obtain ⟨i, ei, p3⟩ := Post.ofO p2
    obtain ⟨rfl, rfl⟩ := asI_rp rv ei
    refine ⟨ι2, ρ, M2, (st.ext x1).ext x2, (Post.bnd p3).mono fun d2 ι3 M3 H3 x3 p4 w rw => ?_⟩
    have hi3 := pre_get x3.pre (pre_get x2.pre hi)
    cases q : M3[M.length]? with
    | none =>
      simp only [q] at p4
      exact p4.elim
    | some mo =>
      simp only [q] at p4
      cases mo with
      | dct l =>
        cases l with
        | nil =>
          obtain ⟨kws, h1, h2⟩ := x3.mem.dctE hi3 q
          cases h2
          refine ⟨h1, [(.inl i, w)], rfl, (by show 1 ≤ 15; omega), ?_⟩
          have x4 : Ext G ι3 H3 ι3 (M3.set M.length (.dct [(i, d2)])) (upd H3 a (.dK [(.inl i, w)])) := .store x3.mem hi3 h1 rfl ⟨_, upd_same, .cons (rw.mono (List.prefix_refl _) (keep_store h1 rfl)) .nil⟩
          exact p4 ι3 _ x4 _ (.r hi3)
        | cons _ _ => exact p4.elim
      | _ => exact p4.elim
/-- an object of the memory, a dict too, becomes data -/
def grdI : List (Int × Dv) → Option (List (PyData × PyData))
  | [] => some []
  | (i, .g x) :: r => (match grdI r with
    | some l => some ((.int i, x) :: l)
    | none => none)
  | _ => none
theorem RpI.grd {ι : List Addr} {H : Hp} {kws : List (Key × V)} {kvs : List (Int × Dv)} (r : RpI G ι H kws kvs) : ∀ {l : List (PyData × PyData)}, grdI kvs = some l → RpKs G.K H kws l := by
  induction r with
  | nil =>
    intro l e
    cases e
    exact .nil
  | @cons i v kws d kvs h _ ih =>
    intro l e
    cases d with
    | g x =>
      unfold grdI at e
      cases q : grdI kvs with
      | none =>
        rw [q] at e
        cases e
      | some l' =>
        rw [q] at e
        cases e
        cases h with
        | g h => exact .cons h (ih q)
    | _ => cases e
def frZ : Dv → Co Dv := fun d => match d with
  | .r i => atM i fun mo => match mo with
    | .lst ds => bnd (ofO (grd ds)) fun xs => fun M => .ok (.g (.list xs)) (M.set i .dead)
    | .dct kvs => bnd (ofO (grdI kvs)) fun xs => fun M => .ok (.g (.dict xs)) (M.set i .dead)
    | _ => fl
  | d => rt d
theorem xfrZ {e : Expr} (h : PE X e (rdE G E f)) : PE X e (rdE G E (b1 frZ f)) :=
  peI (pe_frz h) fun σ H Q h => by
    obtain ⟨ι, ρ, M, st, p⟩ := h
    refine ⟨ι, ρ, M, st, (Post.bnd p).mono fun d ι1 M1 H1 x1 p1 v rv => ?_⟩
    cases rv with
    | g rv => exact .inl (p1 ι1 H1 (.refl x1.mem) _ (.g rv))
    | t h r => exact .inl (p1 ι1 H1 (.refl x1.mem) _ (.t h r))
    | @r a i hi =>
      obtain ⟨mo, e, p2⟩ := Post.atM p1
      cases mo with
      | lst ds =>
        obtain ⟨xs, q, p3⟩ := Post.ofO p2
        obtain ⟨vs, h1, h2⟩ := x1.mem.lstE hi e
        refine .inr ⟨a, _, rfl, h1, trivial, fun od => ?_⟩
        have x2 : Ext G ι1 H1 ι1 (M1.set i .dead) (upd H1 a (.frz od (.lst vs))) := .store x1.mem hi h1 rfl ⟨_, upd_same, rfl⟩
        exact p3 _ _ x2 _ (.g (.lst (.inl ⟨od, upd_same⟩) ((h2.grd q).mono x2.keep)))
      | dct kvs =>
        obtain ⟨xs, q, p3⟩ := Post.ofO p2
        obtain ⟨kws, h1, h2⟩ := x1.mem.dctE hi e
        refine .inr ⟨a, _, rfl, h1, trivial, fun od => ?_⟩
        have x2 : Ext G ι1 H1 ι1 (M1.set i .dead) (upd H1 a (.frz od (.dK kws))) := .store x1.mem hi h1 rfl ⟨_, upd_same, rfl⟩
        exact p3 _ _ x2 _ (.g (.dct upd_same ((h2.grd q).mono x2.keep)))
      | _ => exact p2.elim
/-- o.get(k, d) -/
def dgt (f g h3 : Slots → Co Dv) : Slots → Co Dv := fun ρ => bnd (f ρ) fun d => bnd (dctOf d) fun i => bnd (g ρ) fun k => bnd (h3 ρ) fun z => bnd (ofO (asI k)) fun n => atM i fun mo => match mo with
  | .dct kvs => rt ((dvV kvs n).getD z)
  | _ => fl
theorem xget {apos cpos : Pos} (hu : X.A.units + 1 < cLine) (ho : PE X e1 (rdE G E f)) (ha : PE X e2 (rdE G E g)) (hb : PE X e3 (rdE G E h3)) (m : M2 X e1 "get" apos e2 e3 cpos := by exact ⟨rfl, rfl, rfl, rfl⟩) :
    PE X (.Call (.Attribute e1 "get" apos) [e2, e3] [] cpos) (rdE G E (dgt f g h3)) :=
  peI (pe_dget2 hu ho ha hb m) fun σ H Q h => by
    obtain ⟨ι, ρ, M, st, p⟩ := h
    refine ⟨ι, ρ, M, st, (Post.bnd p).mono fun d ι1 M1 H1 x1 p1 v rv => ?_⟩
    obtain ⟨i, xs0, rfl, e0, p2⟩ := Post.dctOf p1
    cases rv with
    | @r a _ hi =>
      obtain ⟨kw0, g1, _⟩ := x1.mem.dctE hi e0
      refine ⟨a, rfl, .inl ⟨kw0, .inl g1⟩, ι1, ρ, M1, st.ext x1, (Post.bnd p2).mono fun k ι2 M2 H2 x2 p3 kv rk => ?_⟩
      refine ⟨ι2, ρ, M2, (st.ext x1).ext x2, (Post.bnd p3).mono fun z ι3 M3 H3 x3 p4 zv rz => ?_⟩
      obtain ⟨n, en, p5⟩ := Post.ofO p4
      obtain ⟨rfl, rfl⟩ := asI_rp rk en
      obtain ⟨mo, e1, p6⟩ := Post.atM p5
      cases mo with
      | dct kvs =>
        have hi3 := pre_get x3.pre (pre_get x2.pre hi)
        obtain ⟨kws, h1, h2⟩ := x3.mem.dctE hi3 e1
        refine ⟨_, DGet.k (k := .inl n) h1, ?_⟩
        have q := h2.valV n
        have p6 : Post G E ι3 H3 (QE G Q) (rt ((dvV kvs n).getD z) M3) := p6
        cases e5 : dvV kvs n with
        | none =>
          rw [e5] at q p6
          have q1 : valV kws (.inl n) = none := q
          rw [q1]
          exact Post.rt x3.mem p6 _ rz
        | some d5 =>
          rw [e5] at q p6
          obtain ⟨w, q1, q2⟩ := q
          rw [q1]
          exact Post.rt x3.mem p6 _ q2
      | _ => exact p6.elim
end
end Xt
set_option Elab.async false
set_option linter.all false
set_option maxRecDepth 100000
set_option maxHeartbeats 1000000
namespace Xt
open PySem PySem.Spec PyProof.Rows L2
/-! ### built-in functions -/
def un1 (f : Int → Option Int) : List Dv → Co Dv := fun ds => match ds with
  | [d] => bnd (ofO (asI d)) fun i => bnd (ofO (f i)) fun z => rt (dI z)
  | _ => fl
def bi2 (f : Int → Int → Option Int) : List Dv → Co Dv := fun ds => match ds with
  | [d, e] => bnd (ofO (asI d)) fun i => bnd (ofO (asI e)) fun j => bnd (ofO (f i j)) fun z => rt (dI z)
  | _ => fl
section
variable {G : Gx} {E : XK} {r : List V → Hp → VK → Prop}
theorem cs_un1 {f : Int → Option Int} (h : ∀ i z H Q, f i = some z → Q (.int z) H → r [.int i] H Q) : CaS G E r (un1 f) := fun ι M H xs ds Q m rr p => by
  cases rr with
  | nil => exact p.elim
  | cons r1 t =>
    cases t with
    | cons _ _ => exact p.elim
    | nil =>
      obtain ⟨i, e, p⟩ := Post.ofO p
      obtain ⟨rfl, rfl⟩ := asI_rp r1 e
      obtain ⟨z, ez, p⟩ := Post.ofO p
      exact h i z H Q ez (Post.rt m p _ rpI)
theorem cs_bi2 {f : Int → Int → Option Int} (h : ∀ i j z H Q, f i j = some z → Q (.int z) H → r [.int i, .int j] H Q) : CaS G E r (bi2 f) := fun ι M H xs ds Q m rr p => by
  cases rr with
  | nil => exact p.elim
  | cons r1 t =>
    cases t with
    | nil => exact p.elim
    | cons r2 t =>
      cases t with
      | cons _ _ => exact p.elim
      | nil =>
        obtain ⟨i, e, p⟩ := Post.ofO p
        obtain ⟨rfl, rfl⟩ := asI_rp r1 e
        obtain ⟨j, e, p⟩ := Post.ofO p
        obtain ⟨rfl, rfl⟩ := asI_rp r2 e
        obtain ⟨z, ez, p⟩ := Post.ofO p
        exact h i j z H Q ez (Post.rt m p _ rpI)
abbrev absD := un1 fun i => some (match decide (i < 0) with | true => -i | false => i)
theorem cs_abs : CaS G E (fun xs H Q => ∃ i, xs = [.int i] ∧ Q (.int (if i < 0 then -i else i)) H) absD := cs_un1 fun i z H Q e q => ⟨i, rfl, by
  cases e
  by_cases h : i < 0
  · rw [decide_eq_true h] at q
    rw [if_pos h]
    exact q
  · rw [decide_eq_false h] at q
    rw [if_neg h]
    exact q⟩
abbrev max2D := bi2 fun i j => some (match decide (j > i) with | true => j | false => i)
theorem cs_max2 : CaS G E (fun xs H Q => ∃ i j, xs = [.int i, .int j] ∧ Q (.int (if j > i then j else i)) H) max2D := cs_bi2 fun i j z H Q e q => ⟨i, j, rfl, by
  cases e
  by_cases h : j > i
  · rw [decide_eq_true h] at q
    rw [if_pos h]
    exact q
  · rw [decide_eq_false h] at q
    rw [if_neg h]
    exact q⟩
abbrev min2D := bi2 fun i j => some (match decide (j < i) with | true => j | false => i)
theorem cs_min2 : CaS G E (fun xs H Q => ∃ i j, xs = [.int i, .int j] ∧ Q (.int (if j < i then j else i)) H) min2D := cs_bi2 fun i j z H Q e q => ⟨i, j, rfl, by
  cases e
  by_cases h : j < i
  · rw [decide_eq_true h] at q
    rw [if_pos h]
    exact q
  · rw [decide_eq_false h] at q
    rw [if_neg h]
    exact q⟩
abbrev intD := un1 fun i => some i
theorem cs_int : CaS G E (fun xs H Q => (∃ i, xs = [.int i] ∧ Q (.int i) H) ∨ ∃ k, xs = [.bl k] ∧ Q (.int (if k then 1 else 0)) H) intD := cs_un1 fun i z H Q e q => .inl ⟨i, rfl, by
  cases e
  exact q⟩
abbrev gcdD := bi2 fun i j => some ((Nat.gcd i.natAbs j.natAbs : Nat) : Int)
theorem cs_gcd : CaS G E rGcd gcdD := cs_bi2 fun i j z H Q e q => ⟨i, j, rfl, by
  cases e
  exact q⟩
/-- math.comb, math.factorial -/
def rComb : List V → Hp → VK → Prop := fun vs H Q => ∃ a b : Int, vs = [.int a, .int b] ∧ 0 ≤ a ∧ 0 ≤ b ∧ a < 9000 ∧ Q (.int (PySem.W.mcComb a b)) H
def rFact : List V → Hp → VK → Prop := fun vs H Q => ∃ a : Int, vs = [.int a] ∧ 0 ≤ a ∧ a ≤ 9000 ∧ Q (.int ((Builtin.Math.factorialNat a.toNat : Nat) : Int)) H
def combD := bi2 fun i j => match decide (0 ≤ i) && (decide (0 ≤ j) && decide (i < 9000)) with
  | true => some (PySem.W.mcComb i j)
  | false => none
def factD := un1 fun i => match decide (0 ≤ i) && decide (i ≤ 9000) with
  | true => some ((Builtin.Math.factorialNat i.toNat : Nat) : Int)
  | false => none
theorem cs_comb : CaS G E rComb combD := cs_bi2 fun i j z H Q e q => by
  cases c : decide (0 ≤ i) && (decide (0 ≤ j) && decide (i < 9000)) with
  | false =>
    rw [c] at e
    cases e
  | true =>
    rw [c] at e
    cases e
    obtain ⟨c1, c2⟩ := Bool.and_eq_true_iff.mp c
    obtain ⟨c2, c3⟩ := Bool.and_eq_true_iff.mp c2
    exact ⟨i, j, rfl, of_decide_eq_true c1, of_decide_eq_true c2, of_decide_eq_true c3, q⟩
theorem cs_fact : CaS G E rFact factD := cs_un1 fun i z H Q e q => by
  cases c : decide (0 ≤ i) && decide (i ≤ 9000) with
  | false =>
    rw [c] at e
    cases e
  | true =>
    rw [c] at e
    cases e
    obtain ⟨c1, c2⟩ := Bool.and_eq_true_iff.mp c
    exact ⟨i, rfl, of_decide_eq_true c1, of_decide_eq_true c2, q⟩
end
section
variable {X : Cx}
theorem cr_comb : CallR X (.builtin "math.comb") rComb := by
  intro pins s σ H vs us Q I r h
  obtain ⟨a, b, rfl, h1, h2, h3, q⟩ := h
  obtain ⟨t, u, rfl⟩ := Vals.int2 r
  exact PySem.W.mc_comb h1 h2 (by omega) (.inr (by omega)) fun _ => ⟨.int _, H, I.tok _, ⟨_, rfl⟩, q⟩
theorem cr_fact : CallR X (.builtin "math.factorial") rFact := by
  intro pins s σ H vs us Q I r h
  obtain ⟨a, rfl, h1, h2, q⟩ := h
  cases r with
  | cons r t =>
    cases t
    obtain ⟨t, rfl⟩ := r
    exact PySem.W.mc_factorial h1 (by omega) fun _ => ⟨.int _, H, I.tok _, ⟨_, rfl⟩, q⟩
end
/-! ### -e, sum(list), tuple(list) -/
section
variable {G : Gx} {E : XK} {ι : List Addr} {H : Hp} {M : Mem} {d : Dv} {v : V}
def intsP : List PyData → Option (List Int)
  | [] => some []
  | .int i :: r => (match intsP r with
    | some l => some (i :: l)
    | none => none)
  | _ => none
theorem intsP_rp {K : PySem.W.Frag} : ∀ {vs : List V} {ds : List PyData} {l : List Int}, RpVs K H vs ds → intsP ds = some l → vs = l.map V.int
  | _, [], l, .nil, e => by
    cases e
    rfl
  | _, d :: ds, l, .cons h r, e => by
    cases d with
    | int i =>
      unfold intsP at e
      cases q : intsP ds with
      | none =>
        rw [q] at e
        cases e
      | some l' =>
        rw [q] at e
        cases e
        cases h
        rw [intsP_rp r q]
        rfl
    | _ => cases e
/-- the items of a list (locked, or in the memory) -/
def lstG' (d : Dv) : Co (List PyData) := bnd (asG d) fun x => match x with
  | .list xs => rt xs
  | _ => fl
def sumL : List Dv → Co Dv := fun ds => match ds with
  | [d] => bnd (asG d) fun x => match x with
    | .list xs => bnd (ofO (intsP xs)) fun l => rt (dI l.sum)
    | _ => fl
  | _ => fl
theorem cs_sum : CaS G E (rSum G.K) sumL := fun ι M H xs ds Q m rr p => by
  cases rr with
  | nil => exact p.elim
  | cons r1 t =>
    cases t with
    | cons _ _ => exact p.elim
    | nil =>
      obtain ⟨x, e, p⟩ := Post.asGe p
      cases x with
      | list ys =>
        obtain ⟨l, el, p⟩ := Post.ofO p
        obtain ⟨a, vs, rfl, h1, h2⟩ := asG_lst m r1 e
        rw [intsP_rp h2 el] at h1
        exact ⟨a, l, rfl, h1, Post.rt m p _ rpI⟩
      | _ => exact p.elim
def tupL : List Dv → Co Dv := fun ds => match ds with
  | [.g (.tuple xs)] => rt (.g (.tuple xs))
  | [.g (.list xs)] => rt (.g (.tuple xs))
  | [.r i] => atM i fun mo => match mo with
    | .lst xs => rt (mkT xs)
    | _ => fl
  | _ => fl
def rTup (K : PySem.W.Frag) : List V → Hp → VK → Prop := fun xs H Q => ∃ p ys, xs = [.ref p] ∧ ((SqL K H p ys ∧ ∀ l, H l = none → Q (.ref l) (upd H l (.tup ys))) ∨ (SqT K H p ys ∧ Q (.ref p) H))
theorem cs_tup : CaS G E (rTup G.K) tupL := fun ι M H xs ds Q m rr p => by
  cases rr with
  | nil => exact p.elim
  | cons r1 t =>
    cases t with
    | cons _ _ => cases r1 with
      | g r => cases r <;> exact p.elim
      | _ => exact p.elim
    | nil =>
      cases r1 with
      | g r =>
        cases r with
        | @tup a vs xs h r => exact ⟨_, _, rfl, .inr ⟨.of h, Post.rt m p _ (.g (.tup h r))⟩⟩
        | @lst a vs xs h r =>
          refine ⟨_, _, rfl, .inl ⟨h.sq, fun l hl => ?_⟩⟩
          have x2 : Ext G ι H ι M (upd H l (.tup vs)) := .new m hl
          exact Post.rt x2.mem (p.shift x2) _ (.g (.tup upd_same (r.mono x2.keep)))
        | _ => exact p.elim
      | @r a i hi =>
        obtain ⟨mo, e, p2⟩ := Post.atM p
        cases mo with
        | lst xs =>
          obtain ⟨vs, h1, h2⟩ := m.lstE hi e
          refine ⟨_, _, rfl, .inl ⟨.of h1, fun l hl => ?_⟩⟩
          have x2 : Ext G ι H ι M (upd H l (.tup vs)) := .new m hl
          exact Post.rt x2.mem (p2.shift x2) _ (mkT_rp upd_same (h2.mono x2.pre x2.keep))
        | _ => exact p2.elim
      | t h r => exact p.elim
end
section
variable {X : Cx} {G : Gx} {E : XK} {e : Expr} {f : Slots → Co Dv} {pos : Pos}
def ngD : Dv → Co Dv := fun d => bnd (ofO (asI d)) fun i => rt (dI (-i))
theorem xneg (ha : PE X e (rdE G E f)) : PE X (.UnaryOp .USub e pos) (rdE G E (b1 ngD f)) :=
  peI (pe_un un_neg ha) fun σ H Q h => by
    obtain ⟨ι, ρ, M, st, p⟩ := h
    refine ⟨ι, ρ, M, st, (Post.bnd p).mono fun d ι1 M1 H1 x1 p1 v rv => ?_⟩
    obtain ⟨i, e, p2⟩ := Post.ofO p1
    obtain ⟨rfl, rfl⟩ := asI_rp rv e
    exact ⟨i, rfl, Post.rt x1.mem p2 _ rpI⟩
/-! ### isinstance -/
def kn : PyData → String
  | .none => "NoneType"
  | .bool _ => "bool"
  | .int _ => "int"
  | .str _ => "str"
  | .list _ => "list"
  | .tuple _ => "tuple"
  | .dict _ => "dict"
/-- the type's name -/
def knD : Dv → Co String := fun d => match d with
  | .g x => rt (kn x)
  | .t _ => rt "tuple"
  | .r i => atM i fun mo => match mo with
    | .lst _ => rt "list"
    | .dct _ => rt "dict"
    | _ => fl
  | .u => fl
def kns : List String := ["NoneType", "bool", "int", "str", "list", "tuple", "dict"]
theorem kn_mem (x : PyData) : kn x ∈ kns := by cases x <;> simp [kn, kns]
/-- is a value of the type a one of the type T? -/
def isTy (T a : String) : Bool := a == T || (a == "bool" && T == "int")
def okTy (T : String) : Prop := ∀ a ∈ kns, kitB a T = some (isTy T a)
theorem ok_int : okTy "int" := by unfold okTy; decide +kernel
theorem ok_bool : okTy "bool" := by unfold okTy; decide +kernel
theorem ok_tuple : okTy "tuple" := by unfold okTy; decide +kernel
theorem ok_list : okTy "list" := by unfold okTy; decide +kernel
theorem ok_str : okTy "str" := by unfold okTy; decide +kernel
theorem ok_dict : okTy "dict" := by unfold okTy; decide +kernel
theorem knD_rp {K : PySem.W.Frag} {ι : List Addr} {H : Hp} {M : Mem} {v : V} {d : Dv} {a : String} (hK : K = G.K) (m : MemR G ι H M) (r : RpD G ι H v d) (e : knD d M = .ok a M) : TyX K H v (.type a) ∧ a ∈ kns := by
  subst hK
  cases r with
  | g r =>
    cases e
    refine ⟨?_, kn_mem _⟩
    cases r with
    | non => exact .base .non
    | bl b => exact .base (.bl b)
    | int i => exact .base (.int i)
    | str x => exact .base (.str x)
    | lst h r =>
      rcases h with ⟨o, h⟩ | ⟨o, its, n, h1, h2, _⟩
      · exact .base (.frz h)
      · exact .kList h1 h2
    | tup h r => exact .base (.tup h)
    | dct h r => exact .fDict h
  | @r x i hi =>
    unfold knD atM at e
    cases q : M[i]? with
    | none =>
      simp only [q] at e
      cases e
    | some mo =>
      simp only [q] at e
      cases mo with
      | lst xs =>
        cases e
        obtain ⟨vs, h1, _⟩ := m.lstE hi q
        exact ⟨.base (.lst h1), by simp [kns]⟩
      | dct xs =>
        cases e
        obtain ⟨vs, h1, _⟩ := m.dctE hi q
        exact ⟨.base (.dK h1), by simp [kns]⟩
      | _ => cases e
  | t h r =>
    cases e
    exact ⟨.base (.tup h), by simp [kns]⟩
theorem knD_ok {d : Dv} {M : Mem} : knD d M = .fail ∨ ∃ a, knD d M = .ok a M := by
  cases d with
  | g x => exact .inr ⟨_, rfl⟩
  | t xs => exact .inr ⟨_, rfl⟩
  | u => exact .inl rfl
  | r i =>
    show atM i _ M = _ ∨ ∃ a, atM i _ M = _
    unfold atM
    cases q : M[i]? with
    | none => exact .inl rfl
    | some mo =>
      cases mo with
      | lst xs => exact .inr ⟨_, rfl⟩
      | dct xs => exact .inr ⟨_, rfl⟩
      | _ => exact .inl rfl
def isi (T : String) (f : Slots → Co Dv) : Slots → Co Dv := fun ρ => bnd (f ρ) fun d => bnd (knD d) fun a => rt (vB (isTy T a))
theorem xisi {T : String} {x : Str} {p p2 : Pos} (hK : X.K = G.K) (hT : okTy T) (hv : bootBuiltins x = some (.type T)) (hmx : X.mg x = none) (hgx : Gl X x) (hg : Gl X "isinstance") (hm : X.mg "isinstance" = none) (he : PE X e (rdE G E f)) (hn : x ≠ "__name__" := by decide) (hd : (x == ("__debug__" : Str)) = false := by decide)
    (hs1 : starEach [e, .Name x p2] X.env = (false, eval e X.env) :: starEach [.Name x p2] X.env := by rfl) (hs2 : starEach [.Name x p2] X.env = (false, eval (.Name x p2) X.env) :: starEach [] X.env := by rfl) (hpl : (backTo pos (starEach [.Name x p2] X.env)).any (·.1) = false := by rfl) :
    PE X (.Call (.Name "isinstance" p) [e, .Name x p2] [] pos) (rdE G E (isi T f)) :=
  peI (pe_callB call_isi hg hm (show bootBuiltins "isinstance" = some (.builtin "isinstance") from rfl) (pa_cons he (pa_cons (pe_bltn (v := .ty T) hgx hmx hv rfl hn hd) pa_nil hs2) hs1) (by decide) (by decide) hs1 hpl) fun σ H Q h => by
    obtain ⟨ι, ρ, M, st, p⟩ := h
    refine ⟨ι, ρ, M, st, (Post.bnd p).mono fun d ι1 M1 H1 x1 p1 v rv => ?_⟩
    rcases knD_ok (d := d) (M := M1) with q | ⟨a, q⟩
    · have p2 := Post.bnd p1
      rw [q] at p2
      exact p2.elim
    · obtain ⟨t1, t2⟩ := knD_rp hK x1.mem rv q
      have p2 := Post.bnd p1
      rw [q] at p2
      exact ⟨v, .ty T, .type a, .type T, isTy T a, rfl, .ty T, t1, kit_ty (hT a t2), Post.rt x1.mem (p2 ι1 H1 (.refl x1.mem)) _ rpB⟩
/-- isinstance(x, (T, U)) -/
def isi2 (T U : String) (f : Slots → Co Dv) : Slots → Co Dv := fun ρ => bnd (f ρ) fun d => bnd (knD d) fun a => rt (vB (isTy T a || isTy U a))
theorem xisi2 {T U : String} {x y : Str} {p p2 p3 p4 : Pos} {kk} (hK : X.K = G.K) (hT : okTy T) (hU : okTy U) (hv : bootBuiltins x = some (.type T)) (hw : bootBuiltins y = some (.type U)) (hmx : X.mg x = none) (hmy : X.mg y = none) (hgx : Gl X x) (hgy : Gl X y) (hg : Gl X "isinstance") (hm : X.mg "isinstance" = none) (he : PE X e (rdE G E f))
    (hn : x ≠ "__name__" := by decide) (hd : (x == ("__debug__" : Str)) = false := by decide) (hn2 : y ≠ "__name__" := by decide) (hd2 : (y == ("__debug__" : Str)) = false := by decide)
    (hs1 : starEach [e, .Tuple [.Name x p2, .Name y p3] kk p4] X.env = (false, eval e X.env) :: starEach [.Tuple [.Name x p2, .Name y p3] kk p4] X.env := by rfl) (hs2 : starEach [.Tuple [.Name x p2, .Name y p3] kk p4] X.env = (false, eval (.Tuple [.Name x p2, .Name y p3] kk p4) X.env) :: starEach [] X.env := by rfl) (hpl : (backTo pos (starEach [.Tuple [.Name x p2, .Name y p3] kk p4] X.env)).any (·.1) = false := by rfl)
    (hs3 : starEach [.Name x p2, .Name y p3] X.env = (false, eval (.Name x p2) X.env) :: starEach [.Name y p3] X.env := by rfl) (hs4 : starEach [.Name y p3] X.env = (false, eval (.Name y p3) X.env) :: starEach [] X.env := by rfl) :
    PE X (.Call (.Name "isinstance" p) [e, .Tuple [.Name x p2, .Name y p3] kk p4] [] pos) (rdE G E (isi2 T U f)) :=
  peI (pe_callB call_isiT hg hm (show bootBuiltins "isinstance" = some (.builtin "isinstance") from rfl) (pa_cons he (pa_cons (pe_tup (pa_cons (pe_bltn (v := .ty T) hgx hmx hv rfl hn hd) (pa_cons (pe_bltn (v := .ty U) hgy hmy hw rfl hn2 hd2) pa_nil hs4) hs3)) pa_nil hs2) hs1) (by decide) (by decide) hs1 hpl) fun σ H Q h => by
    obtain ⟨ι, ρ, M, st, p⟩ := h
    refine ⟨ι, ρ, M, st, (Post.bnd p).mono fun d ι1 M1 H1 x1 p1 v rv => ?_⟩
    rcases knD_ok (d := d) (M := M1) with q | ⟨a, q⟩
    · have p2 := Post.bnd p1
      rw [q] at p2
      exact p2.elim
    · refine ⟨(by rw [sizeLine_eq]; show 2 ≤ 16777216; omega), fun tp htp => ?_⟩
      have x2 : Ext G ι1 H1 ι1 M1 (upd H1 tp (.tup [.ty T, .ty U])) := .new x1.mem htp
      obtain ⟨t1, t2⟩ := knD_rp hK x2.mem (rv.mono x2.pre x2.keep) q
      have p2 := Post.bnd p1
      rw [q] at p2
      refine ⟨v, tp, [.ty T, .ty U], .type a, [.type T, .type U], (isTy T a || isTy U a), rfl, upd_same, .cons (.ty T) (.cons (.ty U) .nil), t1, kitAny_cons (kit_ty (hT a t2)) (fun z => ?_) (fun z => by rw [z]; rfl), Post.rt x2.mem (p2 ι1 _ x2) _ rpB⟩
      rw [z, Bool.false_or]
      refine kitAny_cons (kit_ty (hU a t2)) (fun w => ?_) (fun w => w)
      rw [w]
      exact kitAny_nil
end
end Xt
set_option Elab.async false
set_option linter.all false
set_option maxRecDepth 100000
set_option maxHeartbeats 1000000
namespace Xt
open PySem PySem.Spec PyProof.Rows L2
/-! ### name = [..] -/
section
variable {X : Cx} {G : Gx} {E : XK} {pos p : Pos} {tg : Expr}
/-- a list made by a statement may be locked behind it -/
theorem rd_lcs {i : Nat} {src : Slots → Co (List Dv)} {tf : Dv → Slots → Co Slots} {tt : Slots → Co Bool} {te : Slots → Co Dv} {g : TG} {t : TT} {own : List Nat} (hg : TgS G E0 own g tf) (ht : PtS G E0 t tt) {σ : L2.St} {H : Hp} {D : Ends} (h : rdS G E (asg (lcX own src tf tt te) (tN i)) D σ H) :
    tLc (rdI G E src) g t (rdE G E0 te) own σ H (VF fun v H' => D.nx (σ.set i (some v)) H') := by
  obtain ⟨ι, ρ, M, st, p⟩ := h
  refine rd_lc hg ht ⟨ι, ρ, M, st, (Post.bnd p).mono fun d ι1 M1 H1 x1 p1 v rv => ?_⟩
  exact Post.rt x1.mem (Post.rt x1.mem (Post.bnd p1)) _ ((st.ext x1).set i rv)
theorem tLc_mono {src : Slots → Co (List Dv)} {g : TG} {t : TT} {te : TE} {own : List Nat} {σ : L2.St} {H : Hp} {Q Q' : VK} (h : tLc (rdI G E src) g t te own σ H Q) (k : ∀ v H, Q v H → Q' v H) : tLc (rdI G E src) g t te own σ H Q' := by
  obtain ⟨ι, ρ, M, st, p⟩ := h
  refine ⟨ι, ρ, M, st, p.mono fun ds ι1 M1 H1 x1 q J wk D hD => ?_⟩
  obtain ⟨W, w0, turn⟩ := q J wk D hD
  exact ⟨W, w0, fun i m H w => (turn i m H w).imp (fun z => ⟨z.1, k _ _ z.2⟩) id⟩
/-- name = [..] on one line, the name a plain local: the list is locked -/
theorem xsetlc {i : Nat} {y : Str} {py : Pos} {elt iter : Expr} {ifs : List Expr} {scope : Scope} {spos : Pos} {own : List (Str × Nat)} {src : Slots → Co (List Dv)} {tf : Dv → Slots → Co Slots} {tt : Slots → Co Bool} {te : Slots → Co Dv} {g : TG} {t : TT} (hc : X.calm = true) (hN : X.N.Nodup) (hy : X.N[i]? = some y) (hyl : X.env.scope.names.lookup y = some .local)
    (hsw : swapsWith (.ListComp elt [⟨tg, iter, ifs, 0⟩] scope pos) (some (.Name y py)) spos.line X.env = pure true) (hi : PI X tg iter (rdI G E src)) (ok : BlkOk X.N X.env.scope scope own)
    (tg_ : TgS G E0 (own.map (·.2)) g tf) (pt_ : PtS G E0 t tt) (hg : ∀ (s : Shared) (H : Hp) (C : Addr) (cl : List (Str × Addr)) (fp : List Addr), PG (X.blk s H scope (compEnvC scope cl C X.env) fp) tg g) (ht : ∀ (s : Shared) (H : Hp) (C : Addr) (cl : List (Str × Addr)) (fp : List Addr), PTs (X.blk s H scope (compEnvC scope cl C X.env) fp) ifs t)
    (he : ∀ (s : Shared) (H : Hp) (C : Addr) (cl : List (Str × Addr)) (fp : List Addr), PE (X.blk s H scope (compEnvC scope cl C X.env) fp) elt (rdE G E0 te)) (hs : ∀ x, foldedSetIterable iter X.env x = pure x := by intro _; rfl) :
    PS X (.Assign [.Name y py] (.ListComp elt [⟨tg, iter, ifs, 0⟩] scope pos) spos) (rdS G E (asg (lcX (own.map (·.2)) src tf tt te) (tN i))) := by
  refine ⟨fun pins s σ H D I z => ?_⟩
  have z1 := rd_lcs tg_ pt_ z
  refine thn ((ps_setLc hc hN hy hyl hsw hi ok hg ht he hs).run pins s σ H { D with nx := fun σ' H' => ∃ v, σ' = σ.set i (some v) ∧ VF (fun v H' => D.nx (σ.set i (some v)) H') v H' } I (tLc_mono z1 fun v H' q => ⟨v, rfl, q⟩)) fun f s1 q => ?_
  cases f with
  | next =>
    obtain ⟨σ1, H1, I1, v, rfl, q⟩ := q
    rcases q with q | ⟨d, u, rfl, hd, mu, q⟩
    · exact ⟨_, H1, I1, q⟩
    · obtain ⟨od, I2⟩ := I1.lock hd mu
      exact ⟨_, _, I2, q od⟩
  | brk => exact q
  | cont => exact q
  | ret u => exact q
end
/-! ### sorted(d.items()): int keys, int values -/
/-- a context in a built-in's around -/
def inX (X : Cx) : Cx := { X with A := X.A.in1 }
theorem Inv.inX {X : Cx} {pins : List (Addr × Obj)} {σ : L2.St} {H : Hp} {s : Shared} (I : Inv X pins σ H s) : Inv (Xt.inX X) pins σ H s :=
  ⟨⟨I.ok.mod, I.ok.kind, I.ok.glob, I.ok.blt, I.ok.above, I.ok.inj, I.ok.has, I.ok.cab, I.ok.hd, I.ok.frames, I.ok.stk, I.ok.exf, I.ok.bs, I.ok.bsz, I.ok.noex, I.ok.exfs, I.ok.funs, I.ok.frf⟩, I.os, I.bare, I.base, I.loc, I.cell, I.free, I.freeC, I.pin, I.hok, I.len⟩
theorem Inv.outX {X : Cx} {pins : List (Addr × Obj)} {σ : L2.St} {H : Hp} {s : Shared} (I : Inv (Xt.inX X) pins σ H s) : Inv X pins σ H s :=
  ⟨⟨I.ok.mod, I.ok.kind, I.ok.glob, I.ok.blt, I.ok.above, I.ok.inj, I.ok.has, I.ok.cab, I.ok.hd, I.ok.frames, I.ok.stk, I.ok.exf, I.ok.bs, I.ok.bsz, I.ok.noex, I.ok.exfs, I.ok.funs, I.ok.frf⟩, I.os, I.bare, I.base, I.loc, I.cell, I.free, I.freeC, I.pin, I.hok, I.len⟩
section
variable {X : Cx}
/-- the pairs by their ints -/
def entI (e : Int × Int) : Key × V := (.inl e.1, .int e.2)
def pk (e : Int × Int) : List V := [.int e.1, .int e.2]
/-- d.items() of a locked dict -/
def rItemsF : V → List V → Hp → VK → Prop := fun x xs H Q => ∃ (a : Addr) (o : Obj) (kvs : List (Key × V)), x = .ref a ∧ xs = [] ∧ H a = some (.frz o (.dK kvs)) ∧ ∀ p, H p = none → Q (.ref p) (upd H p (DX.itemsO p a))
theorem mt_itemsF : MtR X "dict.items" rItemsF := by
  intro pins s σ H x xs v us Q I rx rxs h
  obtain ⟨a, ob, kvs, rfl, rfl, ha, q⟩ := h
  cases rx
  cases rxs
  obtain ⟨z, hd, vs, rel, o, es, ep, ho, hx, hdat, _⟩ := dk_rd I.hok (.inr ⟨ob, ha⟩)
  refine DT.callItems (es := es) (ep := ep) hd ⟨o, ho, hx, hdat⟩ ?_
  have hf : H s.heap.objs.size = none := I.hok.fresh (Nat.le_refl _)
  exact ⟨.ref s.heap.objs.size, upd H s.heap.objs.size (DX.itemsO s.heap.objs.size a), I.laid (t' := s.toks) (fun b u e => Heap.get?_push_of_some _ e) (Nat.le_refl _) (DX.itemsO_ok (Heap.get?_push_size _ rfl)), rfl, q _ hf⟩
end
end Xt
set_option Elab.async false
set_option linter.all false
set_option maxRecDepth 100000
set_option maxHeartbeats 1000000
namespace Xt
open PySem PySem.Spec PyProof.Rows L2
/-! ### pairs of ints in order -/
def insP (e : Int × Int) : List (Int × Int) → List (Int × Int)
  | [] => [e]
  | x :: r => (match SrtO.lexB x e with
    | true => x :: insP e r
    | false => e :: x :: r)
def sortP : List (Int × Int) → List (Int × Int)
  | [] => []
  | e :: r => insP e (sortP r)
theorem insP_perm (e : Int × Int) : ∀ l, (insP e l).Perm (e :: l)
  | [] => List.Perm.refl _
  | x :: r => by
    unfold insP
    cases SrtO.lexB x e with
    | true => exact ((insP_perm e r).cons x).trans (List.Perm.swap e x r)
    | false => exact List.Perm.refl _
theorem sortP_perm : ∀ l, (sortP l).Perm l
  | [] => List.Perm.refl _
  | e :: r => (insP_perm e (sortP r)).trans ((sortP_perm r).cons e)
theorem lex_tr {a b c : Int × Int} (h1 : SrtO.lexB b a = false) (h2 : SrtO.lexB c b = false) : SrtO.lexB c a = false := by
  have x := SrtO.lexB_no.mp h1
  have y := SrtO.lexB_no.mp h2
  refine SrtO.lexB_no.mpr ?_
  omega
theorem lex_as {a b : Int × Int} (h : SrtO.lexB a b = true) : SrtO.lexB b a = false := by
  have x := SrtO.lexB_iff.mp h
  refine SrtO.lexB_no.mpr ?_
  omega
theorem insP_srtd (e : Int × Int) : ∀ {l}, SrtO.Srtd SrtO.lexB l → SrtO.Srtd SrtO.lexB (insP e l)
  | [], _ => List.pairwise_singleton _ _
  | x :: r, h => by
    obtain ⟨h1, h2⟩ := List.pairwise_cons.mp h
    unfold insP
    cases q : SrtO.lexB x e with
    | true =>
      refine List.pairwise_cons.mpr ⟨fun y hy => ?_, insP_srtd e h2⟩
      rcases List.mem_cons.mp ((insP_perm e r).mem_iff.mp hy) with z | z
      · rw [z]
        exact lex_as q
      · exact h1 y z
    | false =>
      refine List.pairwise_cons.mpr ⟨fun y hy => ?_, h⟩
      rcases List.mem_cons.mp hy with z | z
      · rw [z]
        exact q
      · exact lex_tr q (h1 y z)
theorem sortP_srtd : ∀ l, SrtO.Srtd SrtO.lexB (sortP l)
  | [] => List.Pairwise.nil
  | e :: r => insP_srtd e (sortP_srtd r)
theorem sortP_uniq {l m : List (Int × Int)} (h : l.Perm m) (s : SrtO.Srtd SrtO.lexB l) : l = sortP m := by
  refine List.Perm.eq_of_pairwise (fun a b _ _ h1 h2 => ?_) s (sortP_srtd m) (h.trans (sortP_perm m).symm)
  have x := SrtO.lexB_no.mp h1
  have y := SrtO.lexB_no.mp h2
  exact Prod.ext (by omega) (by omega)
/-! ### sorted(d.items()) -/
theorem Ext.more {G : Gx} {ι : List Addr} {H H' : Hp} {M : Mem} (m : MemR G ι H M) (k : ∀ b o, H b = some o → H' b = some o) : Ext G ι H ι M H' where
  pre := List.prefix_refl _
  mem := ⟨m.len, m.nd, fun i a mo h1 h2 => by
    obtain ⟨u, hu⟩ := m.at (List.mem_of_getElem? h1)
    exact (m.ob i a mo h1 h2).mono (List.prefix_refl _) ⟨fun b o u e => k b _ e, fun b xs e => k b _ e⟩ ((k a u hu).trans hu.symm), fun P hP => by
    obtain ⟨ps, h, t⟩ := m.tab P hP
    exact ⟨ps, k P _ h, t⟩⟩
  keep := ⟨fun b o u e => k b _ e, fun b xs e => k b _ e⟩
  frame := fun b o h _ _ => k b o h
  tbl := fun b ps h => ⟨ps, k b _ h⟩
  fresh := fun a h n => absurd h n
section
variable {X : Cx}
def rSortF : List V → Hp → VK → Prop := fun vs H Q => ∃ (p a : Addr) (o : Obj) (ks : List (Int × Int)), vs = [.ref p] ∧ H p = some (DX.itemsO p a) ∧ H a = some (.frz o (.dK (ks.map entI))) ∧ ks.length ≤ 10000 ∧
  ∀ (H2 : Hp) (l : Addr) (zs : List Addr), (∀ b o, H b = some o → H2 b = some o) → H l = none → H2 l = none → zs.length = (sortP ks).length → (∀ (j : Nat) (z : Addr) (e : Int × Int), zs[j]? = some z → (sortP ks)[j]? = some e → H2 z = some (.tup (pk e))) →
    Q (.ref l) (upd H2 l (.lst (zs.map V.ref)))
theorem cr_sortedF (hc : X.calm = true) : CallR X (.builtin "sorted") rSortF := by
  intro pins s σ H xs us Q I r h
  obtain ⟨p, a, ob, ks, rfl, hp, ha, hlen, q⟩ := h
  obtain rfl := Vals.ref1 r
  have view : s.heap.IsItemsView p a := (show ObjOk X.prog X.w H s.heap p (DX.itemsO p a) from I.hok p _ hp).1
  obtain ⟨z, hd, vs, rel, o, es, ep, ho, hx, hdat, hkeys, hpairs, hnd⟩ := dk_rd I.hok (.inr ⟨ob, ha⟩)
  have l1 : (ks.map entI).length = vs.length := KV.length rel
  rw [List.length_map] at l1
  have l2 : es.size = vs.length := by
    have e := hpairs.length
    rw [Array.length_toList] at e
    exact e
  have hh : X.A.handled = none := I.ok.hd hc
  refine DT.sortedI (es := es) (ep := ep) hh view ⟨o, ho, hx, hdat⟩ (by rw [sizeLine_eq]; omega) fun h' tk as hk hlt hl hG => ?_
  have lak : as.length = ks.length := by omega
  have nd : as.Nodup := List.Pairwise.imp (fun h => Nat.ne_of_lt h) hG.rise
  -- the pairs
  have pr : ∀ (j : Nat) (b : Addr), as[j]? = some b → ∃ (e : Int × Int) (t1 t2 : Tok), ks[j]? = some e ∧ h'.get? b = some { cls := .type "tuple", data := .seq #[Value.int e.1 t1, Value.int e.2 t2] } := by
    intro j b hj
    obtain ⟨en, he, hg⟩ := hG.pairs j b hj
    have hjl : j < ks.length := by
      have := (List.getElem?_eq_some_iff.mp hj).1
      omega
    have hv : j < vs.length := by omega
    have hent : (ks.map entI)[j]? = some (entI ks[j]) := by
      rw [List.getElem?_map, List.getElem?_eq_getElem hjl]
      rfl
    obtain ⟨q0, hq0, r1, r2⟩ := DX.pget rel (List.getElem?_eq_getElem hv)
    rw [hent] at hq0
    cases hq0
    have he' : es.toList[j]? = some en := by
      rw [Array.getElem?_toList]
      exact he
    have r1' : (entI ks[j]).1 = vs[j].1 := r1
    have hvs : vs[j]? = some (vs[j].1, vs[j].2) := List.getElem?_eq_getElem hv
    obtain ⟨k1, k2⟩ := Pairs.get? hpairs he' hvs
    rw [← r1'] at k1
    obtain ⟨t1, e1⟩ := Value.isInt_shape (k := ks[j].1) (v := en.key) k1
    have r2' : RelV (V.int ks[j].2) vs[j].2 := r2
    obtain ⟨t2, e2⟩ := r2'
    refine ⟨ks[j], t1, t2, List.getElem?_eq_getElem hjl, ?_⟩
    rw [hg, e1, k2, e2]
  -- list and tuples are tracked
  have hob : (h'.push { cls := .type "list", data := .seq (as.map Value.ref).toArray }).get? h'.objs.size = some { cls := .type "list", data := .seq (as.map Value.ref).toArray } := Heap.get?_push_size _ rfl
  have kb : ∀ b o, s.heap.get? b = some o → (h'.push { cls := .type "list", data := .seq (as.map Value.ref).toArray }).get? b = some o := fun b o e => Heap.get?_push_of_some _ (hk b o e)
  have ne0 : ∀ b o, h'.get? b = some o → b ≠ h'.objs.size := fun b o e => Nat.ne_of_lt (Heap.lt_size e)
  have hn0 : H h'.objs.size = none := I.hok.fresh (Nat.le_of_lt hlt)
  have I1 : Inv X pins σ H { s with heap := h'.push { cls := .type "list", data := .seq (as.map Value.ref).toArray }, toks := tk } := I.kept (t' := tk) kb
  have hlen2 : (as.map V.ref).length ≤ sizeLine := by
    rw [List.length_map, sizeLine_eq]
    omega
  have I2 : Inv X pins σ (upd H h'.objs.size (.lst (as.map V.ref))) { s with heap := h'.push { cls := .type "list", data := .seq (as.map Value.ref).toArray }, toks := tk } :=
    I1.take (h' := h'.push { cls := .type "list", data := .seq (as.map Value.ref).toArray }) (t' := tk) (fun b ob _ e => e) (I.fpOk (Nat.le_of_lt hlt) hn0) ⟨hlen2, as.map Value.ref, 0, vals_maps V.ref Value.ref as fun _ _ => rfl, hob⟩
  obtain ⟨H2, I3, g0, qt⟩ := DX.takeT (P := fun b ws => ∃ (j : Nat) (e : Int × Int), as[j]? = some b ∧ ks[j]? = some e ∧ ws = pk e) I as _ I2 nd fun b hb => by
    obtain ⟨j, hj⟩ := List.mem_iff_getElem?.mp hb
    obtain ⟨e, t1, t2, he, hg⟩ := pr j b hj
    have hbl : s.heap.objs.size ≤ b := Nat.le_of_lt (hG.above b hb)
    refine ⟨hbl, ?_, pk e, ⟨j, e, hj, he, rfl⟩, fun H3 => ⟨(by rw [sizeLine_eq]; show 2 ≤ 16777216; omega), [Value.int e.1 t1, Value.int e.2 t2], .cons ⟨t1, rfl⟩ (.cons ⟨t2, rfl⟩ .nil), ⟨_, Heap.get?_push_of_some _ hg, rfl, 0, rfl⟩⟩⟩
    rw [upd_ne (ne0 _ _ hg)]
    exact I.hok.fresh hbl
  have g : ∀ b o, H b = some o → H2 b = some o := fun b o e => g0 b o (by rw [upd_ne (ne_of_none e hn0)]; exact e)
  have hl2 : H2 h'.objs.size = some (.lst (as.map V.ref)) := g0 _ _ upd_same
  -- the key of a pair
  have kk : ∀ (j : Nat) (b : Addr), as[j]? = some b → ∃ e, ks[j]? = some e ∧ H2 b = some (.tup (pk e)) := fun j b hj => by
    obtain ⟨ws, ⟨i, e, i1, i2, rfl⟩, hH⟩ := qt b (List.mem_of_getElem? hj)
    have eij : i = j := (List.getElem?_inj (List.getElem?_eq_some_iff.mp i1).1 nd).mp (i1.trans hj.symm)
    subst eij
    exact ⟨e, i2, hH⟩
  let kf : V → Int × Int := fun x => match x with
    | .ref b => (match H2 b with
      | some (.tup [.int i, .int j]) => (i, j)
      | _ => (0, 0))
    | _ => (0, 0)
  have kfe : ∀ (b : Addr) (e : Int × Int), H2 b = some (.tup (pk e)) → kf (.ref b) = e := fun b e h => by
    show (match H2 b with | some (.tup [.int i, .int j]) => (i, j) | _ => (0, 0)) = e
    rw [h]
    rfl
  have kfs : (as.map V.ref).map kf = ks := by
    refine List.ext_getElem? fun j => ?_
    rw [List.map_map, List.getElem?_map]
    cases ej : as[j]? with
    | none =>
      have : ks.length ≤ j := by
        rw [← lak]
        exact List.getElem?_eq_none_iff.mp ej
      rw [List.getElem?_eq_none this]
      rfl
    | some b =>
      obtain ⟨e, he, hH⟩ := kk j b ej
      rw [he]
      exact congrArg some (kfe b e hH)
  have neT : ∀ b e, H2 b = some (.tup e) → b ≠ h'.objs.size := fun b e h z => by
    rw [z, hl2] at h
    cases h
  refine thn (mt_sortPO (X := inX X) pins _ σ _ (.ref h'.objs.size) [] (.ref h'.objs.size) [] _ (Inv.inX I3) rfl .nil ⟨h'.objs.size, as.map V.ref, kf, rfl, rfl, hl2, fun y hy => ?_, fun zs hs hb => ?_⟩) fun u s' ⟨v, H', I', rv, qv⟩ => ⟨.ref h'.objs.size, H', Inv.outX I', rfl, qv⟩
  · obtain ⟨b, hb, rfl⟩ := List.mem_map.mp hy
    obtain ⟨j, hj⟩ := List.mem_iff_getElem?.mp hb
    obtain ⟨e, _, hH⟩ := kk j b hj
    refine ⟨b, rfl, ?_⟩
    rw [kfe b e hH]
    exact hH
  · -- the sorted list
    have hz : ∃ bs : List Addr, zs = bs.map V.ref := by
      have all : ∀ x ∈ zs, ∃ b, x = V.ref b := fun x hx => by
        obtain ⟨b, _, e⟩ := List.mem_map.mp (hb.perm.mem_iff.mp hx)
        exact ⟨b, e.symm⟩
      clear hs hb
      induction zs with
      | nil => exact ⟨[], rfl⟩
      | cons x r ih =>
        obtain ⟨b, rfl⟩ := all x List.mem_cons_self
        obtain ⟨bs, e⟩ := ih fun y hy => all y (List.mem_cons_of_mem _ hy)
        exact ⟨b :: bs, by rw [e]; rfl⟩
    obtain ⟨bs, rfl⟩ := hz
    have hp1 : ((bs.map V.ref).map kf).Perm ks := by
      rw [← kfs]
      exact hb.perm.map kf
    have hs1 : SrtO.Srtd SrtO.lexB ((bs.map V.ref).map kf) := List.pairwise_map.mpr hs
    have hu := sortP_uniq hp1 hs1
    have eh : upd H2 h'.objs.size (.lst (bs.map V.ref)) = upd (hid H2 h'.objs.size) h'.objs.size (.lst (bs.map V.ref)) := by
      funext b
      by_cases e : b = h'.objs.size
      · rw [e, upd_same, upd_same]
      · rw [upd_ne e, upd_ne e, hid_ne e]
    rw [eh]
    refine q (hid H2 h'.objs.size) h'.objs.size bs (fun b o e => by rw [hid_ne (ne_of_none e hn0)]; exact g b o e) hn0 hid_at ?_ fun j z e hj he => ?_
    · have e := congrArg List.length hu
      rw [List.length_map, List.length_map] at e
      exact e
    · rw [← hu, List.map_map, List.getElem?_map, hj] at he
      have he' : kf (.ref z) = e := Option.some.inj he
      have hm : V.ref z ∈ as.map V.ref := hb.perm.mem_iff.mp (List.mem_map.mpr ⟨z, List.mem_of_getElem? hj, rfl⟩)
      obtain ⟨b, hb2, eb⟩ := List.mem_map.mp hm
      cases eb
      obtain ⟨i, hi⟩ := List.mem_iff_getElem?.mp hb2
      obtain ⟨e2, _, hH⟩ := kk i z hi
      rw [kfe z e2 hH] at he'
      rw [← he', hid_ne (neT z _ hH)]
      exact hH
end
end Xt
set_option Elab.async false
set_option linter.all false
set_option maxRecDepth 100000
set_option maxHeartbeats 1000000
namespace Xt
open PySem PySem.Spec PyProof.Rows L2
section
variable {X : Cx} {G : Gx} {E : XK} {e o : Expr} {f : Slots → Co Dv} {to : TE} {pos p apos cpos : Pos}
theorem pe_itemsF (ho : PE X o to) (hbase : attributeBase o "items" X.env (eval o X.env) = eval o X.env := by rfl) (hline : (apos.endLine == cpos.line) = true := by rfl) :
    PE X (.Call (.Attribute o "items" apos) [] [] cpos) (fun σ H Q => to σ H fun x H1 => rItemsF x [] H1 Q) := by
  refine ⟨fun pins s σ H Q I h => ?_⟩
  refine wpAny_Call_method0_late hbase hline (thn (ho.run pins s σ H _ I h) fun v s1 ⟨x, H1, I1, r1, q1⟩ => ?_)
  obtain ⟨a, ob, kvs, rfl, _, ha, q⟩ := id q1
  cases r1
  obtain ⟨_, _, vs, _, oo, es, ep, e0, ex, _⟩ := dk_rd I1.hok (.inr ⟨ob, ha⟩)
  exact ⟨"dict", "dict.items", PySem.F.plainAttrs_dict, PySem.F.slot_dict_items, PySem.F.type_dict_items, ⟨oo, e0, ex.1⟩, fun b eb => (by cases eb; exact ⟨oo, e0, ex.2.1⟩), Calls.callWith_builtin rfl (PySem.evalArgs_none (mt_itemsF pins s1 σ H1 (.ref a) [] (.ref a) [] Q I1 rfl .nil q1))⟩
def intsK : List (PyData × PyData) → Option (List (Int × Int))
  | [] => some []
  | (.int i, .int j) :: r => (match intsK r with
    | some l => some ((i, j) :: l)
    | none => none)
  | _ => none
def pkD (e : Int × Int) : PyData := .tuple [.int e.1, .int e.2]
def srtI (f : Slots → Co Dv) : Slots → Co Dv := fun ρ => bnd (f ρ) fun d => match d with
  | .g (.dict kds) => bnd (ofO (intsK kds)) fun ks => chk (Nat.ble ks.length 10000) (newL ((sortP ks).map fun e => .g (pkD e)))
  | _ => fl
theorem intsK_rp {K : PySem.W.Frag} {H : Hp} : ∀ {kvs : List (Key × V)} {kds : List (PyData × PyData)} {ks : List (Int × Int)}, RpKs K H kvs kds → intsK kds = some ks → kvs = ks.map entI
  | _, [], _, .nil, e => by
    cases e
    rfl
  | _, (.int i, d) :: r, ks, .cons h q, e => by
    cases d with
    | int j =>
      unfold intsK at e
      cases z : intsK r with
      | none =>
        rw [z] at e
        cases e
      | some l =>
        rw [z] at e
        cases e
        cases h
        rw [intsK_rp q z]
        rfl
    | _ => cases e
theorem pairs_rp {ι : List Addr} {H : Hp} : ∀ {zs : List Addr} {es : List (Int × Int)}, zs.length = es.length → (∀ (j : Nat) (z : Addr) (e : Int × Int), zs[j]? = some z → es[j]? = some e → H z = some (.tup (pk e))) → RpDs G ι H (zs.map V.ref) (es.map fun e => Dv.g (pkD e))
  | [], [], _, _ => .nil
  | [], _ :: _, h, _ => by cases h
  | _ :: _, [], h, _ => by cases h
  | z :: zs, e :: es, h, k => .cons (.g (.tup (k 0 z e rfl rfl) (.cons (.int e.1) (.cons (.int e.2) .nil)))) (pairs_rp (Nat.succ.inj h) fun j z' e' h1 h2 => k (j + 1) z' e' h1 h2)
/-- sorted(e.items()) -/
theorem xsit (hc : X.calm = true) (hg : Gl X "sorted") (hm : X.mg "sorted" = none) (he : PE X e (rdE G E f)) (hbase : attributeBase e "items" X.env (eval e X.env) = eval e X.env := by rfl) (hline : (apos.endLine == cpos.line) = true := by rfl)
    (hs : starEach [.Call (.Attribute e "items" apos) [] [] cpos] X.env = (false, eval (.Call (.Attribute e "items" apos) [] [] cpos) X.env) :: starEach [] X.env := by rfl) (hpl : (backTo pos (starEach [] X.env)).any (·.1) = false := by rfl) :
    PE X (.Call (.Name "sorted" p) [.Call (.Attribute e "items" apos) [] [] cpos] [] pos) (rdE G E (srtI f)) :=
  peI (pe_callB (cr_sortedF hc) hg hm (show bootBuiltins "sorted" = some (.builtin "sorted") from rfl) (pa_cons (pe_itemsF he hbase hline) pa_nil hs) (by decide) (by decide) hs hpl) fun σ H Q h => by
    obtain ⟨ι, ρ, M, st, p⟩ := h
    refine ⟨ι, ρ, M, st, (Post.bnd p).mono fun d ι1 M1 H1 x1 p1 v rv => ?_⟩
    cases rv with
    | g rv =>
      cases rv with
      | @dct a o kvs kds h r =>
        obtain ⟨ks, ek, p2⟩ := Post.ofO p1
        obtain ⟨c, p3⟩ := Post.chk p2
        have ev := intsK_rp r ek
        subst ev
        refine ⟨a, o, _, rfl, rfl, h, fun q hq => ⟨q, a, o, ks, rfl, upd_same, ?_, Nat.le_of_ble_eq_true c, fun H2 l zs k hl1 hl2 hzl hz => ?_⟩⟩
        · rw [upd_ne (ne_of_none h hq)]
          exact h
        · have x2 : Ext G ι1 H1 ι1 M1 H2 := (Ext.new x1.mem hq).trans (.more (Ext.new x1.mem hq).mem k)
          have x3 : Ext G ι1 H2 (ι1 ++ [l]) (M1 ++ [.lst ((sortP ks).map fun e => .g (pkD e))]) (upd H2 l (.lst (zs.map V.ref))) := .alloc x2.mem hl2 ⟨_, upd_same, (pairs_rp hzl hz).mono (List.prefix_append _ _) (keep_new hl2)⟩
          refine p3 _ _ (x2.trans x3) _ (.r ?_)
          rw [← x1.mem.len]
          exact get_last _ _
      | _ => exact p1.elim
    | r _ => exact p1.elim
    | t _ _ => exact p1.elim
/-! ### comprehension tests, targets -/
theorem pts1 {c : Expr} {tt : Slots → Co Bool} (h : PT X c (rdT G E tt)) : PTs X [c] (rdT G E tt) := pts_one h
/-- a bool-valued expression, as a test -/
theorem xtv {a : Expr} (ha : PE X a (rdE G E f)) (he : ∀ whole, isTrue a X.env whole = (do let v ← whole; standAt a.pos; holding [v] (truthy v)) := by intro _; rfl) (hK : X.K = G.K) : PT X a (rdT G E (fun ρ => bnd (f ρ) tru)) := xtru hK ha he
end
end Xt
set_option Elab.async false
set_option linter.all false
set_option maxRecDepth 100000
set_option maxHeartbeats 1000000
namespace Xt
open PySem PySem.Spec PyProof.Rows L2
/-! ### defs with a table of code objects -/
structure Tb (base : Heap) (G : Gx) (x : Str) : Prop where
  tb : LamX.TabB base G.mg (He.cT G.K (x, none)).1 (He.cT G.K (x, none)).2
  mem : (He.cT G.K (x, none)).2 ∈ G.tbs
theorem dokT_mk {P : Program} {w : World} {base : Heap} {G : Gx} {x nm qual : Str} {params : Arguments} {body : List Stmt} {scope : Scope} {N ps : List Str} {Fn : Nat → List Dv → Co Dv} {b : Nat → Slots → Co Fl} (h0 : Fn 0 = fun _ => fl) (h1 : Fn 1 = fun _ => fl) (hs : ∀ n, Fn (n + 2) = defF N.length ps.length (b n))
    (F : ∃ fd, FunD G.K nm qual params body scope [] [] (He.fAd G.K (x, none)) fd) (hm : G.mg x = some (.ref (He.fAd G.K (x, none)))) (S : FnScope N ps scope)
    (hbd : ∀ (kV doc pm : Value) (an : Option Addr) (cdv ct : Value) (us : List Value), us.length = ps.length → bindArgs (PySem.W.fnOf nm qual params body scope .none kV doc pm an cdv ct) ⟨us, []⟩ = pure (ps.zip us))
    (hb : ∀ n, Dok P w base CX0 G x ps n (Fn n) → ∀ (A : Around) (outer : List Env) (s : Shared) (H : Hp) (E : XK), Room (n + 1) (A.deeper (envOfC qual scope s.heap.objs.size (He.fAd G.K (x, none)) (.ref (He.cT G.K (x, none)).1))) →
      PSs (cxOf CX0 P w G.K G.mg base N qual scope (He.fAd G.K (x, none)) (.ref (He.cT G.K (x, none)).1) A outer s H E).nox body (rdS G E (b n))) :
    ∀ n, Dok P w base CX0 G x ps n (Fn n) := by
  obtain ⟨fd, F⟩ := F
  have both : ∀ n, Dok P w base CX0 G x ps n (Fn n) ∧ Dok P w base CX0 G x ps (n + 1) (Fn (n + 1)) := by
    intro n
    induction n with
    | zero => exact ⟨⟨_, fd, hm, F.kp, F.bindsN hbd, by rw [h0]; exact fn_zero⟩, ⟨_, fd, hm, F.kp, F.bindsN hbd, by rw [h1]; exact fn_zero⟩⟩
    | succ n ih0 =>
    have ih := ih0.1
    refine ⟨ih0.2, ?_⟩
    refine ⟨_, fd, hm, F.kp, F.bindsN hbd, ?_⟩
    show FnOk P w G.K G.mg base CX0 (n + 2) _ fd ps (spF G (Fn (n + 2)))
    rw [hs]
    obtain ⟨oc, od, dV, kV, doc, pm, an, cdv, ct, osl, rfl, lk, hcd, _, _⟩ := id F.ex
    obtain ⟨c, rfl⟩ := He.codeIn_ref hcd
    have ec : He.codeOf G.K (x, none) = c := He.codeOf_eq lk rfl
    refine fn_of lk hcd S (fun vs H Q E h => spF_len h) fun A outer s H vs Q E hr h => ?_
    have hl := spF_len h
    obtain ⟨ι, M, ds, m, r, p⟩ := h
    obtain ⟨_, p⟩ := Post.chk p
    have hb' := hb n ih A outer s H E
    have e2 : (He.cT G.K (x, none)).1 = c := ec
    rw [e2] at hb'
    refine ⟨_, (hb' hr).nox, ι, _, M, ?_, (Post.bnd p).mono fun fl ι1 M1 H1 x1 p1 => ?_⟩
    · have e := start_st (N := N) m r
      rw [← r.length, hl] at e
      exact e
    · cases fl with
      | nx ρ => exact fun σ _ => Post.rt x1.mem p1 _ (.g .non)
      | rt d => exact Post.rt (E := E) x1.mem p1
      | _ => exact p1.elim
  exact fun n => (both n).1
/-! ### the small words -/
section
variable {X : Cx} {G : Gx} {E : XK} {e : Expr} {pos : Pos}
theorem xpw {f : Slots → Co Bool} (h : PW X e (rdT G E f)) : PT X e (rdT G E f) := ⟨fun pins s σ H Q I z => h.run (eval e X.env) pins s σ H Q I z⟩
/-- a lock ahead of a body -/
theorem pss_lock {body : List Stmt} {t : TS} (h : PSs X body t) : PSs X body (fun D σ H => t D σ H ∨ ∃ d u, H d = some u ∧ Mut (some u) ∧ ∀ od, t D σ (upd H d (.frz od u))) := by
  refine ⟨fun pins s σ H D I z => ?_⟩
  rcases z with z | ⟨d, u, hd, mu, z⟩
  · exact h.run pins s σ H D I z
  · obtain ⟨od, I2⟩ := I.lock hd mu
    exact h.run pins s σ _ D I2 (z od)
end
end Xt
set_option Elab.async false
set_option linter.all false
set_option maxRecDepth 100000
set_option maxHeartbeats 1000000
namespace Xt
open PySem PySem.Spec PyProof.Rows L2
abbrev ac0 : Slots → Co (List Dv) := fun _ => rt []
abbrev dnew : Slots → Co Dv := fun _ => newD []
abbrev ntV (f : Slots → Co Dv) : Slots → Co Dv := fun ρ => bnd (tst f ρ) fun c => rt (vB (!c))
abbrev andV (f g : Slots → Co Dv) : Slots → Co Dv := fun ρ => bnd (tst f ρ) fun c => match c with | true => g ρ | false => rt (vB false)
abbrev orV (f g : Slots → Co Dv) : Slots → Co Dv := fun ρ => bnd (tst f ρ) fun c => match c with | true => rt (vB true) | false => g ρ
abbrev trV (f : Slots → Co Dv) : Slots → Co Bool := fun ρ => bnd (f ρ) tru
abbrev nxS (s : Slots → Co (List Dv)) : Slots → Co (List Dv) := fun ρ => nox (s ρ)
theorem _root_.L2.Room.u200 {k : Nat} {A : Around} (r : Room k A) : A.units + 200 < cLine := by have := r.un; omega
theorem _root_.L2.Room.u1 {k : Nat} {A : Around} (r : Room k A) : A.units + 1 < cLine := by have := r.un; omega
end Xt
namespace Xt
open PySem PySem.Spec PyProof.Rows L2
/-- a block's names, by a look -/
def blkB (N : List Str) (out : List (Str × NameKind)) (scope : Scope) (own : List (Str × Nat)) : Bool :=
  decide (scope.kind = .function) && (scope.names.all (fun y => decide (scope.names.lookup y.1 = some y.2)) && (own.all (fun p => decide (N[p.2]? = some p.1)) &&
    (scope.names.all (fun y => !decide (y.2 = .free) || (decide (out.lookup y.1 = some .cell) || decide (out.lookup y.1 = some .free))) &&
      scope.names.all (fun y => !(decide (y.2 = .local) || decide (y.2 = .cell)) || (decide (y.1 ∈ own.map (·.1)) || !decide (y.1 ∈ N))))))
theorem blk_ok {N : List Str} {sc scope : Scope} {own : List (Str × Nat)} (h : blkB N sc.names scope own = true) : BlkOk N sc scope own := by
  obtain ⟨h1, h⟩ := Bool.and_eq_true_iff.mp h
  obtain ⟨h2, h⟩ := Bool.and_eq_true_iff.mp h
  obtain ⟨h3, h⟩ := Bool.and_eq_true_iff.mp h
  obtain ⟨h4, h5⟩ := Bool.and_eq_true_iff.mp h
  refine ⟨of_decide_eq_true h1, fun y hy => of_decide_eq_true (List.all_eq_true.mp h2 y hy), fun p hp => of_decide_eq_true (List.all_eq_true.mp h3 p hp), fun y hy e => ?_, fun y hy e => ?_⟩
  · have q := List.all_eq_true.mp h4 y hy
    rw [decide_eq_true e] at q
    rcases Bool.or_eq_true_iff.mp (show (decide (sc.names.lookup y.1 = some .cell) || decide (sc.names.lookup y.1 = some .free)) = true from q) with z | z
    · exact .inl (of_decide_eq_true z)
    · exact .inr (of_decide_eq_true z)
  · have q := List.all_eq_true.mp h5 y hy
    have z : (decide (y.2 = .local) || decide (y.2 = .cell)) = true := by
      rcases e with e | e
      · rw [decide_eq_true e]
        rfl
      · rw [decide_eq_true e, Bool.or_true]
    rw [z] at q
    rcases Bool.or_eq_true_iff.mp (show (decide (y.1 ∈ own.map (·.1)) || !decide (y.1 ∈ N)) = true from q) with z | z
    · exact .inl (of_decide_eq_true z)
    · refine .inr fun m => ?_
      rw [decide_eq_true m] at z
      cases z
/-- a generator's names, by a look -/
def gxB (N N' : List Str) (fr : List (Option Nat)) (out : List (Str × NameKind)) (scope : Scope) : Bool :=
  decide (scope.kind = .function) && (!scope.isCoroutine && (scope.names.all (fun y => !decide (y.2 = .cell)) && (decide (scope.names.lookup (".0" : Str) = some NameKind.local) &&
    (scope.names.all (fun y => !decide (y.2 = .free) || (decide (out.lookup y.1 = some .cell) || decide (out.lookup y.1 = some .free))) && (decide N'.Nodup && frOk N scope.names N' fr)))))
theorem gx_ok {N N' : List Str} {fr : List (Option Nat)} {sc scope : Scope} (h : gxB N N' fr sc.names scope = true) : GxS N N' fr sc scope := by
  obtain ⟨h1, h⟩ := Bool.and_eq_true_iff.mp h
  obtain ⟨h2, h⟩ := Bool.and_eq_true_iff.mp h
  obtain ⟨h3, h⟩ := Bool.and_eq_true_iff.mp h
  obtain ⟨h4, h⟩ := Bool.and_eq_true_iff.mp h
  obtain ⟨h5, h⟩ := Bool.and_eq_true_iff.mp h
  obtain ⟨h6, h7⟩ := Bool.and_eq_true_iff.mp h
  refine ⟨of_decide_eq_true h1, by simpa using h2, fun y hy e => ?_, of_decide_eq_true h4, fun y hy e => ?_, of_decide_eq_true h6, h7⟩
  · have q := List.all_eq_true.mp h3 y hy
    rw [decide_eq_true e] at q
    cases q
  · have q := List.all_eq_true.mp h5 y hy
    rw [decide_eq_true e] at q
    rcases Bool.or_eq_true_iff.mp (show (decide (sc.names.lookup y.1 = some .cell) || decide (sc.names.lookup y.1 = some .free)) = true from q) with z | z
    · exact .inl (of_decide_eq_true z)
    · exact .inr (of_decide_eq_true z)
end Xt
set_option Elab.async false
set_option linter.all false
set_option maxRecDepth 100000
set_option maxHeartbeats 1000000
namespace Xt
open PySem PySem.Spec PyProof.Rows L2
/-! ### the law's own def: its argument is locked ahead -/
def spL (G : Gx) : Sp := fun vs H Q _ => ∃ (a : Addr) (ns : List Int), vs = [.ref a] ∧ SqL G.K H a (ns.map V.int) ∧ (∀ P ∈ G.tbs, ∃ ps : Array Value, H P = some (.tbl ps) ∧ TriplesOk ps.toList) ∧ ∀ H', Q (.bl true) H'
theorem ints_rp {K : PySem.W.Frag} {H : Hp} : ∀ ns : List Int, RpVs K H (ns.map V.int) (ns.map PyData.int)
  | [] => .nil
  | n :: r => .cons (.int n) (ints_rp r)
theorem law_fn {P : Program} {w : World} {G : Gx} {base : Heap} {x nm qual : Str} {params : Arguments} {body : List Stmt} {scope : Scope} {fa : Addr} {fd : FuncData} {N : List Str} {n : Nat} {b : Slots → Co Fl} (F : FunD G.K nm qual params body scope [] [] fa fd) (S : FnScope N [x] scope)
    (hb : ∀ (cdv : Value) (A : Around) (outer : List Env) (s : Shared) (H : Hp) (E : XK), Room n (A.deeper (envOfC qual scope s.heap.objs.size fa cdv)) → PSs (cxOf CX0 P w G.K G.mg base N qual scope fa cdv A outer s H E).nox body (rdS G E b))
    (hrun : ∀ ns : List Int, ∃ M, defF N.length 1 b [.g (.list (ns.map .int))] [] = .ok (vB true) M) : FnOk P w G.K G.mg base CX0 (n + 1) fa fd [x] (spL G) := by
  refine F.ok S (fun vs H Q E h => ?_) fun cdv A outer s H vs Q E hr h => ?_
  · obtain ⟨a, ns, rfl, _⟩ := h
    rfl
  obtain ⟨a, ns, rfl, hS, hT, hQ⟩ := h
  obtain ⟨M, hM⟩ := hrun ns
  have go : ∀ H1 : Hp, RpV G.K H1 (.ref a) (.list (ns.map .int)) → (∀ P ∈ G.tbs, ∃ ps : Array Value, H1 P = some (.tbl ps) ∧ TriplesOk ps.toList) → rdS G E b { nx := fun _ H' => Q .non H', rt := Q } (L2.start N [.ref a]) H1 := fun H1 r t => by
    have m : MemR G [] H1 [] := ⟨rfl, List.nodup_nil, fun i a mo h _ => by simp at h, t⟩
    have p0 : Post G E [] H1 (QE G Q) (defF N.length 1 b [.g (.list (ns.map .int))] []) := by
      rw [hM]
      intro ι' H' _ v rv
      cases rv with
      | g rv =>
        cases rv
        exact hQ H'
    obtain ⟨_, p⟩ := Post.chk p0
    refine ⟨[], _, [], start_st (N := N) m (.cons (.g r) .nil), (Post.bnd p).mono fun fl ι1 M1 H2 x1 p1 => ?_⟩
    cases fl with
    | nx ρ => exact fun σ _ => Post.rt (E := E) x1.mem p1 _ (.g .non)
    | rt d => exact Post.rt (E := E) x1.mem p1
    | _ => exact p1.elim
  refine ⟨_, pss_lock (hb cdv A outer s H E hr).nox, ?_⟩
  rcases hS with (hS | ⟨o, hS⟩) | hS
  · refine .inr ⟨a, _, hS, trivial, fun od => go _ (.lst (.inl ⟨od, upd_same⟩) (ints_rp ns)) fun P hP => ?_⟩
    obtain ⟨ps, e, t⟩ := hT P hP
    have ne : P ≠ a := fun z => by
      rw [z, hS] at e
      cases e
    exact ⟨ps, by rw [upd_ne ne]; exact e, t⟩
  · exact .inl (go H (.lst (.inl ⟨o, hS⟩) (ints_rp ns)) hT)
  · exact .inl (go H (.lst (.inr hS) (ints_rp ns)) hT)
end Xt
set_option Elab.async false
set_option linter.all false
set_option maxRecDepth 100000
noncomputable section
namespace Xt
open PySem PySem.W PySem.Calls PyProof.Rows HandSHeadRun
/-! ### a text that opens with an import of math -/
/-- the opening, to its end -/
def impF (st : SharedT → Thread → Option (SharedT × Thread)) : Nat → SharedT → Thread → Option SharedT
  | 0, _, _ => none
  | m + 1, s, t => match t.atExitBegin with
    | some [] => some s
    | some (_ :: _) => none
    | none => (match st s t with
      | some (s', t') => frS s' fun s' => impF st m s' t'
      | none => none)
theorem impF_ok {tb : String → Option Builtin} {p : Program} {w : World} : ∀ {m : Nat} {s s' : SharedT} {t : Thread}, impF (stepT (denote tb) p w) m s t = some s' → importEnds tb p w m s.abs t = some s'.abs
  | 0, _, _, _, h => by cases h
  | m + 1, s, s', t, h => by
    unfold impF at h
    unfold importEnds
    cases ht : t.atExitBegin with
    | some l =>
      rw [ht] at h
      cases l with
      | nil =>
        cases h
        rfl
      | cons _ _ => cases h
    | none =>
      rw [ht] at h
      have h2 : (match stepT (denote tb) p w s t with
        | some (s', t') => frS s' fun s' => impF (stepT (denote tb) p w) m s' t'
        | none => none) = some s' := h
      cases hs : stepT (denote tb) p w s t with
      | none =>
        rw [hs] at h2
        cases h2
      | some r =>
        obtain ⟨s2, t2⟩ := r
        rw [hs] at h2
        have h3 : (frS s2 fun s' => impF (stepT (denote tb) p w) m s' t2) = some s' := h2
        rw [frS_eq] at h3
        have q := impF_ok h3
        show (match step (denote tb) p w s.abs t with
          | .go s' t' => importEnds tb p w m s' t'
          | .halt _ _ => none) = some s'.abs
        rw [stepT_spec hs]
        exact q
def fenceT (m : PySem.Str) (s : SharedT) : Option SharedT := match boundIn s.abs.heap sysModules m, tameNamesOf? m with
  | some (.ref a), some row => (match getT s a with
    | some o => (match o.dict with
      | some D => (match getT s D, s.tree.get D with
        | some od, some _ => (match fenceDict? m row od with
          | some od' => some { s with tree := s.tree.set D fun _ => od' }
          | none => none)
        | _, _ => none)
      | none => none)
    | none => none)
  | _, _ => none
theorem fenceT_ok {m : PySem.Str} {s s' : SharedT} (h : fenceT m s = some s') : fenceModule? m s.abs = some s'.abs := by
  unfold fenceT at h
  unfold fenceModule?
  split at h
  · rename_i a row e1 e2
    rw [e1, e2]
    rw [getT_eq] at h
    cases e3 : s.abs.heap.get? a with
    | none =>
      rw [e3] at h
      cases h
    | some o =>
      rw [e3] at h
      cases e4 : o.dict with
      | none =>
        simp only [e4] at h
        cases h
      | some D =>
        simp only [e4] at h
        rw [getT_eq] at h
        cases e5 : s.abs.heap.get? D with
        | none =>
          rw [e5] at h
          cases h
        | some od =>
          rw [e5] at h
          cases e6 : s.tree.get D with
          | none =>
            simp only [e6] at h
            cases h
          | some od2 =>
            simp only [e6] at h
            cases e7 : fenceDict? m row od with
            | none =>
              rw [e7] at h
              cases h
            | some od' =>
              rw [e7] at h
              cases h
              simp only [e3, e4, e5, e7, Option.map_some]
              have q := absHeap_set (n := s.n) (life := s.life) (f := fun _ => od') e6
              show some ({ s.abs with heap := (absHeap s.tree s.n s.life).update D fun _ => od' } : Shared) = some _
              rw [← q]
              rfl
  · cases h
def startT (p : Program) : SharedT := ⟨.nil, 0, ({} : Heap).life, #[], {}, 1, (start (opening p)).1.os⟩
theorem startT_abs (p : Program) : (startT p).abs = (start (opening p)).1 := rfl
/-- the state behind the opening -/
def openF (st : SharedT → Thread → Option (SharedT × Thread)) (M : Nat) (m : PySem.Str) (p : Program) : Option SharedT := match impF st M (startT p) (start (opening p)).2 with
  | some s1 => fenceT m s1
  | none => none
/-- .. and behind the top -/
def endI (st1 st2 : SharedT → Thread → Option (SharedT × Thread)) (M : Nat) (m : PySem.Str) (p : Program) : Option (SharedT × SharedT) := match openF st1 M m p with
  | some s2 => frS s2 fun s2 => frNat s2.n fun n0 => (match s2.abs.heap.nsMap mainGlobals "__annotations__" with
    | none => (goF st2 n0 none M s2 (topStub p)).map fun s => (s2, s)
    | some v => (goF st2 n0 (some v) M s2 (topStub p)).map fun s => (s2, s))
  | none => none
theorem importEnds_more {tb : String → Option Builtin} {p : Program} {w : World} {n N : Nat} {s r : Shared} {t : Thread} (h : importEnds tb p w n s t = some r) (le : n ≤ N) : importEnds tb p w N s t = some r := by
  have m := importEnds_mono (N - n) _ _ _ _ h
  rw [show n + (N - n) = N by omega] at m
  exact m
theorem left_imp {p q : Program} {loose : List PySem.Str} {Xt : Shared → Bool} {α : Type} {Yf : Shared → α} {Ya : World → α} {M : Nat} {m : PySem.Str}
    (hm : importedModules p.main.body = [m]) (hn : p.main.body.any namesNumpy = false)
    (run : ∀ (w : World), (endI (stepT (denote treeTable) (opening p) w) (stepT (denote treeTable) p w) M m p).map (fun z => (z.1.abs.heap.isNs mainGlobals && z.1.gens.size == 0, looksF p z.1.abs.heap z.2.abs, openSeen q loose (importedModules p.main.body) Xt true z.2.abs, Yf z.2.abs)) = some (true, true, openGood q loose, Ya w)) :
    LeftO p q loose Xt Yf Ya M true := fun w => by
  obtain ⟨⟨s2, s⟩, hs, hv⟩ := Option.map_eq_some_iff.mp (run w)
  obtain ⟨l0, l1, l2, l3⟩ : _ ∧ _ ∧ _ ∧ _ := by simpa only [Prod.mk.injEq] using hv
  unfold endI at hs
  cases e2 : openF (stepT (denote treeTable) (opening p) w) M m p with
  | none =>
    rw [e2] at hs
    cases hs
  | some s3 =>
    rw [e2] at hs
    have hs2 : (frS s3 fun s2 => frNat s2.n fun n0 => (match s2.abs.heap.nsMap mainGlobals "__annotations__" with
      | none => (goF (stepT (denote treeTable) p w) n0 none M s2 (topStub p)).map fun s => (s2, s)
      | some v => (goF (stepT (denote treeTable) p w) n0 (some v) M s2 (topStub p)).map fun s => (s2, s))) = some (s2, s) := hs
    rw [frS_eq, frNat_eq] at hs2
    have hs3 : (goF (stepT (denote treeTable) p w) s3.n (s3.abs.heap.nsMap mainGlobals "__annotations__") M s3 (topStub p)).map (fun s => (s3, s)) = some (s2, s) := by
      cases ea : s3.abs.heap.nsMap mainGlobals "__annotations__" with
      | none =>
        rw [ea] at hs2
        exact hs2
      | some v =>
        rw [ea] at hs2
        exact hs2
    obtain ⟨s', hg, he⟩ := Option.map_eq_some_iff.mp hs3
    cases he
    -- the opening
    unfold openF at e2
    cases e1 : impF (stepT (denote treeTable) (opening p) w) M (startT p) (start (opening p)).2 with
    | none =>
      rw [e1] at e2
      cases e2
    | some s1 =>
      rw [e1] at e2
      have hf := fenceT_ok (show fenceT m s1 = some s2 from e2)
      have hi := impF_ok e1
      rw [startT_abs] at hi
      have fo : fencedOpening treeTable p w M = some s2.abs := by
        unfold fencedOpening
        rw [hi]
        show fenceModules? p s1.abs = _
        unfold fenceModules?
        rw [hm, hn]
        show (fenceAll? [m] s1.abs).bind _ = _
        unfold fenceAll?
        rw [hf]
        rfl
      have hsz : s2.abs.heap.objs.size = s2.n := absHeap_size _ _ _
      have r := goF_ok hg
      have t : topFrom treeTable p w M s2.abs = some s.abs := by
        unfold topFrom
        have l0' : (s2.abs.heap.isNs mainGlobals && s2.abs.gens.size == 0) = true := l0
        rw [l0', hsz]
        show (topRun treeTable p w s2.n _ M s2.abs (topStub p)).bind _ = _
        rw [r]
        have l1' : (staticsOk (importedModules p.main.body) s2.abs.heap s.abs.heap && namesBound p s.abs.heap && gensDone s.abs && laidKept s2.abs.heap s.abs.heap) = true := l1
        show (match staticsOk (importedModules p.main.body) s2.abs.heap s.abs.heap && namesBound p s.abs.heap && gensDone s.abs && laidKept s2.abs.heap s.abs.heap with | true => some s.abs | false => none) = _
        rw [l1']
      unfold openEnds
      rw [fo]
      show (topFrom treeTable p w M _).map _ = _
      rw [t]
      exact congrArg some (Prod.ext l2 l3)
/-- the run's equation at a world, the text's import within -/
def RunI (r : OpenRow) (q : Program) (H : Hook) (ob : SharedT → H.α) (M : Nat) (m : PySem.Str) (loose : List PySem.Str) (w : World) : Prop :=
  (endI (stepQ (denQ tabQ) (opening r.prog) w) (stepQ (denQ tabQ) r.prog w) M m r.prog).map (fun z => (z.1.abs.heap.isNs mainGlobals && z.1.gens.size == 0, looksF r.prog z.1.abs.heap z.2.abs, seenQ q loose (importedModules r.prog.main.body) (fun s => xlAt q [] s && recOk r.toRowW.records s) z.2.abs, ob z.2)) = some (true, true, openGood q loose, H.val w)
theorem head_imp {r : OpenRow} {q : Program} {H : Hook} {ob : SharedT → H.α} {M : Nat} {m : PySem.Str} {loose : List PySem.Str} {d : DefRec} {kwd : List (PySem.Str × PySem.Expr)} (ho : ∀ s : SharedT, ob s = H.obs s.abs)
    (hm : importedModules r.prog.main.body = [m]) (hn : r.prog.main.body.any namesNumpy = false) (run : ∀ w, RunI r q H ob M m loose w)
    (hdef : defOf q r.name = some (d, kwd)) (hp : r.prog.theDef r.name = some (d.params, d.body, d.scope)) (hk : kwWritten? d.params.kwonlyargs d.params.kw_defaults = some kwd)
    (hwr : (!r.writes || r.records.isEmpty) = true) (k1 : r.wellSaid = true) (ok : (chainsOk q && opensWell r.prog && (frees r.toRowW && r.within.isEmpty)) = true) (hb : r.prog.bare) (hw : r.toRowW.promised)
    (call : WalkO q loose (XL q []) H.says r.toRowW d kwd fun f vs => PySem.call f vs) : r.Holds := by
  have left : LeftO r.prog q loose (fun s => xlAt q [] s && recOk r.toRowW.records s) H.obs H.val M true :=
    left_imp (M := M) (m := m) hm hn fun w => by
      have z := run w
      have eo : ob = fun s => H.obs s.abs := funext ho
      unfold RunI at z
      rw [eo, ← stepQ_eq, ← denQ_eq, ← tabQ_eq] at z
      simp only [seenQ_eq]
      exact z
  exact holds_open (r := r) (q := q) (loose := loose) (XP := XL q []) (YP := H.says) (d := d) (kwd := kwd) left H.of H.keeps (fun s z => xl_of s (Bool.and_eq_true_iff.mp z).1) XL.keeps hdef hp hk (fun s z => recFacts_of (Bool.and_eq_true_iff.mp z).2) hwr k1 ok hb hw call
end Xt
end
set_option Elab.async false
set_option linter.all false
set_option maxRecDepth 100000
set_option maxHeartbeats 1000000
namespace Xt
open PySem PySem.Spec PyProof.Rows L2
/-! ### slices -/
def cutD {α : Type} (xs : List α) (lo hi : Option Int) : List α := (xs.drop (HT.sIx xs.length 0 lo)).take (HT.sIx xs.length xs.length hi - HT.sIx xs.length 0 lo)
section
variable {G : Gx} {E : XK} {ι : List Addr} {H : Hp} {M : Mem} {d : Dv} {v : V}
theorem RpVs.take' {K : PySem.W.Frag} : ∀ {vs : List V} {ds : List PyData} (n : Nat), RpVs K H vs ds → RpVs K H (vs.take n) (ds.take n)
  | _, _, 0, _ => .nil
  | _, _, _ + 1, .nil => .nil
  | _, _, n + 1, .cons h r => .cons h (RpVs.take' n r)
theorem RpVs.drop' {K : PySem.W.Frag} : ∀ {vs : List V} {ds : List PyData} (n : Nat), RpVs K H vs ds → RpVs K H (vs.drop n) (ds.drop n)
  | _, _, 0, h => h
  | _, _, _ + 1, .nil => .nil
  | _, _, n + 1, .cons _ r => RpVs.drop' n r
theorem RpVs.cut {K : PySem.W.Frag} {vs : List V} {ds : List PyData} (r : RpVs K H vs ds) (lo hi : Option Int) : RpVs K H (cutV vs lo hi) (cutD ds lo hi) := by
  unfold cutV cutD
  rw [r.length]
  exact (r.drop' _).take' _
def slV (d : Dv) (l u : Option Int) : Co Dv := match d with
  | .g (.tuple xs) => rt (.g (.tuple (cutD xs l u)))
  | d => bnd (asG d) fun x => match x with
    | .list xs => rt (.g (.list (cutD xs l u)))
    | _ => fl
def slcG (f : Slots → Co Dv) (lo hi : Slots → Co (Option Int)) : Slots → Co Dv := fun ρ => bnd (f ρ) fun d => bnd (lo ρ) fun l => bnd (hi ρ) fun u => slV d l u
def pn0 : Slots → Co (Option Int) := fun _ => rt none
def pn1 (f : Slots → Co Dv) : Slots → Co (Option Int) := fun ρ => bnd (f ρ) fun d => bnd (ofO (asI d)) fun i => rt (some i)
def rdO (G : Gx) (E : XK) (f : Slots → Co (Option Int)) : TO := fun σ H Q => ∃ ι ρ M, StR G H σ ι ρ M ∧ Post G E ι H (fun o _ _ H' => Q o H') (f ρ M)
theorem slV_rp {Q : VK} {l u : Option Int} (m : MemR G ι H M) (r : RpD G ι H v d) (p : Post G E ι H (QE G Q) (slV d l u M)) : (rSlL G.K v l u H (VF Q) ∨ rSlA G.K v l u H (VF Q)) := by
  have gen : ∀ {d}, RpD G ι H v d → Post G E ι H (QE G Q) ((bnd (asG d) fun x => match x with
    | .list xs => rt (.g (.list (cutD xs l u)))
    | _ => fl) M) → rSlL G.K v l u H (VF Q) := fun {d} r p => by
    obtain ⟨x, e, p⟩ := Post.asGe p
    cases x with
    | list xs =>
      obtain ⟨a, vs, rfl, h1, h2⟩ := asG_lst m r e
      exact ⟨a, vs, rfl, h1, lockF m (h2.cut l u) p⟩
    | _ => exact p.elim
  cases r with
  | g r =>
    cases r with
    | @tup a vs xs h1 r1 =>
      refine .inr ⟨a, vs, rfl, .of h1, fun z => .inl ?_, fun _ q hq => .inl ?_⟩
      · have e : cutD xs l u = xs := by
          unfold cutD
          rw [← r1.length, z.1, z.2, List.drop_zero, Nat.sub_zero, r1.length, List.take_length]
        have p1 : Post G E ι H (QE G Q) (rt (.g (.tuple (cutD xs l u))) M) := p
        rw [e] at p1
        exact Post.rt m p1 _ (.g (.tup h1 r1))
      · have x2 : Ext G ι H ι M (upd H q (.tup (cutV vs l u))) := .new m hq
        have p1 : Post G E ι H (QE G Q) (rt (.g (.tuple (cutD xs l u))) M) := p
        exact Post.rt x2.mem (p1.shift x2) _ (.g (.tup upd_same ((r1.cut l u).mono x2.keep)))
    | lst h r => exact .inl (gen (.g (.lst h r)) p)
    | non => exact .inl (gen (.g .non) p)
    | bl b => exact .inl (gen (.g (.bl b)) p)
    | int i => exact .inl (gen (.g (.int i)) p)
    | str x => exact .inl (gen (.g (.str x)) p)
    | dct h r => exact .inl (gen (.g (.dct h r)) p)
  | r h => exact .inl (gen (.r h) p)
  | t h r => exact .inl (gen (.t h r) p)
end
section
variable {X : Cx} {G : Gx} {E : XK} {e e1 e2 : Expr} {es : List Expr} {f g : Slots → Co Dv} {gs : Slots → Co (List Dv)} {lo hi : Slots → Co (Option Int)} {pos p p2 : Pos} {le ue : Option Expr}
theorem poI {e : Option Expr} {t t' : TO} (h : PO X e t) (k : ∀ σ H Q, t' σ H Q → t σ H Q) : PO X e t' := ⟨fun pins s σ H Q I z => h.run pins s σ H Q I (k σ H Q z)⟩
theorem xpo0 : PO X none (rdO G E pn0) := poI po_none fun σ H Q h => by
  obtain ⟨ι, ρ, M, st, p⟩ := h
  exact Post.rt st.mem p
theorem xpo1 (h : PE X e (rdE G E f)) : PO X (some e) (rdO G E (pn1 f)) := poI (po_some h) fun σ H Q h => by
  obtain ⟨ι, ρ, M, st, p⟩ := h
  refine ⟨ι, ρ, M, st, (Post.bnd p).mono fun d ι1 M1 H1 x1 p1 v rv => ?_⟩
  obtain ⟨i, ei, p2⟩ := Post.ofO p1
  obtain ⟨rfl, rfl⟩ := asI_rp rv ei
  exact ⟨i, rfl, Post.rt x1.mem p2⟩
theorem xslc (hK : X.K = G.K) (he : PE X e (rdE G E f)) (hl : PO X le (rdO G E lo)) (hu : PO X ue (rdO G E hi)) : PE X (.Subscript e (.Slice le ue none p2) pos) (rdE G E (slcG f lo hi)) :=
  peI (pe_frz (pe_slice (SlR.or sl_list sl_tupA) he hl hu)) fun σ H Q h => by
    obtain ⟨ι, ρ, M, st, p⟩ := h
    refine ⟨ι, ρ, M, st, (Post.bnd p).mono fun d ι1 M1 H1 x1 p1 v rv => ?_⟩
    refine ⟨ι1, ρ, M1, st.ext x1, (Post.bnd p1).mono fun l ι2 M2 H2 x2 p2 => ?_⟩
    refine ⟨ι2, ρ, M2, (st.ext x1).ext x2, (Post.bnd p2).mono fun u ι3 M3 H3 x3 p3 => ?_⟩
    rw [hK]
    exact slV_rp x3.mem ((rv.mono x2.pre x2.keep).mono x3.pre x3.keep) p3
/-- e[::-1] -/
def rvD : Dv → Co Dv := fun d => bnd (asG d) fun x => match x with
  | .list xs => rt (.g (.list xs.reverse))
  | _ => fl
theorem RpVs.rev {K : PySem.W.Frag} {H : Hp} : ∀ {vs : List V} {ds : List PyData}, RpVs K H vs ds → RpVs K H vs.reverse ds.reverse
  | _, _, .nil => .nil
  | _, _, .cons h r => by
    rw [List.reverse_cons, List.reverse_cons]
    exact (RpVs.rev r).snoc h
theorem xrev {k : Nat} {p1 p3 p4 : Pos} (hK : X.K = G.K) (he : PE X e (rdE G E f)) : PE X (.Subscript e (.Slice none none (some (.UnaryOp .USub (.Constant (.int 1) k p1) p3)) p4) pos) (rdE G E (b1 rvD f)) :=
  peI (pe_frz (pe_revL he)) fun σ H Q h => by
    obtain ⟨ι, ρ, M, st, p⟩ := h
    refine ⟨ι, ρ, M, st, (Post.bnd p).mono fun d ι1 M1 H1 x1 p1 v rv => ?_⟩
    obtain ⟨x, e, p⟩ := Post.asGe p1
    cases x with
    | list xs =>
      obtain ⟨a, vs, rfl, h1, h2⟩ := asG_lst x1.mem rv e
      rw [hK]
      exact ⟨a, vs, rfl, h1, lockF x1.mem h2.rev p⟩
    | _ => exact p.elim
end
/-! ### in, not in, index, count: equality of data at any depth -/
def inOk (x : PyData) (xs : List PyData) : Bool := PyData.canLay0 x && (PyData.canLayAll0 xs && Nat.ble (min (PyData.depthAll xs) x.depth) 190)
theorem inOk_ok {x : PyData} {xs : List PyData} (h : inOk x xs = true) : x.canLay0 = true ∧ PyData.canLayAll0 xs = true ∧ min (PyData.depthAll xs) x.depth ≤ 190 := by
  obtain ⟨h1, h2⟩ := Bool.and_eq_true_iff.mp h
  obtain ⟨h3, h4⟩ := Bool.and_eq_true_iff.mp h2
  exact ⟨h1, h3, Nat.le_of_ble_eq_true h4⟩
/-- the items of a list or a tuple -/
def itsP : PyData → Option (List PyData)
  | .list xs => some xs
  | .tuple xs => some xs
  | _ => none
def inD (neg : Bool) : Dv → Dv → Co Dv := fun d e => bnd (asG d) fun x => bnd (asG e) fun y => bnd (ofO (itsP y)) fun xs => chk (inOk x xs) (rt (vB (if neg then !xs.any fun z => PyData.eqv z x else xs.any fun z => PyData.eqv z x)))
def rInX (K : PySem.W.Frag) (A : Around) (neg : Bool) : R2 := fun x y H Q => ∃ d ds, Dp K H x d ∧ (Dp K H y (.list ds) ∨ Dp K H y (.tuple ds)) ∧ d.canLay0 = true ∧ PyData.canLayAll0 ds = true ∧ A.units + 1 + min (PyData.depthAll ds) d.depth < cLine ∧ Q (.bl (if neg then !ds.any fun z => PyData.eqv z d else ds.any fun z => PyData.eqv z d)) H
section
variable {X : Cx}
theorem op_inX : OpR X (compareOp .In) (rInX X.K X.A false) := by
  intro pins s σ H x y v u Q I rx ry h
  obtain ⟨d, ds, hd, he, sd, se, hr, q⟩ := h
  obtain ⟨as, r1⟩ := Dp.reads I d x v hd rx
  rcases he with he | he
  · obtain ⟨bs, r2⟩ := Dp.reads I (.list ds) y u he ry
    exact SeqAt.in_list_reads r2 r1 se sd hr ⟨.bl _, H, I, rfl, q⟩
  · obtain ⟨bs, r2⟩ := Dp.reads I (.tuple ds) y u he ry
    exact SeqAt.in_tuple_reads r2 r1 se sd hr ⟨.bl _, H, I, rfl, q⟩
theorem op_notInX : OpR X (compareOp .NotIn) (rInX X.K X.A true) := by
  intro pins s σ H x y v u Q I rx ry h
  obtain ⟨d, ds, hd, he, sd, se, hr, q⟩ := h
  obtain ⟨as, r1⟩ := Dp.reads I d x v hd rx
  rcases he with he | he
  · obtain ⟨bs, r2⟩ := Dp.reads I (.list ds) y u he ry
    exact SeqAt.notIn_list_reads r2 r1 se sd hr ⟨.bl _, H, I, rfl, q⟩
  · obtain ⟨bs, r2⟩ := Dp.reads I (.tuple ds) y u he ry
    exact SeqAt.notIn_tuple_reads r2 r1 se sd hr ⟨.bl _, H, I, rfl, q⟩
end
section
variable {G : Gx} {E : XK}
theorem itsP_dp {K : PySem.W.Frag} {H : Hp} {y : V} {z : PyData} {xs : List PyData} (h : noDct z = true → Dp K H y z) (e : itsP z = some xs) (c : PyData.canLayAll0 xs = true) : Dp K H y (.list xs) ∨ Dp K H y (.tuple xs) := by
  cases z with
  | list ys =>
    cases e
    exact .inl (h (noDct_of _ (by simpa [PyData.canLay0] using c)))
  | tuple ys =>
    cases e
    exact .inr (h (noDct_of _ (by simpa [PyData.canLay0] using c)))
  | _ => cases e
theorem os_in {A : Around} {neg : Bool} (hu : A.units + 200 < cLine) : OpS G E (rInX G.K A neg) (inD neg) := fun ι M H x y d e Q m rx ry p => by
  obtain ⟨a, h1, p⟩ := Post.asG m rx p
  obtain ⟨b, h2, p⟩ := Post.asG m ry p
  obtain ⟨xs, e1, p⟩ := Post.ofO p
  obtain ⟨c, p⟩ := Post.chk p
  obtain ⟨c1, c2, c3⟩ := inOk_ok c
  exact ⟨a, xs, h1 (noDct_of _ c1), itsP_dp h2 e1 c2, c1, c2, by omega, Post.rt m p _ rpB⟩
end
/-! ### methods of lists and tuples that only read -/
/-- the first place of an equal one -/
def ixP (d : PyData) : List PyData → Option Nat
  | [] => none
  | z :: r => if PyData.eqv z d then some 0 else (ixP d r).map (· + 1)
theorem ixP_ok {d : PyData} : ∀ {ds : List PyData} {j : Nat}, ixP d ds = some j → ∃ z, ds[j]? = some z ∧ PyData.eqv z d = true ∧ ∀ (m : Nat) (z' : PyData), m < j → ds[m]? = some z' → PyData.eqv z' d = false
  | [], _, h => by cases h
  | z :: r, j, h => by
    unfold ixP at h
    cases e : PyData.eqv z d with
    | true =>
      rw [e] at h
      cases h
      exact ⟨z, rfl, e, fun m _ hm _ => absurd hm (Nat.not_lt_zero m)⟩
    | false =>
      rw [e] at h
      cases q : ixP d r with
      | none =>
        rw [q] at h
        cases h
      | some k =>
        rw [q] at h
        cases h
        obtain ⟨z1, h1, h2, h3⟩ := ixP_ok q
        refine ⟨z1, h1, h2, fun m z' hm e' => ?_⟩
        cases m with
        | zero =>
          cases e'
          exact e
        | succ m => exact h3 m z' (Nat.lt_of_succ_lt_succ hm) e'
/-- a method that reads its list or tuple (whose items are data) and one argument -/
def rMd (K : PySem.W.Frag) (A : Around) (tu : Bool) (F : List PyData → PyData → Option Int) : V → List V → Hp → VK → Prop := fun x xs H Q => ∃ (a : Addr) (y : V) (d : PyData) (ds : List PyData) (i : Int), x = V.ref a ∧ xs = [y] ∧ Dp K H (V.ref a) (if tu then .tuple ds else .list ds) ∧ Dp K H y d ∧
  d.canLay0 = true ∧ PyData.canLayAll0 ds = true ∧ A.units + 1 + min (PyData.depthAll ds) d.depth < cLine ∧ F ds d = some i ∧ Q (.int i) H
def ixF : List PyData → PyData → Option Int := fun ds d => Option.map (fun j : Nat => (j : Int)) (ixP d ds)
def ctF : List PyData → PyData → Option Int := fun ds d => some (ds.countP fun z => PyData.eqv z d : Nat)
section
variable {X : Cx}
theorem mt_indexL : MtR X "list.index" (rMd X.K X.A false ixF) := by
  intro pins s σ H x xs v us Q I rx rxs h
  obtain ⟨a, y, d, ds, i, rfl, rfl, hl, hy, sd, hxs, hroom, hi, q⟩ := h
  obtain ⟨j, hj0, rfl⟩ := Option.map_eq_some_iff.mp hi
  obtain ⟨z, hz, hzj, hno⟩ := ixP_ok hj0
  have hl' : Dp X.K H (V.ref a) (.list ds) := hl
  cases rx
  cases rxs with
  | cons ry rt =>
    rename_i uy ut
    cases rt
    obtain ⟨bs, r1⟩ := Dp.reads I d y uy hy ry
    cases hl' with
    | lst hs ha =>
      obtain ⟨its, rv, ⟨⟨cls, dd, data, sls⟩, n, ho, hc, hdn, hdt⟩, hlen⟩ := I.list hs
      simp only at hc hdt
      subst hc hdt
      obtain ⟨as, h4⟩ := Dp.readsAll I ds _ its ha rv
      have hn : its.length = ds.length := SeqAt.ReadsAll.length ds its as h4
      have hmap : its.map (SeqAt.readOf s.heap) = ds := SeqAt.readsAll_map ds its as hxs h4
      have hvl := rv.length
      have hsl := sizeLine_eq
      obtain ⟨hjd, _⟩ := List.getElem?_eq_some_iff.mp hz
      have hjl : j < its.length := by omega
      have hj : j < its.toArray.size := by simpa using hjl
      have at_ : ∀ (m : Nat) (hm : m < its.toArray.size) (z' : PyData), ds[m]? = some z' → SeqAt.readOf s.heap its.toArray[m] = z' := by
        intro m hm z' hz'
        have hml : m < its.length := by simpa using hm
        rw [← hmap, List.getElem?_map, List.getElem?_eq_getElem hml] at hz'
        have e1 : SeqAt.readOf s.heap its[m] = z' := Option.some.inj (show some (SeqAt.readOf s.heap its[m]) = some z' from hz')
        simpa using e1
      refine call_meets PySem.F.slot_list_index ⟨_, ho, rfl⟩ PySem.F.entry_list_index (PySem.F.args_list_index_2 _ _)
        (SeqAt.list_indexAt a its.toArray n dd sls uy (fun u => PyData.eqv (SeqAt.readOf s.heap u) d) j hj (by omega) ?_ ?_) ⟨ho, SeqAt.items_eqAt (vs := its.toArray) (show ReadsAll s.heap its.toArray.toList ds as from h4) r1 hxs sd hroom, ?_⟩
      · show PyData.eqv (SeqAt.readOf s.heap its.toArray[j]) d = true
        rw [at_ j hj z hz]
        exact hzj
      · intro m hm hmj
        have hmd : m < ds.length := by omega
        have hz' : ds[m]? = some ds[m] := List.getElem?_eq_getElem hmd
        show PyData.eqv (SeqAt.readOf s.heap its.toArray[m]) d = false
        rw [at_ m hm _ hz']
        exact hno m _ hmj hz'
      · exact ⟨.int (j : Nat), H, I.tok _, ⟨_, rfl⟩, q⟩
theorem mt_countL : MtR X "list.count" (rMd X.K X.A false ctF) := by
  intro pins s σ H x xs v us Q I rx rxs h
  obtain ⟨a, y, d, ds, i, rfl, rfl, hl, hy, sd, hxs, hroom, hi, q⟩ := h
  cases hi
  have hl' : Dp X.K H (V.ref a) (.list ds) := hl
  cases rx
  cases rxs with
  | cons ry rt =>
    rename_i uy ut
    cases rt
    obtain ⟨bs, r1⟩ := Dp.reads I d y uy hy ry
    cases hl' with
    | lst hs ha =>
      obtain ⟨its, rv, ⟨⟨cls, dd, data, sls⟩, n, ho, hc, hdn, hdt⟩, hlen⟩ := I.list hs
      simp only at hc hdt
      subst hc hdt
      obtain ⟨as, h4⟩ := Dp.readsAll I ds _ its ha rv
      have hmap : its.map (SeqAt.readOf s.heap) = ds := SeqAt.readsAll_map ds its as hxs h4
      refine call_meets PySem.F.slot_list_count ⟨_, ho, rfl⟩ PySem.F.entry_list_count (PySem.F.args_list_count_2 _ _)
        (SeqAt.list_countAt a its.toArray n dd sls uy (fun u => PyData.eqv (SeqAt.readOf s.heap u) d)) ⟨ho, SeqAt.items_eqAt (vs := its.toArray) (show ReadsAll s.heap its.toArray.toList ds as from h4) r1 hxs sd hroom, ?_⟩
      have ec : its.toArray.toList.countP (fun u => PyData.eqv (SeqAt.readOf s.heap u) d) = ds.countP fun z => PyData.eqv z d := by
        rw [← hmap, List.countP_map]
        rfl
      refine ⟨.int (ds.countP fun z => PyData.eqv z d : Nat), H, I.tok _, ⟨s.toks, ?_⟩, q⟩
      show Value.int ((its.toArray.toList.countP (fun u => PyData.eqv (SeqAt.readOf s.heap u) d) : Nat) : Int) s.toks = Value.int ((ds.countP fun z => PyData.eqv z d : Nat) : Int) s.toks
      rw [ec]
end

def lsP : PyData → Option (List PyData)
  | .list xs => some xs
  | _ => none
theorem lsP_eq {x : PyData} {xs : List PyData} (h : lsP x = some xs) : x = .list xs := by
  cases x with
  | list ys =>
    cases h
    rfl
  | _ => cases h
def mdF (F : List PyData → PyData → Option Int) (f g : Slots → Co Dv) : Slots → Co Dv := fun ρ => bnd (f ρ) fun d => bnd (asG d) fun x0 => bnd (ofO (lsP x0)) fun _ => bnd (g ρ) fun e => bnd (asG d) fun x => bnd (asG e) fun y => bnd (ofO (lsP x)) fun xs => chk (inOk y xs) (bnd (ofO (F xs y)) fun i => rt (dI i))
section
variable {X : Cx} {G : Gx} {E : XK} {e e1 e2 : Expr} {es : List Expr} {f g : Slots → Co Dv} {pos : Pos} {F : List PyData → PyData → Option Int} {name : Str} {id : String}
theorem xmd {apos cpos : Pos} (hu : X.A.units + 200 < cLine) (hK : X.K = G.K) (slot : Slot "list" name id) (hty : typeOf (.builtin id) = pure (.type "method_descriptor")) (hm : MtR X id (rMd X.K X.A false F)) (ho : PE X e1 (rdE G E f)) (ha : PE X e2 (rdE G E g))
    (hbase : attributeBase e1 name X.env (eval e1 X.env) = eval e1 X.env := by rfl)
    (hfew : ((backTo cpos (starEach [e2] X.env)).all (fun x => !x.1) && (backToKw cpos (keywordEach [] X.env)).all (fun x => x.1.isSome)
      && decide (([e2] : List Expr).length + ([] : List Keyword).length + (if ([] : List Keyword).isEmpty then 0 else 1) < 30)) = true := by rfl)
    (hline : (apos.endLine == cpos.line) = true := by rfl) (hs : starEach [e2] X.env = (false, eval e2 X.env) :: starEach [] X.env := by rfl) (hplain : (backTo cpos (starEach [] X.env)).any (·.1) = false := by rfl) :
    PE X (.Call (.Attribute e1 name apos) [e2] [] cpos) (rdE G E (mdF F f g)) :=
  peI (pe_bm PySem.F.plainAttrs_list slot hty hm ho (pa_cons ha pa_nil hs) hbase hfew hline hs hplain) fun σ H Q h => by
    obtain ⟨ι, ρ, M, st, p⟩ := h
    refine ⟨ι, ρ, M, st, (Post.bnd p).mono fun d ι1 M1 H1 x1 p1 v rv => ?_⟩
    obtain ⟨x0, ex, p2⟩ := Post.asGe p1
    obtain ⟨xs0, e0, p3⟩ := Post.ofO p2
    have e00 := lsP_eq e0
    subst e00
    obtain ⟨a, vs, rfl, h1, h2⟩ := asG_lst x1.mem rv ex
    refine ⟨.inl ⟨rfl, vs, by rw [hK]; exact h1⟩, ?_⟩
    refine ⟨ι1, ρ, M1, st.ext x1, (Post.bnd p3).mono fun e ι2 M2 H2 x2 p4 w rw_ => ?_⟩
    obtain ⟨x, q1, p5⟩ := Post.asG x2.mem (rv.mono x2.pre x2.keep) p4
    obtain ⟨y, q2, p6⟩ := Post.asG x2.mem rw_ p5
    obtain ⟨xs, e4, p7⟩ := Post.ofO p6
    have e5 := lsP_eq e4
    subst e5
    obtain ⟨c, p8⟩ := Post.chk p7
    obtain ⟨i, ei, p9⟩ := Post.ofO p8
    obtain ⟨c1, c2, c3⟩ := inOk_ok c
    rw [hK]
    exact ⟨a, w, y, xs, i, rfl, rfl, q1 (noDct_of _ (by simpa [PyData.canLay0] using c2)), q2 (noDct_of _ c1), c1, c2, by omega, ei, Post.rt x2.mem p9 _ rpI⟩
end
end Xt
set_option Elab.async false
set_option linter.all false
set_option maxRecDepth 100000
set_option maxHeartbeats 1000000
namespace Xt
open PySem PySem.Spec PyProof.Rows L2
/-! ### calls whose new list is locked -/
def CaSF (G : Gx) (E : XK) (r : List V → Hp → VK → Prop) (F : List Dv → Co Dv) : Prop := ∀ (ι : List Addr) (M : Mem) (H : Hp) (xs : List V) (ds : List Dv) (Q : VK), MemR G ι H M → RpDs G ι H xs ds → Post G E ι H (QE G Q) (F ds M) → r xs H (VF Q)
section
variable {X : Cx} {G : Gx} {E : XK} {e e1 e2 : Expr} {es : List Expr} {f g : Slots → Co Dv} {pos : Pos}
theorem rd_cBF {r : List V → Hp → VK → Prop} {F : List Dv → Co Dv} {gs : Slots → Co (List Dv)} (hF : CaSF G E r F) {σ : L2.St} {H : Hp} {Q : VK} (h : rdE G E (cB F gs) σ H Q) : tCB r (rdA G E gs) σ H (VF Q) := by
  obtain ⟨ι, ρ, M, st, p⟩ := h
  exact ⟨ι, ρ, M, st, (Post.bnd p).mono fun ds ι1 M1 H1 x1 p1 vs rv => hF ι1 M1 H1 vs ds Q x1.mem rv p1⟩
theorem xcbF {x : Str} {p : Pos} {id : String} {r : List V → Hp → VK → Prop} {F : List Dv → Co Dv} {gs : Slots → Co (List Dv)} (hc : CallR X (.builtin id) r) (hF : CaSF G E r F) (hg : Gl X x) (hm : X.mg x = none) (hv : bootBuiltins x = some (.builtin id)) (ha : PA X (e :: es) (rdA G E gs))
    (hn : x ≠ "__name__" := by decide) (hdb : (x == ("__debug__" : Str)) = false := by decide) (he : starEach (e :: es) X.env = (false, eval e X.env) :: starEach es X.env := by rfl) (hpl : (backTo pos (starEach es X.env)).any (·.1) = false := by rfl) :
    PE X (.Call (.Name x p) (e :: es) [] pos) (rdE G E (cB F gs)) := peI (pe_frz (pe_callB hc hg hm hv ha hn hdb he hpl)) fun _ _ _ h => rd_cBF hF h
theorem xctF {x : Str} {p : Pos} {T : String} {r : List V → Hp → VK → Prop} {F : List Dv → Co Dv} {gs : Slots → Co (List Dv)} (hc : CallR X (.type T) r) (hF : CaSF G E r F) (hg : Gl X x) (hm : X.mg x = none) (hv : bootBuiltins x = some (.type T)) (ha : PA X (e :: es) (rdA G E gs))
    (hn : x ≠ "__name__" := by decide) (hdb : (x == ("__debug__" : Str)) = false := by decide) (he : starEach (e :: es) X.env = (false, eval e X.env) :: starEach es X.env := by rfl) (hpl : (backTo pos (starEach es X.env)).any (·.1) = false := by rfl) :
    PE X (.Call (.Name x p) (e :: es) [] pos) (rdE G E (cB F gs)) := peI (pe_frz (pe_callTy hc hg hm hv ha hn hdb he hpl)) fun _ _ _ h => rd_cBF hF h
end
section
variable {G : Gx} {E : XK} {ι : List Addr} {H : Hp} {M : Mem} {d : Dv} {v : V}
/-- the one argument -/
def one1 (k : PyData → Co Dv) : List Dv → Co Dv := fun ds => match ds with
  | [d] => bnd (asG d) k
  | _ => fl
theorem one1_ok {k : PyData → Co Dv} {Q : VK} {xs : List V} {ds : List Dv} (m : MemR G ι H M) (rr : RpDs G ι H xs ds) (p : Post G E ι H (QE G Q) (one1 k ds M)) : ∃ v d x, xs = [v] ∧ RpD G ι H v d ∧ asGp d M = some x ∧ Post G E ι H (QE G Q) (k x M) := by
  cases rr with
  | nil => exact p.elim
  | cons r1 t =>
    cases t with
    | cons _ _ => exact p.elim
    | nil =>
      obtain ⟨x, e, p⟩ := Post.asGe p
      exact ⟨_, _, x, rfl, r1, e, p⟩
theorem asG_tup {xs : List PyData} (m : MemR G ι H M) (r : RpD G ι H v d) (e : asGp d M = some (.tuple xs)) : ∃ a vs, v = .ref a ∧ SqT G.K H a vs ∧ RpVs G.K H vs xs := by
  cases r with
  | g r =>
    cases e
    cases r with
    | tup h r => exact ⟨_, _, rfl, .of h, r⟩
  | @r a i hi =>
    obtain ⟨ds, xs, e1, e2, e3⟩ := asGp_r e
    cases e3
  | t _ _ => cases e
/-! ### list(x) -/
def lstL : List Dv → Co Dv := one1 fun x => bnd (ofO (itsP x)) fun xs => rt (.g (.list xs))
def rLst (K : PySem.W.Frag) : List V → Hp → VK → Prop := fun xs H Q => ∃ p ys, xs = [.ref p] ∧ (SqL K H p ys ∨ SqT K H p ys) ∧ ∀ l, H l = none → Q (.ref l) (upd H l (.lst ys))
theorem cs_lst : CaSF G E (rLst G.K) lstL := fun ι M H xs ds Q m rr p => by
  obtain ⟨v, d, x, rfl, r1, e, p⟩ := one1_ok m rr p
  obtain ⟨ys, e2, p⟩ := Post.ofO p
  cases x with
  | list zs =>
    cases e2
    obtain ⟨a, vs, rfl, h1, h2⟩ := asG_lst m r1 e
    exact ⟨a, vs, rfl, .inl h1, lockF m h2 p⟩
  | tuple zs =>
    cases e2
    obtain ⟨a, vs, rfl, h1, h2⟩ := asG_tup m r1 e
    exact ⟨a, vs, rfl, .inr h1, lockF m h2 p⟩
  | _ => cases e2
theorem cr_lst {X : Cx} : CallR X (.type "list") (rLst X.K) := call_list_of
/-! ### sorted(xs), max(xs), min(xs) of ints -/
def insI (e : Int) : List Int → List Int
  | [] => [e]
  | x :: r => (match decide (x < e) with
    | true => x :: insI e r
    | false => e :: x :: r)
def sortI : List Int → List Int
  | [] => []
  | e :: r => insI e (sortI r)
theorem insI_perm (e : Int) : ∀ l, (insI e l).Perm (e :: l)
  | [] => List.Perm.refl _
  | x :: r => by
    unfold insI
    cases decide (x < e) with
    | true => exact ((insI_perm e r).cons x).trans (List.Perm.swap e x r)
    | false => exact List.Perm.refl _
theorem sortI_perm : ∀ l, (sortI l).Perm l
  | [] => List.Perm.refl _
  | e :: r => (insI_perm e (sortI r)).trans ((sortI_perm r).cons e)
theorem insI_srtd (e : Int) : ∀ {l : List Int}, l.Pairwise (· ≤ ·) → (insI e l).Pairwise (· ≤ ·)
  | [], _ => List.pairwise_singleton _ _
  | x :: r, h => by
    obtain ⟨h1, h2⟩ := List.pairwise_cons.mp h
    unfold insI
    cases q : decide (x < e) with
    | true =>
      have q1 := of_decide_eq_true q
      refine List.pairwise_cons.mpr ⟨fun y hy => ?_, insI_srtd e h2⟩
      rcases List.mem_cons.mp ((insI_perm e r).mem_iff.mp hy) with z | z
      · omega
      · exact h1 y z
    | false =>
      have q1 := of_decide_eq_false q
      refine List.pairwise_cons.mpr ⟨fun y hy => ?_, h⟩
      rcases List.mem_cons.mp hy with z | z
      · omega
      · have := h1 y z
        omega
theorem sortI_srtd : ∀ l : List Int, (sortI l).Pairwise (· ≤ ·)
  | [] => List.Pairwise.nil
  | e :: r => insI_srtd e (sortI_srtd r)
theorem sortI_uniq {l m : List Int} (h : l.Perm m) (s : l.Pairwise (· ≤ ·)) : l = sortI m :=
  List.Perm.eq_of_pairwise (fun a b _ _ h1 h2 => by omega) s (sortI_srtd m) (h.trans (sortI_perm m).symm)
def srtL : List Dv → Co Dv := one1 fun x => bnd (ofO (lsP x)) fun xs => bnd (ofO (intsP xs)) fun ns => rt (.g (.list ((sortI ns).map .int)))
theorem rpVs_ints {K : PySem.W.Frag} {H : Hp} : ∀ ns : List Int, RpVs K H (ns.map V.int) (ns.map PyData.int)
  | [] => .nil
  | n :: r => .cons (.int n) (rpVs_ints r)
theorem cs_srt : CaSF G E (rSortedI G.K) srtL := fun ι M H xs ds Q m rr p => by
  obtain ⟨v, d, x, rfl, r1, e, p⟩ := one1_ok m rr p
  obtain ⟨ys, e2, pa⟩ := Post.ofO p
  have e3 := lsP_eq e2
  subst e3
  obtain ⟨ns, e4, p⟩ := Post.ofO pa
  obtain ⟨a, vs, rfl, h1, h2⟩ := asG_lst m r1 e
  rw [intsP_rp h2 e4] at h1
  refine ⟨a, ns, rfl, h1, fun ns' p1 pm so hp => ?_⟩
  rw [sortI_uniq pm so]
  exact lockF m (rpVs_ints _) p p1 hp
def maxI : Int → List Int → Int
  | x, [] => x
  | x, y :: r => maxI (match decide (x < y) with
    | true => y
    | false => x) r
def minI : Int → List Int → Int
  | x, [] => x
  | x, y :: r => minI (match decide (y < x) with
    | true => y
    | false => x) r
theorem maxI_ok : ∀ (r : List Int) (x : Int), maxI x r ∈ x :: r ∧ ∀ y ∈ x :: r, y ≤ maxI x r
  | [], x => ⟨List.mem_cons_self .., fun y hy => by
    have := List.mem_singleton.mp hy
    show y ≤ x
    omega⟩
  | y :: r, x => by
    unfold maxI
    cases q : decide (x < y) with
    | true =>
      have q1 := of_decide_eq_true q
      obtain ⟨h1, h2⟩ := maxI_ok r y
      refine ⟨List.mem_cons_of_mem _ h1, fun z hz => ?_⟩
      rcases List.mem_cons.mp hz with k | k
      · have := h2 y (List.mem_cons_self ..)
        show z ≤ maxI y r
        omega
      · exact h2 z k
    | false =>
      have q1 := of_decide_eq_false q
      obtain ⟨h1, h2⟩ := maxI_ok r x
      refine ⟨?_, fun z hz => ?_⟩
      · rcases List.mem_cons.mp h1 with k | k
        · exact List.mem_cons.mpr (.inl k)
        · exact List.mem_cons_of_mem _ (List.mem_cons_of_mem _ k)
      · rcases List.mem_cons.mp hz with k | k
        · exact k ▸ h2 x (List.mem_cons_self ..)
        · rcases List.mem_cons.mp k with k | k
          · have := h2 x (List.mem_cons_self ..)
            show z ≤ maxI x r
            omega
          · exact h2 z (List.mem_cons_of_mem _ k)
theorem minI_ok : ∀ (r : List Int) (x : Int), minI x r ∈ x :: r ∧ ∀ y ∈ x :: r, minI x r ≤ y
  | [], x => ⟨List.mem_cons_self .., fun y hy => by
    have := List.mem_singleton.mp hy
    show x ≤ y
    omega⟩
  | y :: r, x => by
    unfold minI
    cases q : decide (y < x) with
    | true =>
      have q1 := of_decide_eq_true q
      obtain ⟨h1, h2⟩ := minI_ok r y
      refine ⟨List.mem_cons_of_mem _ h1, fun z hz => ?_⟩
      rcases List.mem_cons.mp hz with k | k
      · have := h2 y (List.mem_cons_self ..)
        show minI y r ≤ z
        omega
      · exact h2 z k
    | false =>
      have q1 := of_decide_eq_false q
      obtain ⟨h1, h2⟩ := minI_ok r x
      refine ⟨?_, fun z hz => ?_⟩
      · rcases List.mem_cons.mp h1 with k | k
        · exact List.mem_cons.mpr (.inl k)
        · exact List.mem_cons_of_mem _ (List.mem_cons_of_mem _ k)
      · rcases List.mem_cons.mp hz with k | k
        · exact k ▸ h2 x (List.mem_cons_self ..)
        · rcases List.mem_cons.mp k with k | k
          · have := h2 x (List.mem_cons_self ..)
            show minI x r ≤ z
            omega
          · exact h2 z (List.mem_cons_of_mem _ k)
def mxL (F : Int → List Int → Int) : List Dv → Co Dv := one1 fun x => bnd (ofO (lsP x)) fun xs => bnd (ofO (intsP xs)) fun ns => match ns with
  | [] => fl
  | n :: r => rt (dI (F n r))
theorem mx_go {F : Int → List Int → Int} {Q : VK} {xs : List V} {ds : List Dv} (m : MemR G ι H M) (rr : RpDs G ι H xs ds) (p : Post G E ι H (QE G Q) (mxL F ds M)) : ∃ a n r, xs = [.ref a] ∧ SqL G.K H a ((n :: r).map V.int) ∧ Q (.int (F n r)) H := by
  obtain ⟨v, d, x, rfl, r1, e, p⟩ := one1_ok m rr p
  obtain ⟨ys, e2, pa⟩ := Post.ofO p
  have e3 := lsP_eq e2
  subst e3
  obtain ⟨ns, e4, p⟩ := Post.ofO pa
  obtain ⟨a, vs, rfl, h1, h2⟩ := asG_lst m r1 e
  rw [intsP_rp h2 e4] at h1
  cases ns with
  | nil => exact p.elim
  | cons n r => exact ⟨a, n, r, rfl, h1, Post.rt m p _ rpI⟩
theorem cs_maxL : CaS G E (rMax G.K) (mxL maxI) := fun ι M H xs ds Q m rr p => by
  obtain ⟨a, n, r, rfl, h1, q⟩ := mx_go m rr p
  refine ⟨a, n :: r, rfl, h1, Nat.succ_pos _, fun k hk h => ?_⟩
  obtain ⟨z1, z2⟩ := maxI_ok r n
  have e : k = maxI n r := Int.le_antisymm (z2 k hk) (h _ z1)
  rw [e]
  exact q
theorem cs_minL : CaS G E (rMin G.K) (mxL minI) := fun ι M H xs ds Q m rr p => by
  obtain ⟨a, n, r, rfl, h1, q⟩ := mx_go m rr p
  refine ⟨a, n :: r, rfl, h1, Nat.succ_pos _, fun k hk h => ?_⟩
  obtain ⟨z1, z2⟩ := minI_ok r n
  have e : k = minI n r := Int.le_antisymm (h _ z1) (z2 k hk)
  rw [e]
  exact q
end
/-! ### list(range(..)) -/
def rgD (a b : Int) : List PyData := (List.range (b - a).toNat).map fun i => .int (a + (i : Nat))
theorem rgD_rp {K : PySem.W.Frag} {H : Hp} {a b : Int} : RpVs K H (rgV a b) (rgD a b) := by
  unfold rgV rgD
  generalize List.range (b - a).toNat = l
  induction l with
  | nil => exact .nil
  | cons x l ih => exact .cons (.int _) ih
def rgOk (a b : Int) : Bool := decide (0 ≤ a) && (decide (b ≤ 16777216) && (decide (a ≤ 16777216) && decide (0 ≤ b)))
theorem rgOk_ok {a b : Int} (h : rgOk a b = true) : RgOk a b := by
  obtain ⟨h1, h2⟩ := Bool.and_eq_true_iff.mp h
  obtain ⟨h3, h4⟩ := Bool.and_eq_true_iff.mp h2
  obtain ⟨h5, h6⟩ := Bool.and_eq_true_iff.mp h4
  exact RgOk.of_le (of_decide_eq_true h1) (of_decide_eq_true h3) (of_decide_eq_true h5) (of_decide_eq_true h6)
def lrg1 (f : Slots → Co Dv) : Slots → Co Dv := fun ρ => bnd (f ρ) fun d => bnd (ofO (asI d)) fun b => chk (rgOk 0 b) (rt (.g (.list (rgD 0 b))))
def lrg2 (f g : Slots → Co Dv) : Slots → Co Dv := fun ρ => bnd (f ρ) fun d => bnd (ofO (asI d)) fun a => bnd (g ρ) fun e => bnd (ofO (asI e)) fun b => chk (rgOk a b) (rt (.g (.list (rgD a b))))
section
variable {X : Cx} {G : Gx} {E : XK} {e e1 e2 : Expr} {es : List Expr} {f g : Slots → Co Dv} {gs : Slots → Co (List Dv)} {p pos p2 p3 : Pos}
theorem xlrg1 (hc : X.calm = true) (hg : Gl X "list") (hm : X.mg "list" = none) (hg2 : Gl X "range") (hm2 : X.mg "range" = none) (he : PE X e (rdE G E f)) (n2 : starEach [e] X.env = (false, eval e X.env) :: starEach [] X.env := by rfl) :
    PE X (.Call (.Name "list" p) [.Call (.Name "range" p2) [e] [] p3] [] pos) (rdE G E (lrg1 f)) :=
  peI (pe_frz (pe_listRg hc hg hm (prg_1 hg2 hm2 he n2))) fun σ H Q h => by
    obtain ⟨ι, ρ, M, st, p⟩ := h
    refine ⟨ι, ρ, M, st, (Post.bnd p).mono fun d ι1 M1 H1 x1 p1 v rv => ?_⟩
    obtain ⟨i, ei, p⟩ := Post.ofO p1
    obtain ⟨c, p⟩ := Post.chk p
    obtain ⟨rfl, rfl⟩ := asI_rp rv ei
    exact ⟨_, rfl, rgOk_ok c, lockF x1.mem rgD_rp p⟩
theorem xlrg2 (hc : X.calm = true) (hg : Gl X "list") (hm : X.mg "list" = none) (hg2 : Gl X "range") (hm2 : X.mg "range" = none) (he : PE X e1 (rdE G E f)) (he2 : PE X e2 (rdE G E g)) (n2 : starEach [e1, e2] X.env = (false, eval e1 X.env) :: starEach [e2] X.env := by rfl)
    (n3 : starEach [e2] X.env = (false, eval e2 X.env) :: starEach [] X.env := by rfl) (n4 : (backTo p3 (starEach [e2] X.env)).any (·.1) = false := by rfl) :
    PE X (.Call (.Name "list" p) [.Call (.Name "range" p2) [e1, e2] [] p3] [] pos) (rdE G E (lrg2 f g)) :=
  peI (pe_frz (pe_listRg hc hg hm (prg_2 hg2 hm2 he he2 n2 n3 n4))) fun σ H Q h => by
    obtain ⟨ι, ρ, M, st, p⟩ := h
    refine ⟨ι, ρ, M, st, (Post.bnd p).mono fun d ι1 M1 H1 x1 p1 v rv => ?_⟩
    obtain ⟨i, ei, p⟩ := Post.ofO p1
    obtain ⟨rfl, rfl⟩ := asI_rp rv ei
    refine ⟨ι1, ρ, M1, st.ext x1, (Post.bnd p).mono fun d2 ι2 M2 H2 x2 p2 w rw => ?_⟩
    obtain ⟨j, ej, p⟩ := Post.ofO p2
    obtain ⟨c, p⟩ := Post.chk p
    obtain ⟨rfl, rfl⟩ := asI_rp rw ej
    exact ⟨_, _, rfl, rfl, rgOk_ok c, lockF x2.mem rgD_rp p⟩
/-- [.., *e, ..] -/
def acS (f : Slots → Co Dv) (gs : Slots → Co (List Dv)) : Slots → Co (List Dv) := fun ρ => bnd (f ρ) fun d => bnd (asG d) fun x => bnd (ofO (lsP x)) fun xs => bnd (gs ρ) fun ys => rt (xs.map Dv.g ++ ys)
theorem rpVs_g {ι : List Addr} {H : Hp} : ∀ {vs : List V} {xs : List PyData}, RpVs G.K H vs xs → RpDs G ι H vs (xs.map Dv.g)
  | _, _, .nil => .nil
  | _, _, .cons h r => .cons (.g h) (rpVs_g r)
theorem RpDs.app {ι : List Addr} {H : Hp} : ∀ {vs : List V} {xs : List Dv} {ws : List V} {ys : List Dv}, RpDs G ι H vs xs → RpDs G ι H ws ys → RpDs G ι H (vs ++ ws) (xs ++ ys)
  | _, _, _, _, .nil, h => h
  | _, _, _, _, .cons h r, q => .cons h (RpDs.app r q)
theorem xaS (hK : X.K = G.K) (he : PE X e (rdE G E f)) (hr : PA X es (rdA G E gs)) (hs : starEach (.Starred e p :: es) X.env = (true, eval e X.env) :: starEach es X.env := by rfl) : PA X (.Starred e p :: es) (rdA G E (acS f gs)) :=
  paI (StX.pa_star he hr hs) fun σ H Q h => by
    obtain ⟨ι, ρ, M, st, p⟩ := h
    refine ⟨ι, ρ, M, st, (Post.bnd p).mono fun d ι1 M1 H1 x1 p1 v rv => ?_⟩
    obtain ⟨x, ex, p2⟩ := Post.asGe p1
    obtain ⟨xs, e0, p3⟩ := Post.ofO p2
    have e00 := lsP_eq e0
    subst e00
    obtain ⟨a, vs, rfl, h1, h2⟩ := asG_lst x1.mem rv ex
    refine ⟨a, vs, rfl, .inr (by rw [hK]; exact h1), ?_⟩
    refine ⟨ι1, ρ, M1, st.ext x1, (Post.bnd p3).mono fun ds ι2 M2 H2 x2 p4 ws rw => ?_⟩
    exact Post.rt x2.mem p4 _ (RpDs.app (rpVs_g (h2.mono x2.keep)) rw)
end
end Xt
set_option Elab.async false
set_option linter.all false
set_option maxRecDepth 100000
set_option maxHeartbeats 2000000
namespace K04
open PySem PySem.Spec PyProof.Rows L2 Xt
def top (i : Nat) : Stmt := PySem.Challenge.pw_turnheaps_k04_whole_shapes.main.body.getD i (.Pass ⟨0, 0, 0, 0⟩)
def b_q_taken : Slots → Co Fl :=
  (sq (ifs (tst (b2 gtD (b2 ixD (sl 0) (kk (.int 3))) (kk (.int 0)))) (sq (asg (b2 modD (cB intD (ac (b2 ixD (sl 0) (kk (.int 3))) ac0)) (sl 1)) (tN 2))
    (sq (asg (b2 fdivD (b2 ixD (sl 0) (kk (.int 3))) (sl 1)) (tSub (sl 0) (kk (.int 3))))
    (sq (ret (b1 frZ (sl 2)))
    skp))) skp)
    (sq (asg (b2 addD (b2 ixD (sl 0) (kk (.int 1))) (kk (.int 1))) (tSub (sl 0) (kk (.int 1))))
    (sq (ifs (tst (b2 gtD (b2 ixD (sl 0) (kk (.int 1))) (cB lenD (ac (b2 ixD (sl 0) (kk (.int 0))) ac0)))) (sq (asg (b2 modD (cB intD (ac (b2 addD (b2 mulD (b2 ixD (sl 0) (kk (.int 2))) (kk (.int 48271))) (kk (.int 11))) ac0)) (kk (.int 2147483647))) (tSub (sl 0) (kk (.int 2))))
    (sq (ret (b2 modD (cB intD (ac (b2 fdivD (b2 ixD (sl 0) (kk (.int 2))) (kk (.int 7))) ac0)) (sl 1)))
    skp)) skp)
    (sq (asg (b2 ixD (b2 ixD (sl 0) (kk (.int 0))) (b2 subD (b2 ixD (sl 0) (kk (.int 1))) (kk (.int 1)))) (tN 3))
    (sq (asg (b2 modD (cB intD (ac (b2 addD (b2 addD (b2 mulD (b2 ixD (sl 0) (kk (.int 2))) (kk (.int 48271))) (sl 3)) (kk (.int 11))) ac0)) (kk (.int 2147483647))) (tSub (sl 0) (kk (.int 2))))
    (sq (ifs (tst (b2 geD (sl 3) (b2 powD (kk (.int 10)) (kk (.int 18))))) (sq (asg (b2 fdivD (sl 3) (sl 1)) (tSub (sl 0) (kk (.int 3))))
    skp) skp)
    (sq (ret (b2 modD (cB intD (ac (sl 3) ac0)) (sl 1)))
    skp)))))))
def F_q_taken : Nat → List Dv → Co Dv
  | 0 => fun _ => fl
  | n + 1 => defF 4 2 (b_q_taken )
def b_q_shapes (c_q_shapes : List Dv → Co Dv) : Slots → Co Fl :=
  (sq (ifs (tst (b2 (eqD false) (sl 0) (kk (.int 0)))) (sq (ret (lstG (ac (kk .none) ac0)))
    skp) skp)
    (sq (asg (lstG ac0) (tN 1))
    (sq (forX (srcR3 (ac (b2 subD (sl 0) (kk (.int 1))) (ac (b1 ngD (kk (.int 1))) (ac (b1 ngD (kk (.int 1))) ac0)))) (tN 2) (sq (ifs (tor (tst (b2 gtD (sl 2) (kk (.int 0)))) (tst (b2 (eqD false) (sl 0) (kk (.int 1))))) (sq (forX (srcS (cB (pureC c_q_shapes) (ac (sl 2) ac0))) (tN 3) (sq (asg (b2 addD (sl 1) (lcX [4] (srcS (cB (pureC c_q_shapes) (ac (b2 subD (b2 subD (sl 0) (kk (.int 1))) (sl 2)) ac0))) (tN 4) yes (tup (ac (sl 3) (ac (sl 4) ac0))))) (tN 1))
    skp))
    skp) skp)
    skp))
    (sq (ret (b1 frZ (sl 1)))
    skp))))
def F_q_shapes : Nat → List Dv → Co Dv
  | 0 => fun _ => fl
  | n + 1 => defF 5 1 (b_q_shapes (F_q_shapes n))
def b_q_pick (c_q_taken : List Dv → Co Dv) : Slots → Co Fl :=
  (sq (ret (b2 ixD (sl 1) (cB (trimC c_q_taken) (ac (sl 0) (ac (cB lenD (ac (sl 1) ac0)) ac0)))))
    skp)
def F_q_pick : Nat → List Dv → Co Dv
  | 0 => fun _ => fl
  | n + 1 => defF 2 2 (b_q_pick (F_q_taken n))
def b_q_lots (c_q_lots : List Dv → Co Dv) : Slots → Co Fl :=
  (sq (ifs (tst (b2 (eqD false) (sl 1) (kk (.int 0)))) (sq (ret (lstG (ac (lstG ac0) ac0)))
    skp) skp)
    (sq (asg (lstG ac0) (tN 2))
    (sq (forX (srcR1 (ac (cB lenD (ac (sl 0) ac0)) ac0)) (tN 3) (sq (asg (b2 addD (sl 2) (lcX [4] (srcS (cB (pureC c_q_lots) (ac (slcG (sl 0) (pn1 (b2 addD (sl 3) (kk (.int 1)))) pn0) (ac (b2 subD (sl 1) (kk (.int 1))) ac0)))) (tN 4) yes (b2 addD (lstG (ac (b2 ixD (sl 0) (sl 3)) ac0)) (sl 4)))) (tN 2))
    skp))
    (sq (ret (b1 frZ (sl 2)))
    skp))))
def F_q_lots : Nat → List Dv → Co Dv
  | 0 => fun _ => fl
  | n + 1 => defF 5 2 (b_q_lots (F_q_lots n))
def b_q_places (c_q_places : List Dv → Co Dv) : Slots → Co Fl :=
  (sq (ret (iff (tst (b1 (isN false) (sl 0))) (kk (.int 0)) (b2 addD (b2 addD (kk (.int 1)) (cB (pureC c_q_places) (ac (b2 ixD (sl 0) (kk (.int 0))) ac0))) (cB (pureC c_q_places) (ac (b2 ixD (sl 0) (kk (.int 1))) ac0)))))
    skp)
def F_q_places : Nat → List Dv → Co Dv
  | 0 => fun _ => fl
  | n + 1 => defF 1 1 (b_q_places (F_q_places n))
def b_q_heaps (c_q_lots : List Dv → Co Dv) (c_q_heaps : List Dv → Co Dv) (c_q_places : List Dv → Co Dv) : Slots → Co Fl :=
  (sq (ifs (tst (b1 (isN false) (sl 0))) (sq (ret (lstG (ac (kk .none) ac0)))
    skp) skp)
    (sq (par2 2 3 (ac (cB (pureC c_q_places) (ac (b2 ixD (sl 0) (kk (.int 0))) ac0)) (ac (lstG ac0) ac0)))
    (sq (forX (srcS (cB (pureC c_q_lots) (ac (slcG (sl 1) (pn1 (kk (.int 1))) pn0) (ac (sl 2) ac0)))) (tN 4) (sq (asg (lcX [7] (srcS (slcG (sl 1) (pn1 (kk (.int 1))) pn0)) (tN 7) (tst (b2 (inD true) (sl 7) (sl 4))) (sl 7)) (tN 5))
    (sq (forX (srcS (cB (pureC c_q_heaps) (ac (b2 ixD (sl 0) (kk (.int 0))) (ac (sl 4) ac0)))) (tN 6) (sq (asg (b2 addD (sl 3) (lcX [8] (srcS (cB (pureC c_q_heaps) (ac (b2 ixD (sl 0) (kk (.int 1))) (ac (sl 5) ac0)))) (tN 8) yes (tup (ac (b2 ixD (sl 1) (kk (.int 0))) (ac (sl 6) (ac (sl 8) ac0)))))) (tN 3))
    skp))
    skp)))
    (sq (ret (b1 frZ (sl 3)))
    skp))))
def F_q_heaps : Nat → List Dv → Co Dv
  | 0 => fun _ => fl
  | n + 1 => defF 9 2 (b_q_heaps (F_q_lots n) (F_q_heaps n) (F_q_places n))
def b_q_alike (c_q_alike : List Dv → Co Dv) : Slots → Co Fl :=
  (sq (ifs (trV (isi2 "tuple" "list" (sl 1))) (sq (ifs (tor (tnt (trV (isi2 "tuple" "list" (sl 0)))) (tst (b2 (eqD true) (isi "list" (sl 0)) (isi "list" (sl 1))))) (sq (ret (kk (.bool false)))
    skp) skp)
    (sq (ifs (tst (b2 (eqD true) (cB lenD (ac (sl 0) ac0)) (cB lenD (ac (sl 1) ac0)))) (sq (ret (kk (.bool false)))
    skp) skp)
    (sq (ret (b2 (eqD false) (lcX [2] (srcR1 (ac (cB lenD (ac (sl 1) ac0)) ac0)) (tN 2) (tnt (trV (cB (pureC c_q_alike) (ac (b2 ixD (sl 0) (sl 2)) (ac (b2 ixD (sl 1) (sl 2)) ac0))))) (sl 2)) (lstG ac0)))
    skp))) skp)
    (sq (ifs (tor (tst (b1 (isN false) (sl 1))) (trV (isi "str" (sl 1)))) (sq (ret (andV (b2 (eqD false) (sl 0) (sl 1)) (b2 (eqD false) (isi "str" (sl 0)) (isi "str" (sl 1)))))
    skp) skp)
    (sq (ret (andV (isi "int" (sl 0)) (andV (b2 (eqD false) (isi "bool" (sl 0)) (isi "bool" (sl 1))) (b2 (eqD false) (sl 0) (sl 1)))))
    skp)))
def F_q_alike : Nat → List Dv → Co Dv
  | 0 => fun _ => fl
  | n + 1 => defF 3 2 (b_q_alike (F_q_alike n))
def b_q_bent (c_q_bent : List Dv → Co Dv) (c_q_taken : List Dv → Co Dv) (c_q_pick : List Dv → Co Dv) : Slots → Co Fl :=
  (sq (ifs (tor (tnt (trV (isi "tuple" (sl 1)))) (tor (tst (b2 (eqD false) (sl 1) (tup ac0))) (tst (b2 (eqD false) (cB (trimC c_q_taken) (ac (sl 0) (ac (kk (.int 3)) ac0))) (kk (.int 0)))))) (sq (ret (cB (trimC c_q_pick) (ac (sl 0) (ac (lstG (ac (kk .none) (ac (kk (.int 0)) (ac (kk (.bool true)) (ac (tup ac0) (ac (tup (ac (kk .none) (ac (kk .none) ac0))) (ac (tup (ac (kk .none) (ac (tup (ac (kk .none) (ac (kk .none) ac0))) ac0))) (ac (tup (ac (tup (ac (kk .none) (ac (kk .none) ac0))) (ac (kk .none) ac0))) (ac (tup (ac (kk .none) ac0)) (ac (lstG (ac (kk .none) (ac (kk .none) ac0))) (ac (kk (.str "a")) ac0))))))))))) ac0))))
    skp) skp)
    (sq (asg (cB (trimC c_q_taken) (ac (sl 0) (ac (cB lenD (ac (sl 1) ac0)) ac0))) (tN 2))
    (sq (ret (b2 addD (b2 addD (slcG (sl 1) pn0 (pn1 (sl 2))) (tup (ac (cB (trimC c_q_bent) (ac (sl 0) (ac (b2 ixD (sl 1) (sl 2)) ac0))) ac0))) (slcG (sl 1) (pn1 (b2 addD (sl 2) (kk (.int 1)))) pn0)))
    skp)))
def F_q_bent : Nat → List Dv → Co Dv
  | 0 => fun _ => fl
  | n + 1 => defF 3 2 (b_q_bent (F_q_bent n) (F_q_taken n) (F_q_pick n))
def b_is_in : Slots → Co Fl :=
  (sq (ret (andV (isi "int" (sl 0)) (andV (ntV (isi "bool" (sl 0))) (ch leD leD (sl 1) (sl 0) (sl 2)))))
    skp)
def F_is_in : Nat → List Dv → Co Dv
  | 0 => fun _ => fl
  | n + 1 => defF 3 3 (b_is_in )
def b_need_number (c_is_in : List Dv → Co Dv) : Slots → Co Fl :=
  (sq (ifs (tnt (trV (cB (pureC c_is_in) (ac (sl 0) (ac (kk (.int 0)) (ac (sl 1) ac0)))))) (sq nvr
    skp) skp)
    skp)
def F_need_number : Nat → List Dv → Co Dv
  | 0 => fun _ => fl
  | n + 1 => defF 2 2 (b_need_number (F_is_in n))
def b_parted : Slots → Co Fl :=
  (sq (ret (lcX [1] (srcR3 (ac (b2 subD (sl 0) (kk (.int 1))) (ac (b1 ngD (kk (.int 1))) (ac (b1 ngD (kk (.int 1))) ac0)))) (tN 1) (tor (tst (b2 gtD (sl 1) (kk (.int 0)))) (tst (b2 (eqD false) (sl 0) (kk (.int 1))))) (tup (ac (sl 1) (ac (b2 subD (b2 subD (sl 0) (kk (.int 1))) (sl 1)) ac0)))))
    skp)
def F_parted : Nat → List Dv → Co Dv
  | 0 => fun _ => fl
  | n + 1 => defF 2 1 (b_parted )
def b_counts_to (c_parted : List Dv → Co Dv) : Slots → Co Fl :=
  (sq (asg (lstR (ac (kk (.int 1)) ac0)) (tN 1))
    (sq (forX (srcR2 (ac (kk (.int 1)) (ac (b2 addD (sl 0) (kk (.int 1))) ac0))) (tN 2) (sq (drp (app (sl 1) (sumG (nxS (srcS (cB (pureC c_parted) (ac (sl 2) ac0)))) (tT 2 (tC (tN 0) (tC (tN 1) tZ))) (b2 mulD (b2 ixD (sl 2) (sl 0)) (b2 ixD (sl 2) (sl 1))) [none, none, some 1])))
    skp))
    (sq (ret (b1 frZ (sl 1)))
    skp)))
def F_counts_to : Nat → List Dv → Co Dv
  | 0 => fun _ => fl
  | 1 => fun _ => fl
  | n + 2 => defF 3 1 (b_counts_to (F_parted n))
def b_shape_count (c_counts_to : List Dv → Co Dv) (c_need_number : List Dv → Co Dv) : Slots → Co Fl :=
  (sq (drp (cB (pureC c_need_number) (ac (sl 0) (ac (kk (.int 200)) ac0))))
    (sq (ret (b2 ixD (cB (pureC c_counts_to) (ac (sl 0) ac0)) (sl 0)))
    skp))
def F_shape_count : Nat → List Dv → Co Dv
  | 0 => fun _ => fl
  | n + 1 => defF 1 1 (b_shape_count (F_counts_to n) (F_need_number n))
def b_numbered (c_numbered : List Dv → Co Dv) (c_parted : List Dv → Co Dv) : Slots → Co Fl :=
  (sq (ifs (tst (b2 (eqD false) (sl 0) (kk (.int 0)))) (sq (ret (kk .none))
    skp) skp)
    (sq (forX (srcS (cB (pureC c_parted) (ac (sl 0) ac0))) (tT 2 (tC (tN 3) (tC (tN 4) tZ))) (sq (asg (b2 mulD (b2 ixD (sl 2) (sl 3)) (b2 ixD (sl 2) (sl 4))) (tN 5))
    (sq (ifs (tst (b2 ltD (sl 1) (sl 5))) (sq brk
    skp) skp)
    (sq (asg (b2 subD (sl 1) (sl 5)) (tN 1))
    skp))))
    (sq (ret (tup (ac (cB (pureC c_numbered) (ac (sl 3) (ac (b2 fdivD (sl 1) (b2 ixD (sl 2) (sl 4))) (ac (sl 2) ac0)))) (ac (cB (pureC c_numbered) (ac (sl 4) (ac (b2 modD (sl 1) (b2 ixD (sl 2) (sl 4))) (ac (sl 2) ac0)))) ac0))))
    skp)))
def F_numbered : Nat → List Dv → Co Dv
  | 0 => fun _ => fl
  | n + 1 => defF 6 3 (b_numbered (F_numbered n) (F_parted n))
def b_shape_at (c_numbered : List Dv → Co Dv) (c_need_number : List Dv → Co Dv) (c_counts_to : List Dv → Co Dv) : Slots → Co Fl :=
  (sq (drp (cB (pureC c_need_number) (ac (sl 0) (ac (kk (.int 200)) ac0))))
    (sq (asg (cB (pureC c_counts_to) (ac (sl 0) ac0)) (tN 2))
    (sq (drp (cB (pureC c_need_number) (ac (sl 1) (ac (b2 subD (b2 ixD (sl 2) (sl 0)) (kk (.int 1))) ac0))))
    (sq (ret (cB (pureC c_numbered) (ac (sl 0) (ac (sl 1) (ac (sl 2) ac0)))))
    skp))))
def F_shape_at : Nat → List Dv → Co Dv
  | 0 => fun _ => fl
  | n + 1 => defF 3 2 (b_shape_at (F_numbered n) (F_need_number n) (F_counts_to n))
def b_has_form (c_has_form : List Dv → Co Dv) : Slots → Co Fl :=
  (sq (ifs (tst (b1 (isN false) (sl 0))) (sq (ret (kk (.bool true)))
    skp) skp)
    (sq (ifs (tor (tst (b2 (eqD false) (sl 1) (kk (.int 0)))) (tor (tnt (trV (isi "tuple" (sl 0)))) (tor (tst (b2 (eqD true) (cB lenD (ac (sl 0) ac0)) (kk (.int 2)))) (tand (tst (b1 (isN false) (b2 ixD (sl 0) (kk (.int 0))))) (tst (b1 (isN true) (b2 ixD (sl 0) (kk (.int 1))))))))) (sq (ret (kk (.bool false)))
    skp) skp)
    (sq (ret (andV (cB (pureC c_has_form) (ac (b2 ixD (sl 0) (kk (.int 0))) (ac (b2 subD (sl 1) (kk (.int 1))) ac0))) (cB (pureC c_has_form) (ac (b2 ixD (sl 0) (kk (.int 1))) (ac (b2 subD (sl 1) (kk (.int 1))) ac0)))))
    skp)))
def F_has_form : Nat → List Dv → Co Dv
  | 0 => fun _ => fl
  | n + 1 => defF 2 2 (b_has_form (F_has_form n))
def b_many_of (c_many_of : List Dv → Co Dv) : Slots → Co Fl :=
  (sq (ret (iff (tst (b1 (isN false) (sl 0))) (kk (.int 0)) (b2 addD (b2 addD (kk (.int 1)) (cB (pureC c_many_of) (ac (b2 ixD (sl 0) (kk (.int 0))) ac0))) (cB (pureC c_many_of) (ac (b2 ixD (sl 0) (kk (.int 1))) ac0)))))
    skp)
def F_many_of : Nat → List Dv → Co Dv
  | 0 => fun _ => fl
  | n + 1 => defF 1 1 (b_many_of (F_many_of n))
def b_is_turned_shape (c_many_of : List Dv → Co Dv) (c_has_form : List Dv → Co Dv) : Slots → Co Fl :=
  (sq (ret (andV (cB (pureC c_has_form) (ac (sl 0) (ac (kk (.int 200)) ac0))) (b2 leD (cB (pureC c_many_of) (ac (sl 0) ac0)) (kk (.int 200)))))
    skp)
def F_is_turned_shape : Nat → List Dv → Co Dv
  | 0 => fun _ => fl
  | n + 1 => defF 1 1 (b_is_turned_shape (F_many_of n) (F_has_form n))
def b_need_shape (c_is_turned_shape : List Dv → Co Dv) : Slots → Co Fl :=
  (sq (ifs (tnt (trV (cB (pureC c_is_turned_shape) (ac (sl 0) ac0)))) (sq nvr
    skp) skp)
    skp)
def F_need_shape : Nat → List Dv → Co Dv
  | 0 => fun _ => fl
  | n + 1 => defF 1 1 (b_need_shape (F_is_turned_shape n))
def b_index_of (c_index_of : List Dv → Co Dv) (c_parted : List Dv → Co Dv) (c_many_of : List Dv → Co Dv) : Slots → Co Fl :=
  (sq (ifs (tst (b1 (isN false) (sl 0))) (sq (ret (kk (.int 0)))
    skp) skp)
    (sq (par2 2 3 (ac (tup (ac (cB (pureC c_many_of) (ac (b2 ixD (sl 0) (kk (.int 0))) ac0)) (ac (cB (pureC c_many_of) (ac (b2 ixD (sl 0) (kk (.int 1))) ac0)) ac0))) (ac (kk (.int 0)) ac0)))
    (sq (forX (srcS (cB (pureC c_parted) (ac (cB (pureC c_many_of) (ac (sl 0) ac0)) ac0))) (tT 2 (tC (tN 4) (tC (tN 5) tZ))) (sq (ifs (tst (b2 (eqD false) (tup (ac (sl 4) (ac (sl 5) ac0))) (sl 2))) (sq brk
    skp) skp)
    (sq (asg (b2 addD (sl 3) (b2 mulD (b2 ixD (sl 1) (sl 4)) (b2 ixD (sl 1) (sl 5)))) (tN 3))
    skp)))
    (sq (ret (b2 addD (b2 addD (sl 3) (b2 mulD (cB (pureC c_index_of) (ac (b2 ixD (sl 0) (kk (.int 0))) (ac (sl 1) ac0))) (b2 ixD (sl 1) (b2 ixD (sl 2) (kk (.int 1)))))) (cB (pureC c_index_of) (ac (b2 ixD (sl 0) (kk (.int 1))) (ac (sl 1) ac0)))))
    skp))))
def F_index_of : Nat → List Dv → Co Dv
  | 0 => fun _ => fl
  | n + 1 => defF 6 2 (b_index_of (F_index_of n) (F_parted n) (F_many_of n))
def b_shape_index (c_index_of : List Dv → Co Dv) (c_counts_to : List Dv → Co Dv) (c_many_of : List Dv → Co Dv) (c_need_shape : List Dv → Co Dv) : Slots → Co Fl :=
  (sq (drp (cB (pureC c_need_shape) (ac (sl 0) ac0)))
    (sq (ret (cB (pureC c_index_of) (ac (sl 0) (ac (cB (pureC c_counts_to) (ac (cB (pureC c_many_of) (ac (sl 0) ac0)) ac0)) ac0))))
    skp))
def F_shape_index : Nat → List Dv → Co Dv
  | 0 => fun _ => fl
  | n + 1 => defF 1 1 (b_shape_index (F_index_of n) (F_counts_to n) (F_many_of n) (F_need_shape n))
def b_sizes (c_many_of : List Dv → Co Dv) (c_sizes : List Dv → Co Dv) : Slots → Co Fl :=
  (sq (ret (iff (tst (b1 (isN false) (sl 0))) (kk (.int 1)) (b2 mulD (b2 mulD (cB (pureC c_many_of) (ac (sl 0) ac0)) (cB (pureC c_sizes) (ac (b2 ixD (sl 0) (kk (.int 0))) ac0))) (cB (pureC c_sizes) (ac (b2 ixD (sl 0) (kk (.int 1))) ac0)))))
    skp)
def F_sizes : Nat → List Dv → Co Dv
  | 0 => fun _ => fl
  | n + 1 => defF 1 1 (b_sizes (F_many_of n) (F_sizes n))
def b_heaps_of (c_many_of : List Dv → Co Dv) (c_sizes : List Dv → Co Dv) : Slots → Co Fl :=
  (sq (ret (b2 fdivD (cB factD (ac (cB (pureC c_many_of) (ac (sl 0) ac0)) ac0)) (cB (pureC c_sizes) (ac (sl 0) ac0))))
    skp)
def F_heaps_of : Nat → List Dv → Co Dv
  | 0 => fun _ => fl
  | n + 1 => defF 1 1 (b_heaps_of (F_many_of n) (F_sizes n))
def b_shape_heaps (c_heaps_of : List Dv → Co Dv) (c_need_shape : List Dv → Co Dv) : Slots → Co Fl :=
  (sq (drp (cB (pureC c_need_shape) (ac (sl 0) ac0)))
    (sq (ret (cB (pureC c_heaps_of) (ac (sl 0) ac0)))
    skp))
def F_shape_heaps : Nat → List Dv → Co Dv
  | 0 => fun _ => fl
  | n + 1 => defF 1 1 (b_shape_heaps (F_heaps_of n) (F_need_shape n))
def b_q_join : Slots → Co Fl :=
  (sq (par2 2 3 (ac (lstR ac0) (ac (kk (.int 0)) ac0)))
    (sq (whl (tand (tst (b1 (isN true) (sl 0))) (tst (b1 (isN true) (sl 1)))) (sq (ifs (tst (b2 ltD (b2 ixD (sl 1) (kk (.int 0))) (b2 ixD (sl 0) (kk (.int 0))))) (sq (par2 0 1 (ac (sl 1) (ac (sl 0) ac0)))
    skp) skp)
    (sq (drp (app (sl 2) (sl 0)))
    (sq (par2 0 3 (ac (b2 ixD (sl 0) (kk (.int 2))) (ac (b2 addD (sl 3) (kk (.int 1))) ac0)))
    skp))) 1000)
    (sq (asg (iff (tst (b1 (isN false) (sl 1))) (sl 0) (sl 1)) (tN 4))
    (sq (forX (srcS (b1 rvD (sl 2))) (tN 5) (sq (asg (tup (ac (b2 ixD (sl 5) (kk (.int 0))) (ac (sl 4) (ac (b2 ixD (sl 5) (kk (.int 1))) ac0)))) (tN 4))
    skp))
    (sq (ret (tup (ac (sl 4) (ac (sl 3) ac0))))
    skp)))))
def F_q_join : Nat → List Dv → Co Dv
  | 0 => fun _ => fl
  | n + 1 => defF 6 2 (b_q_join )
def b_q_built (c_q_join : List Dv → Co Dv) : Slots → Co Fl :=
  (sq (asg (tup (ac (kk .none) (ac (kk (.int 0)) ac0))) (tT 2 (tC (tN 1) (tC (tN 2) tZ))))
    (sq (forX (srcS (sl 0)) (tN 3) (sq (asg (cB (pureC c_q_join) (ac (sl 1) (ac (tup (ac (sl 3) (ac (kk .none) (ac (kk .none) ac0)))) ac0))) (tT 2 (tC (tN 1) (tC (tN 4) tZ))))
    (sq (asg (b2 addD (sl 2) (sl 4)) (tN 2))
    skp)))
    (sq (ret (tup (ac (sl 1) (ac (sl 2) ac0))))
    skp)))
def F_q_built : Nat → List Dv → Co Dv
  | 0 => fun _ => fl
  | n + 1 => defF 5 1 (b_q_built (F_q_join n))
def b_q_orders (c_q_orders : List Dv → Co Dv) : Slots → Co Fl :=
  (sq (ifs (tst (b2 (eqD false) (sl 0) (lstG ac0))) (sq (ret (lstG (ac (tup ac0) ac0)))
    skp) skp)
    (sq (asg (lstG ac0) (tN 1))
    (sq (forX (srcS (sl 0)) (tN 2) (sq (asg (b2 addD (sl 1) (lcX [3] (srcS (cB (pureC c_q_orders) (ac (lcX [4] (srcS (sl 0)) (tN 4) (tst (b2 (eqD true) (sl 4) (sl 2))) (sl 4)) ac0))) (tN 3) yes (b2 addD (tup (ac (sl 2) ac0)) (sl 3)))) (tN 1))
    skp))
    (sq (ret (b1 frZ (sl 1)))
    skp))))
def F_q_orders : Nat → List Dv → Co Dv
  | 0 => fun _ => fl
  | n + 1 => defF 5 1 (b_q_orders (F_q_orders n))
def b_places (c_many_of : List Dv → Co Dv) (c_need_shape : List Dv → Co Dv) : Slots → Co Fl :=
  (sq (drp (cB (pureC c_need_shape) (ac (sl 0) ac0)))
    (sq (ret (cB (pureC c_many_of) (ac (sl 0) ac0)))
    skp))
def F_places : Nat → List Dv → Co Dv
  | 0 => fun _ => fl
  | n + 1 => defF 1 1 (b_places (F_many_of n) (F_need_shape n))
def b_q_is_shape (c_q_is_shape : List Dv → Co Dv) : Slots → Co Fl :=
  (sq (ifs (tst (b1 (isN false) (sl 0))) (sq (ret (kk (.bool true)))
    skp) skp)
    (sq (ifs (tor (tnt (trV (isi "tuple" (sl 0)))) (tor (tst (b2 (eqD true) (cB lenD (ac (sl 0) ac0)) (kk (.int 2)))) (tand (tst (b1 (isN false) (b2 ixD (sl 0) (kk (.int 0))))) (tst (b1 (isN true) (b2 ixD (sl 0) (kk (.int 1)))))))) (sq (ret (kk (.bool false)))
    skp) skp)
    (sq (ret (andV (cB (pureC c_q_is_shape) (ac (b2 ixD (sl 0) (kk (.int 0))) ac0)) (cB (pureC c_q_is_shape) (ac (b2 ixD (sl 0) (kk (.int 1))) ac0))))
    skp)))
def F_q_is_shape : Nat → List Dv → Co Dv
  | 0 => fun _ => fl
  | n + 1 => defF 1 1 (b_q_is_shape (F_q_is_shape n))
def b_q_two : Slots → Co Fl :=
  (sq (asg (kk (.int 1)) (tN 1))
    (sq (forX (srcR1 (ac (sl 0) ac0)) (tN 2) (sq (asg (b2 mulD (sl 1) (kk (.int 2))) (tN 1))
    skp))
    (sq (ret (b1 frZ (sl 1)))
    skp)))
def F_q_two : Nat → List Dv → Co Dv
  | 0 => fun _ => fl
  | n + 1 => defF 3 1 (b_q_two )
def b_heap_count (c_parted : List Dv → Co Dv) (c_need_number : List Dv → Co Dv) : Slots → Co Fl :=
  (sq (drp (cB (pureC c_need_number) (ac (sl 0) (ac (kk (.int 200)) ac0))))
    (sq (asg (lstR (ac (kk (.int 1)) ac0)) (tN 1))
    (sq (forX (srcR2 (ac (kk (.int 1)) (ac (b2 addD (sl 0) (kk (.int 1))) ac0))) (tN 2) (sq (drp (app (sl 1) (sumG (nxS (srcS (cB (pureC c_parted) (ac (sl 2) ac0)))) (tT 2 (tC (tN 0) (tC (tN 1) tZ))) (b2 mulD (b2 mulD (cB combD (ac (b2 subD (sl 3) (kk (.int 1))) (ac (sl 0) ac0))) (b2 ixD (sl 2) (sl 0))) (b2 ixD (sl 2) (sl 1))) [none, none, some 1, some 2])))
    skp))
    (sq (ret (b2 ixD (sl 1) (sl 0)))
    skp))))
def F_heap_count : Nat → List Dv → Co Dv
  | 0 => fun _ => fl
  | 1 => fun _ => fl
  | n + 2 => defF 3 1 (b_heap_count (F_parted n) (F_need_number n))
def b_stepped (c_stepped : List Dv → Co Dv) : Slots → Co Fl :=
  (sq (ifs (tst (b1 (isN true) (b2 ixD (sl 0) (kk (.int 1))))) (sq (asg (cB (pureC c_stepped) (ac (b2 ixD (sl 0) (kk (.int 0))) ac0)) (tT 2 (tC (tN 1) (tC (tN 2) tZ))))
    (sq (ret (tup (ac (tup (ac (b2 ixD (sl 0) (kk (.int 1))) (ac (sl 1) ac0))) (ac (sl 2) ac0))))
    skp)) skp)
    (sq (ret (tup (ac (b2 ixD (sl 0) (kk (.int 0))) (ac (b2 (eqD false) (b2 ixD (sl 0) (kk (.int 0))) (tup (ac (kk .none) (ac (kk .none) ac0)))) ac0))))
    skp))
def F_stepped : Nat → List Dv → Co Dv
  | 0 => fun _ => fl
  | n + 1 => defF 3 1 (b_stepped (F_stepped n))
def b_choices_of (c_stepped : List Dv → Co Dv) : Slots → Co Fl :=
  (sq (asg (kk (.int 0)) (tN 1))
    (sq (whl (tst (b1 (isN true) (sl 0))) (sq (asg (cB (pureC c_stepped) (ac (sl 0) ac0)) (tT 2 (tC (tN 0) (tC (tN 2) tZ))))
    (sq (asg (b2 addD (sl 1) (iff (trV (sl 2)) (kk (.int 1)) (kk (.int 0)))) (tN 1))
    skp)) 1000)
    (sq (ret (b1 frZ (sl 1)))
    skp)))
def F_choices_of : Nat → List Dv → Co Dv
  | 0 => fun _ => fl
  | n + 1 => defF 3 1 (b_choices_of (F_stepped n))
def b_whole (c_heaps_of : List Dv → Co Dv) (c_choices_of : List Dv → Co Dv) (c_numbered : List Dv → Co Dv) (c_counts_to : List Dv → Co Dv) (c_need_number : List Dv → Co Dv) : Slots → Co Fl :=
  (sq (drp (cB (pureC c_need_number) (ac (sl 0) (ac (kk (.int 10)) ac0))))
    (sq (asg (cB (pureC c_counts_to) (ac (sl 0) ac0)) (tN 1))
    (sq (asg (lcX [3] (srcR1 (ac (b2 ixD (sl 1) (sl 0)) ac0)) (tN 3) yes (cB (pureC c_numbered) (ac (sl 0) (ac (sl 3) (ac (sl 1) ac0))))) (tN 2))
    (sq (ret (sumG (nxS (srcS (sl 2))) (tN 0) (b2 shlD (cB (pureC c_heaps_of) (ac (sl 0) ac0)) (cB (pureC c_choices_of) (ac (sl 0) ac0))) [none]))
    skp))))
def F_whole : Nat → List Dv → Co Dv
  | 0 => fun _ => fl
  | 1 => fun _ => fl
  | n + 2 => defF 4 1 (b_whole (F_heaps_of n) (F_choices_of n) (F_numbered n) (F_counts_to n) (F_need_number n))
def b_shape_choices (c_choices_of : List Dv → Co Dv) (c_need_shape : List Dv → Co Dv) : Slots → Co Fl :=
  (sq (drp (cB (pureC c_need_shape) (ac (sl 0) ac0)))
    (sq (ret (cB (pureC c_choices_of) (ac (sl 0) ac0)))
    skp))
def F_shape_choices : Nat → List Dv → Co Dv
  | 0 => fun _ => fl
  | n + 1 => defF 1 1 (b_shape_choices (F_choices_of n) (F_need_shape n))
def law_s0 (c_q_shapes : List Dv → Co Dv) (c_q_alike : List Dv → Co Dv) (c_q_two : List Dv → Co Dv) (c_shape_choices : List Dv → Co Dv) (c_q_pick : List Dv → Co Dv) (c_q_heaps : List Dv → Co Dv) (c_q_orders : List Dv → Co Dv) (c_q_built : List Dv → Co Dv) (c_q_taken : List Dv → Co Dv) (c_whole : List Dv → Co Dv) (c_heap_count : List Dv → Co Dv) (c_shape_heaps : List Dv → Co Dv) (c_q_is_shape : List Dv → Co Dv) (c_is_turned_shape : List Dv → Co Dv) (c_q_bent : List Dv → Co Dv) (c_places : List Dv → Co Dv) (c_shape_index : List Dv → Co Dv) (c_shape_at : List Dv → Co Dv) (c_shape_count : List Dv → Co Dv) : Slots → Co Fl :=
  (asg (lstR (ac (sl 0) (ac (kk (.int 0)) (ac (kk (.int 14504)) (ac (kk (.int 0)) ac0))))) (tN 1))
def law_s1 (c_q_shapes : List Dv → Co Dv) (c_q_alike : List Dv → Co Dv) (c_q_two : List Dv → Co Dv) (c_shape_choices : List Dv → Co Dv) (c_q_pick : List Dv → Co Dv) (c_q_heaps : List Dv → Co Dv) (c_q_orders : List Dv → Co Dv) (c_q_built : List Dv → Co Dv) (c_q_taken : List Dv → Co Dv) (c_whole : List Dv → Co Dv) (c_heap_count : List Dv → Co Dv) (c_shape_heaps : List Dv → Co Dv) (c_q_is_shape : List Dv → Co Dv) (c_is_turned_shape : List Dv → Co Dv) (c_q_bent : List Dv → Co Dv) (c_places : List Dv → Co Dv) (c_shape_index : List Dv → Co Dv) (c_shape_at : List Dv → Co Dv) (c_shape_count : List Dv → Co Dv) : Slots → Co Fl :=
  (asg (cB (trimC c_q_taken) (ac (sl 1) (ac (kk (.int 7)) ac0))) (tN 2))
def law_s2 (c_q_shapes : List Dv → Co Dv) (c_q_alike : List Dv → Co Dv) (c_q_two : List Dv → Co Dv) (c_shape_choices : List Dv → Co Dv) (c_q_pick : List Dv → Co Dv) (c_q_heaps : List Dv → Co Dv) (c_q_orders : List Dv → Co Dv) (c_q_built : List Dv → Co Dv) (c_q_taken : List Dv → Co Dv) (c_whole : List Dv → Co Dv) (c_heap_count : List Dv → Co Dv) (c_shape_heaps : List Dv → Co Dv) (c_q_is_shape : List Dv → Co Dv) (c_is_turned_shape : List Dv → Co Dv) (c_q_bent : List Dv → Co Dv) (c_places : List Dv → Co Dv) (c_shape_index : List Dv → Co Dv) (c_shape_at : List Dv → Co Dv) (c_shape_count : List Dv → Co Dv) : Slots → Co Fl :=
  (asg (cB (pureC c_q_shapes) (ac (sl 2) ac0)) (tN 3))
def law_s3 (c_q_shapes : List Dv → Co Dv) (c_q_alike : List Dv → Co Dv) (c_q_two : List Dv → Co Dv) (c_shape_choices : List Dv → Co Dv) (c_q_pick : List Dv → Co Dv) (c_q_heaps : List Dv → Co Dv) (c_q_orders : List Dv → Co Dv) (c_q_built : List Dv → Co Dv) (c_q_taken : List Dv → Co Dv) (c_whole : List Dv → Co Dv) (c_heap_count : List Dv → Co Dv) (c_shape_heaps : List Dv → Co Dv) (c_q_is_shape : List Dv → Co Dv) (c_is_turned_shape : List Dv → Co Dv) (c_q_bent : List Dv → Co Dv) (c_places : List Dv → Co Dv) (c_shape_index : List Dv → Co Dv) (c_shape_at : List Dv → Co Dv) (c_shape_count : List Dv → Co Dv) : Slots → Co Fl :=
  (asg (cB (trimC c_q_pick) (ac (sl 1) (ac (sl 3) ac0))) (tN 4))
def law_s4 (c_q_shapes : List Dv → Co Dv) (c_q_alike : List Dv → Co Dv) (c_q_two : List Dv → Co Dv) (c_shape_choices : List Dv → Co Dv) (c_q_pick : List Dv → Co Dv) (c_q_heaps : List Dv → Co Dv) (c_q_orders : List Dv → Co Dv) (c_q_built : List Dv → Co Dv) (c_q_taken : List Dv → Co Dv) (c_whole : List Dv → Co Dv) (c_heap_count : List Dv → Co Dv) (c_shape_heaps : List Dv → Co Dv) (c_q_is_shape : List Dv → Co Dv) (c_is_turned_shape : List Dv → Co Dv) (c_q_bent : List Dv → Co Dv) (c_places : List Dv → Co Dv) (c_shape_index : List Dv → Co Dv) (c_shape_at : List Dv → Co Dv) (c_shape_count : List Dv → Co Dv) : Slots → Co Fl :=
  (ifs (tnt (trV (cB (pureC c_q_alike) (ac (cB (pureC c_shape_count) (ac (sl 2) ac0)) (ac (cB lenD (ac (sl 3) ac0)) ac0))))) (sq (ret (kk (.bool false)))
    skp) skp)
def law_s5 (c_q_shapes : List Dv → Co Dv) (c_q_alike : List Dv → Co Dv) (c_q_two : List Dv → Co Dv) (c_shape_choices : List Dv → Co Dv) (c_q_pick : List Dv → Co Dv) (c_q_heaps : List Dv → Co Dv) (c_q_orders : List Dv → Co Dv) (c_q_built : List Dv → Co Dv) (c_q_taken : List Dv → Co Dv) (c_whole : List Dv → Co Dv) (c_heap_count : List Dv → Co Dv) (c_shape_heaps : List Dv → Co Dv) (c_q_is_shape : List Dv → Co Dv) (c_is_turned_shape : List Dv → Co Dv) (c_q_bent : List Dv → Co Dv) (c_places : List Dv → Co Dv) (c_shape_index : List Dv → Co Dv) (c_shape_at : List Dv → Co Dv) (c_shape_count : List Dv → Co Dv) : Slots → Co Fl :=
  (ifs (tnt (trV (cB (pureC c_q_alike) (ac (cB (pureC c_shape_at) (ac (sl 2) (ac (mdF ixF (sl 3) (sl 4)) ac0))) (ac (sl 4) ac0))))) (sq (ret (kk (.bool false)))
    skp) skp)
def law_s6 (c_q_shapes : List Dv → Co Dv) (c_q_alike : List Dv → Co Dv) (c_q_two : List Dv → Co Dv) (c_shape_choices : List Dv → Co Dv) (c_q_pick : List Dv → Co Dv) (c_q_heaps : List Dv → Co Dv) (c_q_orders : List Dv → Co Dv) (c_q_built : List Dv → Co Dv) (c_q_taken : List Dv → Co Dv) (c_whole : List Dv → Co Dv) (c_heap_count : List Dv → Co Dv) (c_shape_heaps : List Dv → Co Dv) (c_q_is_shape : List Dv → Co Dv) (c_is_turned_shape : List Dv → Co Dv) (c_q_bent : List Dv → Co Dv) (c_places : List Dv → Co Dv) (c_shape_index : List Dv → Co Dv) (c_shape_at : List Dv → Co Dv) (c_shape_count : List Dv → Co Dv) : Slots → Co Fl :=
  (ifs (tnt (trV (cB (pureC c_q_alike) (ac (cB (pureC c_shape_index) (ac (sl 4) ac0)) (ac (mdF ixF (sl 3) (sl 4)) ac0))))) (sq (ret (kk (.bool false)))
    skp) skp)
def law_s7 (c_q_shapes : List Dv → Co Dv) (c_q_alike : List Dv → Co Dv) (c_q_two : List Dv → Co Dv) (c_shape_choices : List Dv → Co Dv) (c_q_pick : List Dv → Co Dv) (c_q_heaps : List Dv → Co Dv) (c_q_orders : List Dv → Co Dv) (c_q_built : List Dv → Co Dv) (c_q_taken : List Dv → Co Dv) (c_whole : List Dv → Co Dv) (c_heap_count : List Dv → Co Dv) (c_shape_heaps : List Dv → Co Dv) (c_q_is_shape : List Dv → Co Dv) (c_is_turned_shape : List Dv → Co Dv) (c_q_bent : List Dv → Co Dv) (c_places : List Dv → Co Dv) (c_shape_index : List Dv → Co Dv) (c_shape_at : List Dv → Co Dv) (c_shape_count : List Dv → Co Dv) : Slots → Co Fl :=
  (ifs (tor (tnt (trV (cB (pureC c_q_alike) (ac (cB (pureC c_is_turned_shape) (ac (sl 4) ac0)) (ac (kk (.bool true)) ac0))))) (tnt (trV (cB (pureC c_q_alike) (ac (cB (pureC c_places) (ac (sl 4) ac0)) (ac (sl 2) ac0)))))) (sq (ret (kk (.bool false)))
    skp) skp)
def law_s8 (c_q_shapes : List Dv → Co Dv) (c_q_alike : List Dv → Co Dv) (c_q_two : List Dv → Co Dv) (c_shape_choices : List Dv → Co Dv) (c_q_pick : List Dv → Co Dv) (c_q_heaps : List Dv → Co Dv) (c_q_orders : List Dv → Co Dv) (c_q_built : List Dv → Co Dv) (c_q_taken : List Dv → Co Dv) (c_whole : List Dv → Co Dv) (c_heap_count : List Dv → Co Dv) (c_shape_heaps : List Dv → Co Dv) (c_q_is_shape : List Dv → Co Dv) (c_is_turned_shape : List Dv → Co Dv) (c_q_bent : List Dv → Co Dv) (c_places : List Dv → Co Dv) (c_shape_index : List Dv → Co Dv) (c_shape_at : List Dv → Co Dv) (c_shape_count : List Dv → Co Dv) : Slots → Co Fl :=
  (forX (srcR1 (ac (kk (.int 6)) ac0)) (tN 5) (sq (asg (cB (trimC c_q_bent) (ac (sl 1) (ac (sl 4) ac0))) (tN 6))
    (sq (ifs (tnt (trV (cB (pureC c_q_alike) (ac (cB (pureC c_is_turned_shape) (ac (sl 6) ac0)) (ac (cB (pureC c_q_is_shape) (ac (sl 6) ac0)) ac0))))) (sq (ret (kk (.bool false)))
    skp) skp)
    skp)))
def law_s9 (c_q_shapes : List Dv → Co Dv) (c_q_alike : List Dv → Co Dv) (c_q_two : List Dv → Co Dv) (c_shape_choices : List Dv → Co Dv) (c_q_pick : List Dv → Co Dv) (c_q_heaps : List Dv → Co Dv) (c_q_orders : List Dv → Co Dv) (c_q_built : List Dv → Co Dv) (c_q_taken : List Dv → Co Dv) (c_whole : List Dv → Co Dv) (c_heap_count : List Dv → Co Dv) (c_shape_heaps : List Dv → Co Dv) (c_q_is_shape : List Dv → Co Dv) (c_is_turned_shape : List Dv → Co Dv) (c_q_bent : List Dv → Co Dv) (c_places : List Dv → Co Dv) (c_shape_index : List Dv → Co Dv) (c_shape_at : List Dv → Co Dv) (c_shape_count : List Dv → Co Dv) : Slots → Co Fl :=
  (asg (cB (pureC c_q_heaps) (ac (sl 4) (ac (lrg2 (kk (.int 1)) (b2 addD (sl 2) (kk (.int 1)))) ac0))) (tN 7))
def law_s10 (c_q_shapes : List Dv → Co Dv) (c_q_alike : List Dv → Co Dv) (c_q_two : List Dv → Co Dv) (c_shape_choices : List Dv → Co Dv) (c_q_pick : List Dv → Co Dv) (c_q_heaps : List Dv → Co Dv) (c_q_orders : List Dv → Co Dv) (c_q_built : List Dv → Co Dv) (c_q_taken : List Dv → Co Dv) (c_whole : List Dv → Co Dv) (c_heap_count : List Dv → Co Dv) (c_shape_heaps : List Dv → Co Dv) (c_q_is_shape : List Dv → Co Dv) (c_is_turned_shape : List Dv → Co Dv) (c_q_bent : List Dv → Co Dv) (c_places : List Dv → Co Dv) (c_shape_index : List Dv → Co Dv) (c_shape_at : List Dv → Co Dv) (c_shape_count : List Dv → Co Dv) : Slots → Co Fl :=
  (ifs (tnt (trV (cB (pureC c_q_alike) (ac (cB (pureC c_shape_heaps) (ac (sl 4) ac0)) (ac (cB lenD (ac (sl 7) ac0)) ac0))))) (sq (ret (kk (.bool false)))
    skp) skp)
def law_s11 (c_q_shapes : List Dv → Co Dv) (c_q_alike : List Dv → Co Dv) (c_q_two : List Dv → Co Dv) (c_shape_choices : List Dv → Co Dv) (c_q_pick : List Dv → Co Dv) (c_q_heaps : List Dv → Co Dv) (c_q_orders : List Dv → Co Dv) (c_q_built : List Dv → Co Dv) (c_q_taken : List Dv → Co Dv) (c_whole : List Dv → Co Dv) (c_heap_count : List Dv → Co Dv) (c_shape_heaps : List Dv → Co Dv) (c_q_is_shape : List Dv → Co Dv) (c_is_turned_shape : List Dv → Co Dv) (c_q_bent : List Dv → Co Dv) (c_places : List Dv → Co Dv) (c_shape_index : List Dv → Co Dv) (c_shape_at : List Dv → Co Dv) (c_shape_count : List Dv → Co Dv) : Slots → Co Fl :=
  (ifs (tst (b2 leD (sl 2) (kk (.int 5)))) (sq (asg (tup (ac (kk (.int 0)) (ac (kk (.int 0)) ac0))) (tT 2 (tC (tN 8) (tC (tN 9) tZ))))
    (sq (forX (srcS (sl 3)) (tN 10) (sq (asg (cB (pureC c_q_heaps) (ac (sl 10) (ac (lrg2 (kk (.int 1)) (b2 addD (sl 2) (kk (.int 1)))) ac0))) (tN 11))
    (sq (par2 8 9 (ac (b2 addD (sl 8) (cB lenD (ac (sl 11) ac0))) (ac (b2 addD (sl 9) (b2 mulD (cB lenD (ac (sl 11) ac0)) (cB (pureC c_q_two) (ac (cB (pureC c_shape_choices) (ac (sl 10) ac0)) ac0)))) ac0)))
    skp)))
    (sq (ifs (tor (tnt (trV (cB (pureC c_q_alike) (ac (cB (pureC c_heap_count) (ac (sl 2) ac0)) (ac (sl 8) ac0))))) (tnt (trV (cB (pureC c_q_alike) (ac (cB (pureC c_whole) (ac (sl 2) ac0)) (ac (sl 9) ac0)))))) (sq (ret (kk (.bool false)))
    skp) skp)
    skp))) skp)
def law_s12 (c_q_shapes : List Dv → Co Dv) (c_q_alike : List Dv → Co Dv) (c_q_two : List Dv → Co Dv) (c_shape_choices : List Dv → Co Dv) (c_q_pick : List Dv → Co Dv) (c_q_heaps : List Dv → Co Dv) (c_q_orders : List Dv → Co Dv) (c_q_built : List Dv → Co Dv) (c_q_taken : List Dv → Co Dv) (c_whole : List Dv → Co Dv) (c_heap_count : List Dv → Co Dv) (c_shape_heaps : List Dv → Co Dv) (c_q_is_shape : List Dv → Co Dv) (c_is_turned_shape : List Dv → Co Dv) (c_q_bent : List Dv → Co Dv) (c_places : List Dv → Co Dv) (c_shape_index : List Dv → Co Dv) (c_shape_at : List Dv → Co Dv) (c_shape_count : List Dv → Co Dv) : Slots → Co Fl :=
  (asg (cB (trimC c_q_taken) (ac (sl 1) (ac (kk (.int 6)) ac0))) (tN 12))
def law_s13 (c_q_shapes : List Dv → Co Dv) (c_q_alike : List Dv → Co Dv) (c_q_two : List Dv → Co Dv) (c_shape_choices : List Dv → Co Dv) (c_q_pick : List Dv → Co Dv) (c_q_heaps : List Dv → Co Dv) (c_q_orders : List Dv → Co Dv) (c_q_built : List Dv → Co Dv) (c_q_taken : List Dv → Co Dv) (c_whole : List Dv → Co Dv) (c_heap_count : List Dv → Co Dv) (c_shape_heaps : List Dv → Co Dv) (c_q_is_shape : List Dv → Co Dv) (c_is_turned_shape : List Dv → Co Dv) (c_q_bent : List Dv → Co Dv) (c_places : List Dv → Co Dv) (c_shape_index : List Dv → Co Dv) (c_shape_at : List Dv → Co Dv) (c_shape_count : List Dv → Co Dv) : Slots → Co Fl :=
  (asg (lcX [15] (srcS (cB (pureC c_q_orders) (ac (lrg2 (kk (.int 1)) (b2 addD (sl 12) (kk (.int 1)))) ac0))) (tN 15) yes (b2 ixD (cB (pureC c_q_built) (ac (sl 15) ac0)) (kk (.int 0)))) (tN 13))
def law_s14 (c_q_shapes : List Dv → Co Dv) (c_q_alike : List Dv → Co Dv) (c_q_two : List Dv → Co Dv) (c_shape_choices : List Dv → Co Dv) (c_q_pick : List Dv → Co Dv) (c_q_heaps : List Dv → Co Dv) (c_q_orders : List Dv → Co Dv) (c_q_built : List Dv → Co Dv) (c_q_taken : List Dv → Co Dv) (c_whole : List Dv → Co Dv) (c_heap_count : List Dv → Co Dv) (c_shape_heaps : List Dv → Co Dv) (c_q_is_shape : List Dv → Co Dv) (c_is_turned_shape : List Dv → Co Dv) (c_q_bent : List Dv → Co Dv) (c_places : List Dv → Co Dv) (c_shape_index : List Dv → Co Dv) (c_shape_at : List Dv → Co Dv) (c_shape_count : List Dv → Co Dv) : Slots → Co Fl :=
  (forX (srcS (cB (pureC c_q_shapes) (ac (sl 12) ac0))) (tN 10) (sq (asg (mdF ctF (sl 13) (cB (trimC c_q_pick) (ac (sl 1) (ac (cB (pureC c_q_heaps) (ac (sl 10) (ac (lrg2 (kk (.int 1)) (b2 addD (sl 12) (kk (.int 1)))) ac0))) ac0)))) (tN 14))
    (sq (ifs (tnt (trV (cB (pureC c_q_alike) (ac (cB (pureC c_q_two) (ac (cB (pureC c_shape_choices) (ac (sl 10) ac0)) ac0)) (ac (sl 14) ac0))))) (sq (ret (kk (.bool false)))
    skp) skp)
    skp)))
def law_s15 (c_q_shapes : List Dv → Co Dv) (c_q_alike : List Dv → Co Dv) (c_q_two : List Dv → Co Dv) (c_shape_choices : List Dv → Co Dv) (c_q_pick : List Dv → Co Dv) (c_q_heaps : List Dv → Co Dv) (c_q_orders : List Dv → Co Dv) (c_q_built : List Dv → Co Dv) (c_q_taken : List Dv → Co Dv) (c_whole : List Dv → Co Dv) (c_heap_count : List Dv → Co Dv) (c_shape_heaps : List Dv → Co Dv) (c_q_is_shape : List Dv → Co Dv) (c_is_turned_shape : List Dv → Co Dv) (c_q_bent : List Dv → Co Dv) (c_places : List Dv → Co Dv) (c_shape_index : List Dv → Co Dv) (c_shape_at : List Dv → Co Dv) (c_shape_count : List Dv → Co Dv) : Slots → Co Fl :=
  (ret (kk (.bool true)))
def b_law (c_q_shapes : List Dv → Co Dv) (c_q_alike : List Dv → Co Dv) (c_q_two : List Dv → Co Dv) (c_shape_choices : List Dv → Co Dv) (c_q_pick : List Dv → Co Dv) (c_q_heaps : List Dv → Co Dv) (c_q_orders : List Dv → Co Dv) (c_q_built : List Dv → Co Dv) (c_q_taken : List Dv → Co Dv) (c_whole : List Dv → Co Dv) (c_heap_count : List Dv → Co Dv) (c_shape_heaps : List Dv → Co Dv) (c_q_is_shape : List Dv → Co Dv) (c_is_turned_shape : List Dv → Co Dv) (c_q_bent : List Dv → Co Dv) (c_places : List Dv → Co Dv) (c_shape_index : List Dv → Co Dv) (c_shape_at : List Dv → Co Dv) (c_shape_count : List Dv → Co Dv) : Slots → Co Fl :=
  (sq (law_s0 c_q_shapes c_q_alike c_q_two c_shape_choices c_q_pick c_q_heaps c_q_orders c_q_built c_q_taken c_whole c_heap_count c_shape_heaps c_q_is_shape c_is_turned_shape c_q_bent c_places c_shape_index c_shape_at c_shape_count) (sq (law_s1 c_q_shapes c_q_alike c_q_two c_shape_choices c_q_pick c_q_heaps c_q_orders c_q_built c_q_taken c_whole c_heap_count c_shape_heaps c_q_is_shape c_is_turned_shape c_q_bent c_places c_shape_index c_shape_at c_shape_count) (sq (law_s2 c_q_shapes c_q_alike c_q_two c_shape_choices c_q_pick c_q_heaps c_q_orders c_q_built c_q_taken c_whole c_heap_count c_shape_heaps c_q_is_shape c_is_turned_shape c_q_bent c_places c_shape_index c_shape_at c_shape_count) (sq (law_s3 c_q_shapes c_q_alike c_q_two c_shape_choices c_q_pick c_q_heaps c_q_orders c_q_built c_q_taken c_whole c_heap_count c_shape_heaps c_q_is_shape c_is_turned_shape c_q_bent c_places c_shape_index c_shape_at c_shape_count) (sq (law_s4 c_q_shapes c_q_alike c_q_two c_shape_choices c_q_pick c_q_heaps c_q_orders c_q_built c_q_taken c_whole c_heap_count c_shape_heaps c_q_is_shape c_is_turned_shape c_q_bent c_places c_shape_index c_shape_at c_shape_count) (sq (law_s5 c_q_shapes c_q_alike c_q_two c_shape_choices c_q_pick c_q_heaps c_q_orders c_q_built c_q_taken c_whole c_heap_count c_shape_heaps c_q_is_shape c_is_turned_shape c_q_bent c_places c_shape_index c_shape_at c_shape_count) (sq (law_s6 c_q_shapes c_q_alike c_q_two c_shape_choices c_q_pick c_q_heaps c_q_orders c_q_built c_q_taken c_whole c_heap_count c_shape_heaps c_q_is_shape c_is_turned_shape c_q_bent c_places c_shape_index c_shape_at c_shape_count) (sq (law_s7 c_q_shapes c_q_alike c_q_two c_shape_choices c_q_pick c_q_heaps c_q_orders c_q_built c_q_taken c_whole c_heap_count c_shape_heaps c_q_is_shape c_is_turned_shape c_q_bent c_places c_shape_index c_shape_at c_shape_count) (sq (law_s8 c_q_shapes c_q_alike c_q_two c_shape_choices c_q_pick c_q_heaps c_q_orders c_q_built c_q_taken c_whole c_heap_count c_shape_heaps c_q_is_shape c_is_turned_shape c_q_bent c_places c_shape_index c_shape_at c_shape_count) (sq (law_s9 c_q_shapes c_q_alike c_q_two c_shape_choices c_q_pick c_q_heaps c_q_orders c_q_built c_q_taken c_whole c_heap_count c_shape_heaps c_q_is_shape c_is_turned_shape c_q_bent c_places c_shape_index c_shape_at c_shape_count) (sq (law_s10 c_q_shapes c_q_alike c_q_two c_shape_choices c_q_pick c_q_heaps c_q_orders c_q_built c_q_taken c_whole c_heap_count c_shape_heaps c_q_is_shape c_is_turned_shape c_q_bent c_places c_shape_index c_shape_at c_shape_count) (sq (law_s11 c_q_shapes c_q_alike c_q_two c_shape_choices c_q_pick c_q_heaps c_q_orders c_q_built c_q_taken c_whole c_heap_count c_shape_heaps c_q_is_shape c_is_turned_shape c_q_bent c_places c_shape_index c_shape_at c_shape_count) (sq (law_s12 c_q_shapes c_q_alike c_q_two c_shape_choices c_q_pick c_q_heaps c_q_orders c_q_built c_q_taken c_whole c_heap_count c_shape_heaps c_q_is_shape c_is_turned_shape c_q_bent c_places c_shape_index c_shape_at c_shape_count) (sq (law_s13 c_q_shapes c_q_alike c_q_two c_shape_choices c_q_pick c_q_heaps c_q_orders c_q_built c_q_taken c_whole c_heap_count c_shape_heaps c_q_is_shape c_is_turned_shape c_q_bent c_places c_shape_index c_shape_at c_shape_count) (sq (law_s14 c_q_shapes c_q_alike c_q_two c_shape_choices c_q_pick c_q_heaps c_q_orders c_q_built c_q_taken c_whole c_heap_count c_shape_heaps c_q_is_shape c_is_turned_shape c_q_bent c_places c_shape_index c_shape_at c_shape_count) (sq (law_s15 c_q_shapes c_q_alike c_q_two c_shape_choices c_q_pick c_q_heaps c_q_orders c_q_built c_q_taken c_whole c_heap_count c_shape_heaps c_q_is_shape c_is_turned_shape c_q_bent c_places c_shape_index c_shape_at c_shape_count) skp))))))))))))))))
def F_law : Nat → List Dv → Co Dv
  | 0 => fun _ => fl
  | n + 1 => defF 16 1 (b_law (F_q_shapes n) (F_q_alike n) (F_q_two n) (F_shape_choices n) (F_q_pick n) (F_q_heaps n) (F_q_orders n) (F_q_built n) (F_q_taken n) (F_whole n) (F_heap_count n) (F_shape_heaps n) (F_q_is_shape n) (F_is_turned_shape n) (F_q_bent n) (F_places n) (F_shape_index n) (F_shape_at n) (F_shape_count n))
abbrev lw15 (n : Nat) : Slots → Co Fl := law_s15 (F_q_shapes n) (F_q_alike n) (F_q_two n) (F_shape_choices n) (F_q_pick n) (F_q_heaps n) (F_q_orders n) (F_q_built n) (F_q_taken n) (F_whole n) (F_heap_count n) (F_shape_heaps n) (F_q_is_shape n) (F_is_turned_shape n) (F_q_bent n) (F_places n) (F_shape_index n) (F_shape_at n) (F_shape_count n)
abbrev lw14 (n : Nat) : Slots → Co Fl := law_s14 (F_q_shapes n) (F_q_alike n) (F_q_two n) (F_shape_choices n) (F_q_pick n) (F_q_heaps n) (F_q_orders n) (F_q_built n) (F_q_taken n) (F_whole n) (F_heap_count n) (F_shape_heaps n) (F_q_is_shape n) (F_is_turned_shape n) (F_q_bent n) (F_places n) (F_shape_index n) (F_shape_at n) (F_shape_count n)
abbrev lw13 (n : Nat) : Slots → Co Fl := law_s13 (F_q_shapes n) (F_q_alike n) (F_q_two n) (F_shape_choices n) (F_q_pick n) (F_q_heaps n) (F_q_orders n) (F_q_built n) (F_q_taken n) (F_whole n) (F_heap_count n) (F_shape_heaps n) (F_q_is_shape n) (F_is_turned_shape n) (F_q_bent n) (F_places n) (F_shape_index n) (F_shape_at n) (F_shape_count n)
abbrev lw12 (n : Nat) : Slots → Co Fl := law_s12 (F_q_shapes n) (F_q_alike n) (F_q_two n) (F_shape_choices n) (F_q_pick n) (F_q_heaps n) (F_q_orders n) (F_q_built n) (F_q_taken n) (F_whole n) (F_heap_count n) (F_shape_heaps n) (F_q_is_shape n) (F_is_turned_shape n) (F_q_bent n) (F_places n) (F_shape_index n) (F_shape_at n) (F_shape_count n)
abbrev lw11 (n : Nat) : Slots → Co Fl := law_s11 (F_q_shapes n) (F_q_alike n) (F_q_two n) (F_shape_choices n) (F_q_pick n) (F_q_heaps n) (F_q_orders n) (F_q_built n) (F_q_taken n) (F_whole n) (F_heap_count n) (F_shape_heaps n) (F_q_is_shape n) (F_is_turned_shape n) (F_q_bent n) (F_places n) (F_shape_index n) (F_shape_at n) (F_shape_count n)
abbrev lw10 (n : Nat) : Slots → Co Fl := law_s10 (F_q_shapes n) (F_q_alike n) (F_q_two n) (F_shape_choices n) (F_q_pick n) (F_q_heaps n) (F_q_orders n) (F_q_built n) (F_q_taken n) (F_whole n) (F_heap_count n) (F_shape_heaps n) (F_q_is_shape n) (F_is_turned_shape n) (F_q_bent n) (F_places n) (F_shape_index n) (F_shape_at n) (F_shape_count n)
abbrev lw9 (n : Nat) : Slots → Co Fl := law_s9 (F_q_shapes n) (F_q_alike n) (F_q_two n) (F_shape_choices n) (F_q_pick n) (F_q_heaps n) (F_q_orders n) (F_q_built n) (F_q_taken n) (F_whole n) (F_heap_count n) (F_shape_heaps n) (F_q_is_shape n) (F_is_turned_shape n) (F_q_bent n) (F_places n) (F_shape_index n) (F_shape_at n) (F_shape_count n)
abbrev lw8 (n : Nat) : Slots → Co Fl := law_s8 (F_q_shapes n) (F_q_alike n) (F_q_two n) (F_shape_choices n) (F_q_pick n) (F_q_heaps n) (F_q_orders n) (F_q_built n) (F_q_taken n) (F_whole n) (F_heap_count n) (F_shape_heaps n) (F_q_is_shape n) (F_is_turned_shape n) (F_q_bent n) (F_places n) (F_shape_index n) (F_shape_at n) (F_shape_count n)
abbrev lw7 (n : Nat) : Slots → Co Fl := law_s7 (F_q_shapes n) (F_q_alike n) (F_q_two n) (F_shape_choices n) (F_q_pick n) (F_q_heaps n) (F_q_orders n) (F_q_built n) (F_q_taken n) (F_whole n) (F_heap_count n) (F_shape_heaps n) (F_q_is_shape n) (F_is_turned_shape n) (F_q_bent n) (F_places n) (F_shape_index n) (F_shape_at n) (F_shape_count n)
abbrev lw6 (n : Nat) : Slots → Co Fl := law_s6 (F_q_shapes n) (F_q_alike n) (F_q_two n) (F_shape_choices n) (F_q_pick n) (F_q_heaps n) (F_q_orders n) (F_q_built n) (F_q_taken n) (F_whole n) (F_heap_count n) (F_shape_heaps n) (F_q_is_shape n) (F_is_turned_shape n) (F_q_bent n) (F_places n) (F_shape_index n) (F_shape_at n) (F_shape_count n)
abbrev lw5 (n : Nat) : Slots → Co Fl := law_s5 (F_q_shapes n) (F_q_alike n) (F_q_two n) (F_shape_choices n) (F_q_pick n) (F_q_heaps n) (F_q_orders n) (F_q_built n) (F_q_taken n) (F_whole n) (F_heap_count n) (F_shape_heaps n) (F_q_is_shape n) (F_is_turned_shape n) (F_q_bent n) (F_places n) (F_shape_index n) (F_shape_at n) (F_shape_count n)
abbrev lw4 (n : Nat) : Slots → Co Fl := law_s4 (F_q_shapes n) (F_q_alike n) (F_q_two n) (F_shape_choices n) (F_q_pick n) (F_q_heaps n) (F_q_orders n) (F_q_built n) (F_q_taken n) (F_whole n) (F_heap_count n) (F_shape_heaps n) (F_q_is_shape n) (F_is_turned_shape n) (F_q_bent n) (F_places n) (F_shape_index n) (F_shape_at n) (F_shape_count n)
abbrev lw3 (n : Nat) : Slots → Co Fl := law_s3 (F_q_shapes n) (F_q_alike n) (F_q_two n) (F_shape_choices n) (F_q_pick n) (F_q_heaps n) (F_q_orders n) (F_q_built n) (F_q_taken n) (F_whole n) (F_heap_count n) (F_shape_heaps n) (F_q_is_shape n) (F_is_turned_shape n) (F_q_bent n) (F_places n) (F_shape_index n) (F_shape_at n) (F_shape_count n)
abbrev lw2 (n : Nat) : Slots → Co Fl := law_s2 (F_q_shapes n) (F_q_alike n) (F_q_two n) (F_shape_choices n) (F_q_pick n) (F_q_heaps n) (F_q_orders n) (F_q_built n) (F_q_taken n) (F_whole n) (F_heap_count n) (F_shape_heaps n) (F_q_is_shape n) (F_is_turned_shape n) (F_q_bent n) (F_places n) (F_shape_index n) (F_shape_at n) (F_shape_count n)
abbrev lw1 (n : Nat) : Slots → Co Fl := law_s1 (F_q_shapes n) (F_q_alike n) (F_q_two n) (F_shape_choices n) (F_q_pick n) (F_q_heaps n) (F_q_orders n) (F_q_built n) (F_q_taken n) (F_whole n) (F_heap_count n) (F_shape_heaps n) (F_q_is_shape n) (F_is_turned_shape n) (F_q_bent n) (F_places n) (F_shape_index n) (F_shape_at n) (F_shape_count n)
abbrev lw0 (n : Nat) : Slots → Co Fl := law_s0 (F_q_shapes n) (F_q_alike n) (F_q_two n) (F_shape_choices n) (F_q_pick n) (F_q_heaps n) (F_q_orders n) (F_q_built n) (F_q_taken n) (F_whole n) (F_heap_count n) (F_shape_heaps n) (F_q_is_shape n) (F_is_turned_shape n) (F_q_bent n) (F_places n) (F_shape_index n) (F_shape_at n) (F_shape_count n)
theorem F_law_eq (n : Nat) : F_law (n + 1) = defF 16 1 (sq (lw0 n) (sq (lw1 n) (sq (lw2 n) (sq (lw3 n) (sq (lw4 n) (sq (lw5 n) (sq (lw6 n) (sq (lw7 n) (sq (lw8 n) (sq (lw9 n) (sq (lw10 n) (sq (lw11 n) (sq (lw12 n) (sq (lw13 n) (sq (lw14 n) (sq (lw15 n) skp)))))))))))))))) := rfl
abbrev s_q_taken : Stmt := top 32
abbrev s_q_shapes : Stmt := top 43
abbrev s_q_pick : Stmt := top 33
abbrev s_q_lots : Stmt := top 46
abbrev s_q_places : Stmt := top 44
abbrev s_q_heaps : Stmt := top 45
abbrev s_q_alike : Stmt := top 34
abbrev s_q_bent : Stmt := top 48
abbrev s_is_in : Stmt := top 7
abbrev s_need_number : Stmt := top 15
abbrev s_parted : Stmt := top 16
abbrev s_counts_to : Stmt := top 17
abbrev s_shape_count : Stmt := top 18
abbrev s_numbered : Stmt := top 19
abbrev s_shape_at : Stmt := top 20
abbrev s_has_form : Stmt := top 10
abbrev s_many_of : Stmt := top 11
abbrev s_is_turned_shape : Stmt := top 12
abbrev s_need_shape : Stmt := top 13
abbrev s_index_of : Stmt := top 21
abbrev s_shape_index : Stmt := top 22
abbrev s_sizes : Stmt := top 23
abbrev s_heaps_of : Stmt := top 24
abbrev s_shape_heaps : Stmt := top 25
abbrev s_q_join : Stmt := top 35
abbrev s_q_built : Stmt := top 36
abbrev s_q_orders : Stmt := top 49
abbrev s_places : Stmt := top 14
abbrev s_q_is_shape : Stmt := top 47
abbrev s_q_two : Stmt := top 50
abbrev s_heap_count : Stmt := top 26
abbrev s_stepped : Stmt := top 27
abbrev s_choices_of : Stmt := top 28
abbrev s_whole : Stmt := top 30
abbrev s_shape_choices : Stmt := top 29
abbrev s_law : Stmt := top 51
def d0_q_taken : He.DefD := ⟨("_law_taken", none), "_law_taken", "_law_taken", defArgs s_q_taken, defBody s_q_taken, defScope s_q_taken, [], []⟩
def d0_q_shapes : He.DefD := ⟨("_law_shapes", none), "_law_shapes", "_law_shapes", defArgs s_q_shapes, defBody s_q_shapes, defScope s_q_shapes, [], []⟩
def d0_q_pick : He.DefD := ⟨("_law_pick", none), "_law_pick", "_law_pick", defArgs s_q_pick, defBody s_q_pick, defScope s_q_pick, [], []⟩
def d0_q_lots : He.DefD := ⟨("_law_lots", none), "_law_lots", "_law_lots", defArgs s_q_lots, defBody s_q_lots, defScope s_q_lots, [], []⟩
def d0_q_places : He.DefD := ⟨("_law_places", none), "_law_places", "_law_places", defArgs s_q_places, defBody s_q_places, defScope s_q_places, [], []⟩
def d0_q_heaps : He.DefD := ⟨("_law_heaps", none), "_law_heaps", "_law_heaps", defArgs s_q_heaps, defBody s_q_heaps, defScope s_q_heaps, [], []⟩
def d0_q_alike : He.DefD := ⟨("_law_alike", none), "_law_alike", "_law_alike", defArgs s_q_alike, defBody s_q_alike, defScope s_q_alike, [], []⟩
def d0_q_bent : He.DefD := ⟨("_law_bent", none), "_law_bent", "_law_bent", defArgs s_q_bent, defBody s_q_bent, defScope s_q_bent, [], []⟩
def d0_is_in : He.DefD := ⟨("is_in", none), "is_in", "is_in", defArgs s_is_in, defBody s_is_in, defScope s_is_in, [], []⟩
def d0_need_number : He.DefD := ⟨("need_number", none), "need_number", "need_number", defArgs s_need_number, defBody s_need_number, defScope s_need_number, [], []⟩
def d0_parted : He.DefD := ⟨("parted", none), "parted", "parted", defArgs s_parted, defBody s_parted, defScope s_parted, [], []⟩
def d0_counts_to : He.DefD := ⟨("counts_to", none), "counts_to", "counts_to", defArgs s_counts_to, defBody s_counts_to, defScope s_counts_to, [], []⟩
def d0_shape_count : He.DefD := ⟨("shape_count", none), "shape_count", "shape_count", defArgs s_shape_count, defBody s_shape_count, defScope s_shape_count, [], []⟩
def d0_numbered : He.DefD := ⟨("numbered", none), "numbered", "numbered", defArgs s_numbered, defBody s_numbered, defScope s_numbered, [], []⟩
def d0_shape_at : He.DefD := ⟨("shape_at", none), "shape_at", "shape_at", defArgs s_shape_at, defBody s_shape_at, defScope s_shape_at, [], []⟩
def d0_has_form : He.DefD := ⟨("has_form", none), "has_form", "has_form", defArgs s_has_form, defBody s_has_form, defScope s_has_form, [], []⟩
def d0_many_of : He.DefD := ⟨("many_of", none), "many_of", "many_of", defArgs s_many_of, defBody s_many_of, defScope s_many_of, [], []⟩
def d0_is_turned_shape : He.DefD := ⟨("is_turned_shape", none), "is_turned_shape", "is_turned_shape", defArgs s_is_turned_shape, defBody s_is_turned_shape, defScope s_is_turned_shape, [], []⟩
def d0_need_shape : He.DefD := ⟨("need_shape", none), "need_shape", "need_shape", defArgs s_need_shape, defBody s_need_shape, defScope s_need_shape, [], []⟩
def d0_index_of : He.DefD := ⟨("index_of", none), "index_of", "index_of", defArgs s_index_of, defBody s_index_of, defScope s_index_of, [], []⟩
def d0_shape_index : He.DefD := ⟨("shape_index", none), "shape_index", "shape_index", defArgs s_shape_index, defBody s_shape_index, defScope s_shape_index, [], []⟩
def d0_sizes : He.DefD := ⟨("sizes", none), "sizes", "sizes", defArgs s_sizes, defBody s_sizes, defScope s_sizes, [], []⟩
def d0_heaps_of : He.DefD := ⟨("heaps_of", none), "heaps_of", "heaps_of", defArgs s_heaps_of, defBody s_heaps_of, defScope s_heaps_of, [], []⟩
def d0_shape_heaps : He.DefD := ⟨("shape_heaps", none), "shape_heaps", "shape_heaps", defArgs s_shape_heaps, defBody s_shape_heaps, defScope s_shape_heaps, [], []⟩
def d0_q_join : He.DefD := ⟨("_law_join", none), "_law_join", "_law_join", defArgs s_q_join, defBody s_q_join, defScope s_q_join, [], []⟩
def d0_q_built : He.DefD := ⟨("_law_built", none), "_law_built", "_law_built", defArgs s_q_built, defBody s_q_built, defScope s_q_built, [], []⟩
def d0_q_orders : He.DefD := ⟨("_law_orders", none), "_law_orders", "_law_orders", defArgs s_q_orders, defBody s_q_orders, defScope s_q_orders, [], []⟩
def d0_places : He.DefD := ⟨("places", none), "places", "places", defArgs s_places, defBody s_places, defScope s_places, [], []⟩
def d0_q_is_shape : He.DefD := ⟨("_law_is_shape", none), "_law_is_shape", "_law_is_shape", defArgs s_q_is_shape, defBody s_q_is_shape, defScope s_q_is_shape, [], []⟩
def d0_q_two : He.DefD := ⟨("_law_two", none), "_law_two", "_law_two", defArgs s_q_two, defBody s_q_two, defScope s_q_two, [], []⟩
def d0_heap_count : He.DefD := ⟨("heap_count", none), "heap_count", "heap_count", defArgs s_heap_count, defBody s_heap_count, defScope s_heap_count, [], []⟩
def d0_stepped : He.DefD := ⟨("stepped", none), "stepped", "stepped", defArgs s_stepped, defBody s_stepped, defScope s_stepped, [], []⟩
def d0_choices_of : He.DefD := ⟨("choices_of", none), "choices_of", "choices_of", defArgs s_choices_of, defBody s_choices_of, defScope s_choices_of, [], []⟩
def d0_whole : He.DefD := ⟨("whole", none), "whole", "whole", defArgs s_whole, defBody s_whole, defScope s_whole, [], []⟩
def d0_shape_choices : He.DefD := ⟨("shape_choices", none), "shape_choices", "shape_choices", defArgs s_shape_choices, defBody s_shape_choices, defScope s_shape_choices, [], []⟩
def d0_law : He.DefD := ⟨("law", none), "law", "law", defArgs s_law, defBody s_law, defScope s_law, [], []⟩
def fn : List He.DefD := [d0_q_taken, d0_q_shapes, d0_q_pick, d0_q_lots, d0_q_places, d0_q_heaps, d0_q_alike, d0_q_bent, d0_is_in, d0_need_number, d0_parted, d0_counts_to, d0_shape_count, d0_numbered, d0_shape_at, d0_has_form, d0_many_of, d0_is_turned_shape, d0_need_shape, d0_index_of, d0_shape_index, d0_sizes, d0_heaps_of, d0_shape_heaps, d0_q_join, d0_q_built, d0_q_orders, d0_places, d0_q_is_shape, d0_q_two, d0_heap_count, d0_stepped, d0_choices_of, d0_whole, d0_shape_choices, d0_law]
def fa : List He.Fa := [.free "int", .free "len", .free "range", .free "bool", .free "isinstance", .free "str", .free "tuple", .free "list", .free "sum", .int "MOST_KEYS" 200, .int "MOST_WHOLE" 10, .glo "_law_taken", .glo "_law_shapes", .glo "_law_pick", .glo "_law_lots", .glo "_law_places", .glo "_law_heaps", .glo "_law_alike", .glo "_law_bent", .glo "is_in", .glo "need_number", .glo "parted", .glo "counts_to", .glo "shape_count", .glo "numbered", .glo "shape_at", .glo "has_form", .glo "many_of", .glo "is_turned_shape", .glo "need_shape", .glo "index_of", .glo "shape_index", .glo "sizes", .glo "heaps_of", .glo "shape_heaps", .glo "_law_join", .glo "_law_built", .glo "_law_orders", .glo "places", .glo "_law_is_shape", .glo "_law_two", .glo "heap_count", .glo "stepped", .glo "choices_of", .glo "whole", .glo "shape_choices", .glo "law"]
section
variable {P : Program} {w : World} {base : Heap} {G : Gx}
theorem sc_q_taken : FnScope ["_law_row", "_law_many", "_law_found", "_law_cell"] ["_law_row", "_law_many"] (defScope s_q_taken) := ⟨rfl, rfl, rfl, by decide +kernel, rfl, by decide +kernel, by decide +kernel⟩
theorem ok_q_taken (T : Tx fa fn G) : ∀ n, Dok P w base CX0 G "_law_taken" ["_law_row", "_law_many"] n (F_q_taken n) :=
  dok_mk rfl (fun _ => rfl) (T.says.def_ 0 (d := d0_q_taken) rfl) (T.glo 11) sc_q_taken (fun _ _ _ _ _ _ us hl => match us, hl with | [_, _], _ => rfl) fun n d0 cdv A outer s H E hr => by
    have hN := sc_q_taken.nd
    have hU := hr.u200
    have hu1 := hr.u1
    exact (xs1 (xifs (xtcmp op_gt os_gt (xix rfl (xv 0) xint) xint) (xs1 (xset 2 hN (xbin op_mod os_mod (xct call_int1 cs_int (by rfl) (T.free 0) rfl (xa1 (xix rfl (xv 0) xint) xa0)) (xv 1)))
    (xs1 (xasg (xbin op_fdivW os_fdiv (xix rfl (xv 0) xint) (xv 1)) (xgsub hu1 (xv 0) xint))
    (xs1 (xret (xfrZ (xv 2)))
    xs0))) xs0)
    (xs1 (xasg (xbinF op_addX of_add (xix rfl (xv 0) xint) xint) (xgsub hu1 (xv 0) xint))
    (xs1 (xifs (xtcmp op_gt os_gt (xix rfl (xv 0) xint) (xcb cr_lenX cs_len (by rfl) (T.free 1) rfl (xa1 (xix rfl (xv 0) xint) xa0))) (xs1 (xasg (xbin op_mod os_mod (xct call_int1 cs_int (by rfl) (T.free 0) rfl (xa1 (xbinF op_addX of_add (xbin op_mulY os_mul (xix rfl (xv 0) xint) xint) xint) xa0)) xint) (xgsub hu1 (xv 0) xint))
    (xs1 (xret (xbin op_mod os_mod (xct call_int1 cs_int (by rfl) (T.free 0) rfl (xa1 (xbin op_fdivW os_fdiv (xix rfl (xv 0) xint) xint) xa0)) (xv 1)))
    xs0)) xs0)
    (xs1 (xset 3 hN (xix rfl (xix rfl (xv 0) xint) (xbin op_sub os_sub (xix rfl (xv 0) xint) xint)))
    (xs1 (xasg (xbin op_mod os_mod (xct call_int1 cs_int (by rfl) (T.free 0) rfl (xa1 (xbinF op_addX of_add (xbinF op_addX of_add (xbin op_mulY os_mul (xix rfl (xv 0) xint) xint) (xv 3)) xint) xa0)) xint) (xgsub hu1 (xv 0) xint))
    (xs1 (xifs (xtcmp op_ge os_ge (xv 3) (xbin op_pow os_pow xint xint)) (xs1 (xasg (xbin op_fdivW os_fdiv (xv 3) (xv 1)) (xgsub hu1 (xv 0) xint))
    xs0) xs0)
    (xs1 (xret (xbin op_mod os_mod (xct call_int1 cs_int (by rfl) (T.free 0) rfl (xa1 (xv 3) xa0)) (xv 1)))
    xs0)))))))

theorem sc_q_shapes : FnScope ["_law_n", "_law_found", "_law_left", "_law_one", "_law_other"] ["_law_n"] (defScope s_q_shapes) := ⟨rfl, rfl, rfl, by decide +kernel, rfl, by decide +kernel, by decide +kernel⟩
theorem ok_q_shapes (T : Tx fa fn G) : ∀ n, Dok P w base CX0 G "_law_shapes" ["_law_n"] n (F_q_shapes n) :=
  dok_mk rfl (fun _ => rfl) (T.says.def_ 1 (d := d0_q_shapes) rfl) (T.glo 12) sc_q_shapes (fun _ _ _ _ _ _ us hl => match us, hl with | [_], _ => rfl) fun n d0 cdv A outer s H E hr => by
    have hN := sc_q_shapes.nd
    have d_q_shapes : ∀ _ : Nat, Dok P w base CX0 G "_law_shapes" ["_law_n"] n (F_q_shapes n) := fun _ => d0
    have hU := hr.u200
    have hu1 := hr.u1
    exact (xs1 (xifs (xtcmp op_eqX (os_eq hU) (xv 0) xint) (xs1 (xret (xlstG (xa1 xnon xa0)))
    xs0) xs0)
    (xs1 (xset 1 hN (xlstG xa0))
    (xs1 (xfor .never rfl (xir3 (xa1 (xbin op_sub os_sub (xv 0) xint) (xa1 (xneg xint) (xa1 (xneg xint) xa0))) (by rfl) (T.free 2)) (xgn 2 hN) (xs1 (xifs (xpw (xwor (xtcmp op_gt os_gt (xv 2) xint) (xwor1 (xtcmp op_eqX (os_eq hU) (xv 0) xint)))) (xs1 (xfor .never rfl (xis rfl (xcP (d_q_shapes n) rfl rfl hr px0 (xa1 (xv 2) xa0))) (xgn 3 hN) (xs1 (xset 1 hN (xbinF op_addX of_add (xv 1) (xlc (own := [("_law_other", 4)]) rfl hN (xis rfl (xcP (d_q_shapes n) rfl rfl hr px0 (xa1 (xbin op_sub os_sub (xbin op_sub os_sub (xv 0) xint) (xv 2)) xa0))) (blk_ok (by rfl)) (tg_n (i := 4) (by decide)) pt_0 (fun _ _ _ _ _ => pg_name (i := 4) hN rfl (Or.inl rfl)) (fun _ _ _ _ _ => pts_nil) (fun _ _ _ _ _ => (xtup (xa1 (xv 3) (xa1 (xv 4) xa0)))))))
    xs0))
    xs0) xs0)
    xs0))
    (xs1 (xret (xfrZ (xv 1)))
    xs0))))

theorem sc_q_pick : FnScope ["_law_row", "_law_things"] ["_law_row", "_law_things"] (defScope s_q_pick) := ⟨rfl, rfl, rfl, by decide +kernel, rfl, by decide +kernel, by decide +kernel⟩
theorem ok_q_pick (T : Tx fa fn G) (d_q_taken : ∀ n, Dok P w base CX0 G "_law_taken" ["_law_row", "_law_many"] n (F_q_taken n)) : ∀ n, Dok P w base CX0 G "_law_pick" ["_law_row", "_law_things"] n (F_q_pick n) :=
  dok_mk rfl (fun _ => rfl) (T.says.def_ 2 (d := d0_q_pick) rfl) (T.glo 13) sc_q_pick (fun _ _ _ _ _ _ us hl => match us, hl with | [_, _], _ => rfl) fun n d0 cdv A outer s H E hr => by
    have hN := sc_q_pick.nd
    have hU := hr.u200
    have hu1 := hr.u1
    exact (xs1 (xret (xix rfl (xv 1) (xcT (d_q_taken n) rfl rfl hr px0 (xa1 (xv 0) (xa1 (xcb cr_lenX cs_len (by rfl) (T.free 1) rfl (xa1 (xv 1) xa0)) xa0)))))
    xs0)

theorem sc_q_lots : FnScope ["_law_some", "_law_many", "_law_found", "_law_k", "_law_lot"] ["_law_some", "_law_many"] (defScope s_q_lots) := ⟨rfl, rfl, rfl, by decide +kernel, rfl, by decide +kernel, by decide +kernel⟩
theorem ok_q_lots (T : Tx fa fn G) : ∀ n, Dok P w base CX0 G "_law_lots" ["_law_some", "_law_many"] n (F_q_lots n) :=
  dok_mk rfl (fun _ => rfl) (T.says.def_ 3 (d := d0_q_lots) rfl) (T.glo 14) sc_q_lots (fun _ _ _ _ _ _ us hl => match us, hl with | [_, _], _ => rfl) fun n d0 cdv A outer s H E hr => by
    have hN := sc_q_lots.nd
    have d_q_lots : ∀ _ : Nat, Dok P w base CX0 G "_law_lots" ["_law_some", "_law_many"] n (F_q_lots n) := fun _ => d0
    have hU := hr.u200
    have hu1 := hr.u1
    exact (xs1 (xifs (xtcmp op_eqX (os_eq hU) (xv 1) xint) (xs1 (xret (xlstG (xa1 (xlstG xa0) xa0)))
    xs0) xs0)
    (xs1 (xset 2 hN (xlstG xa0))
    (xs1 (xfor .never rfl (xir1 (xa1 (xcb cr_lenX cs_len (by rfl) (T.free 1) rfl (xa1 (xv 0) xa0)) xa0) (by rfl) (T.free 2)) (xgn 3 hN) (xs1 (xset 2 hN (xbinF op_addX of_add (xv 2) (xlc (own := [("_law_lot", 4)]) rfl hN (xis rfl (xcP (d_q_lots n) rfl rfl hr px0 (xa1 (xslc rfl (xv 0) (xpo1 (xbinF op_addX of_add (xv 3) xint)) xpo0) (xa1 (xbin op_sub os_sub (xv 1) xint) xa0)))) (blk_ok (by rfl)) (tg_n (i := 4) (by decide)) pt_0 (fun _ _ _ _ _ => pg_name (i := 4) hN rfl (Or.inl rfl)) (fun _ _ _ _ _ => pts_nil) (fun _ _ _ _ _ => (xbinF op_addX of_add (xlstG (xa1 (xix rfl (xv 0) (xv 3)) xa0)) (xv 4))))))
    xs0))
    (xs1 (xret (xfrZ (xv 2)))
    xs0))))

theorem sc_q_places : FnScope ["_law_shape_here"] ["_law_shape_here"] (defScope s_q_places) := ⟨rfl, rfl, rfl, by decide +kernel, rfl, by decide +kernel, by decide +kernel⟩
theorem ok_q_places (T : Tx fa fn G) : ∀ n, Dok P w base CX0 G "_law_places" ["_law_shape_here"] n (F_q_places n) :=
  dok_mk rfl (fun _ => rfl) (T.says.def_ 4 (d := d0_q_places) rfl) (T.glo 15) sc_q_places (fun _ _ _ _ _ _ us hl => match us, hl with | [_], _ => rfl) fun n d0 cdv A outer s H E hr => by
    have hN := sc_q_places.nd
    have d_q_places : ∀ _ : Nat, Dok P w base CX0 G "_law_places" ["_law_shape_here"] n (F_q_places n) := fun _ => d0
    have hU := hr.u200
    have hu1 := hr.u1
    exact (xs1 (xret (xif (xtisN (xv 0)) xint (xbinF op_addX of_add (xbinF op_addX of_add xint (xcP (d_q_places n) rfl rfl hr px0 (xa1 (xix rfl (xv 0) xint) xa0))) (xcP (d_q_places n) rfl rfl hr px0 (xa1 (xix rfl (xv 0) xint) xa0)))))
    xs0)

theorem sc_q_heaps : FnScope ["_law_shape_here", "_law_some", "_law_many", "_law_found", "_law_lot", "_law_rest", "_law_left", "_law_key", "_law_right"] ["_law_shape_here", "_law_some"] (defScope s_q_heaps) := ⟨rfl, rfl, rfl, by decide +kernel, rfl, by decide +kernel, by decide +kernel⟩
theorem ok_q_heaps (T : Tx fa fn G) (d_q_lots : ∀ n, Dok P w base CX0 G "_law_lots" ["_law_some", "_law_many"] n (F_q_lots n)) (d_q_places : ∀ n, Dok P w base CX0 G "_law_places" ["_law_shape_here"] n (F_q_places n)) : ∀ n, Dok P w base CX0 G "_law_heaps" ["_law_shape_here", "_law_some"] n (F_q_heaps n) :=
  dok_mk rfl (fun _ => rfl) (T.says.def_ 5 (d := d0_q_heaps) rfl) (T.glo 16) sc_q_heaps (fun _ _ _ _ _ _ us hl => match us, hl with | [_, _], _ => rfl) fun n d0 cdv A outer s H E hr => by
    have hN := sc_q_heaps.nd
    have d_q_heaps : ∀ _ : Nat, Dok P w base CX0 G "_law_heaps" ["_law_shape_here", "_law_some"] n (F_q_heaps n) := fun _ => d0
    have hU := hr.u200
    have hu1 := hr.u1
    exact (xs1 (xifs (xtisN (xv 0)) (xs1 (xret (xlstG (xa1 xnon xa0)))
    xs0) xs0)
    (xs1 (xpar (i := 2) (j := 3) rfl hN (xa1 (xcP (d_q_places n) rfl rfl hr px0 (xa1 (xix rfl (xv 0) xint) xa0)) (xa1 (xlstG xa0) xa0)))
    (xs1 (xfor .never rfl (xis rfl (xcP (d_q_lots n) rfl rfl hr px0 (xa1 (xslc rfl (xv 1) (xpo1 xint) xpo0) (xa1 (xv 2) xa0)))) (xgn 4 hN) (xs1 (xsetlc (own := [("_law_key", 7)]) rfl hN rfl rfl (sw_true rfl rfl rfl (by decide +kernel)) (xis rfl (xslc rfl (xv 1) (xpo1 xint) xpo0)) (blk_ok (by rfl)) (tg_n (i := 7) (by decide)) pt_1 (fun _ _ _ _ _ => pg_name (i := 7) hN rfl (Or.inl rfl)) (fun _ _ _ _ _ => pts1 (xtcmp op_notInX (os_in hU) (xv 7) (xv 4))) (fun _ _ _ _ _ => (xv 7)))
    (xs1 (xfor .never rfl (xis rfl (xcP (d_q_heaps n) rfl rfl hr px0 (xa1 (xix rfl (xv 0) xint) (xa1 (xv 4) xa0)))) (xgn 6 hN) (xs1 (xset 3 hN (xbinF op_addX of_add (xv 3) (xlc (own := [("_law_right", 8)]) rfl hN (xis rfl (xcP (d_q_heaps n) rfl rfl hr px0 (xa1 (xix rfl (xv 0) xint) (xa1 (xv 5) xa0)))) (blk_ok (by rfl)) (tg_n (i := 8) (by decide)) pt_0 (fun _ _ _ _ _ => pg_name (i := 8) hN rfl (Or.inl rfl)) (fun _ _ _ _ _ => pts_nil) (fun _ _ _ _ _ => (xtup (xa1 (xix rfl (xv 1) xint) (xa1 (xv 6) (xa1 (xv 8) xa0))))))))
    xs0))
    xs0)))
    (xs1 (xret (xfrZ (xv 3)))
    xs0))))

theorem sc_q_alike : FnScope ["_law_found", "_law_due", "_law_k"] ["_law_found", "_law_due"] (defScope s_q_alike) := ⟨rfl, rfl, rfl, by decide +kernel, rfl, by decide +kernel, by decide +kernel⟩
theorem ok_q_alike (T : Tx fa fn G) : ∀ n, Dok P w base CX0 G "_law_alike" ["_law_found", "_law_due"] n (F_q_alike n) :=
  dok_mk rfl (fun _ => rfl) (T.says.def_ 6 (d := d0_q_alike) rfl) (T.glo 17) sc_q_alike (fun _ _ _ _ _ _ us hl => match us, hl with | [_, _], _ => rfl) fun n d0 cdv A outer s H E hr => by
    have hN := sc_q_alike.nd
    have d_q_alike : ∀ _ : Nat, Dok P w base CX0 G "_law_alike" ["_law_found", "_law_due"] n (F_q_alike n) := fun _ => d0
    have hU := hr.u200
    have hu1 := hr.u1
    exact (xs1 (xifs (xtru rfl (xisi2 rfl ok_tuple ok_list rfl rfl (T.free 6) (T.free 7) (by rfl) (by rfl) (by rfl) (T.free 4) (xv 1))) (xs1 (xifs (xpw (xwor (xtnot (xtru rfl (xisi2 rfl ok_tuple ok_list rfl rfl (T.free 6) (T.free 7) (by rfl) (by rfl) (by rfl) (T.free 4) (xv 0)))) (xwor1 (xtcmp op_neX (os_eq hU) (xisi rfl ok_list rfl (T.free 7) (by rfl) (by rfl) (T.free 4) (xv 0)) (xisi rfl ok_list rfl (T.free 7) (by rfl) (by rfl) (T.free 4) (xv 1)))))) (xs1 (xret xbl)
    xs0) xs0)
    (xs1 (xifs (xtcmp op_neX (os_eq hU) (xcb cr_lenX cs_len (by rfl) (T.free 1) rfl (xa1 (xv 0) xa0)) (xcb cr_lenX cs_len (by rfl) (T.free 1) rfl (xa1 (xv 1) xa0))) (xs1 (xret xbl)
    xs0) xs0)
    (xs1 (xret (xcmp op_eqX (os_eq hU) (xlc (own := [("_law_k", 2)]) rfl hN (xir1 (xa1 (xcb cr_lenX cs_len (by rfl) (T.free 1) rfl (xa1 (xv 1) xa0)) xa0) (by rfl) (T.free 2)) (blk_ok (by rfl)) (tg_n (i := 2) (by decide)) pt_1 (fun _ _ _ _ _ => pg_name (i := 2) hN rfl (Or.inl rfl)) (fun _ _ _ _ _ => pts1 (xtnot (xtru rfl (xcP (d_q_alike n) rfl rfl hr px0 (xa1 (xix rfl (xv 0) (xv 2)) (xa1 (xix rfl (xv 1) (xv 2)) xa0)))))) (fun _ _ _ _ _ => (xv 2))) (xlstG xa0)))
    xs0))) xs0)
    (xs1 (xifs (xpw (xwor (xtisN (xv 1)) (xwor1 (xtru rfl (xisi rfl ok_str rfl (T.free 5) (by rfl) (by rfl) (T.free 4) (xv 1)))))) (xs1 (xret (xand (xcmp op_eqX (os_eq hU) (xv 0) (xv 1)) (xone (xcmp op_eqX (os_eq hU) (xisi rfl ok_str rfl (T.free 5) (by rfl) (by rfl) (T.free 4) (xv 0)) (xisi rfl ok_str rfl (T.free 5) (by rfl) (by rfl) (T.free 4) (xv 1))))))
    xs0) xs0)
    (xs1 (xret (xand (xisi rfl ok_int rfl (T.free 0) (by rfl) (by rfl) (T.free 4) (xv 0)) (xand (xcmp op_eqX (os_eq hU) (xisi rfl ok_bool rfl (T.free 3) (by rfl) (by rfl) (T.free 4) (xv 0)) (xisi rfl ok_bool rfl (T.free 3) (by rfl) (by rfl) (T.free 4) (xv 1))) (xone (xcmp op_eqX (os_eq hU) (xv 0) (xv 1))))))
    xs0)))

theorem sc_q_bent : FnScope ["_law_row", "_law_one", "_law_at"] ["_law_row", "_law_one"] (defScope s_q_bent) := ⟨rfl, rfl, rfl, by decide +kernel, rfl, by decide +kernel, by decide +kernel⟩
theorem ok_q_bent (T : Tx fa fn G) (d_q_taken : ∀ n, Dok P w base CX0 G "_law_taken" ["_law_row", "_law_many"] n (F_q_taken n)) (d_q_pick : ∀ n, Dok P w base CX0 G "_law_pick" ["_law_row", "_law_things"] n (F_q_pick n)) : ∀ n, Dok P w base CX0 G "_law_bent" ["_law_row", "_law_one"] n (F_q_bent n) :=
  dok_mk rfl (fun _ => rfl) (T.says.def_ 7 (d := d0_q_bent) rfl) (T.glo 18) sc_q_bent (fun _ _ _ _ _ _ us hl => match us, hl with | [_, _], _ => rfl) fun n d0 cdv A outer s H E hr => by
    have hN := sc_q_bent.nd
    have d_q_bent : ∀ _ : Nat, Dok P w base CX0 G "_law_bent" ["_law_row", "_law_one"] n (F_q_bent n) := fun _ => d0
    have hU := hr.u200
    have hu1 := hr.u1
    exact (xs1 (xifs (xpw (xwor (xtnot (xtru rfl (xisi rfl ok_tuple rfl (T.free 6) (by rfl) (by rfl) (T.free 4) (xv 1)))) (xwor (xtcmp op_eqX (os_eq hU) (xv 1) (xtup xa0)) (xwor1 (xtcmp op_eqX (os_eq hU) (xcT (d_q_taken n) rfl rfl hr px0 (xa1 (xv 0) (xa1 xint xa0))) xint))))) (xs1 (xret (xcT (d_q_pick n) rfl rfl hr px0 (xa1 (xv 0) (xa1 (xlstG (xa1 xnon (xa1 xint (xa1 xbl (xa1 (xtup xa0) (xa1 (xtup (xa1 xnon (xa1 xnon xa0))) (xa1 (xtup (xa1 xnon (xa1 (xtup (xa1 xnon (xa1 xnon xa0))) xa0))) (xa1 (xtup (xa1 (xtup (xa1 xnon (xa1 xnon xa0))) (xa1 xnon xa0))) (xa1 (xtup (xa1 xnon xa0)) (xa1 (xlstG (xa1 xnon (xa1 xnon xa0))) (xa1 xstr xa0))))))))))) xa0))))
    xs0) xs0)
    (xs1 (xset 2 hN (xcT (d_q_taken n) rfl rfl hr px0 (xa1 (xv 0) (xa1 (xcb cr_lenX cs_len (by rfl) (T.free 1) rfl (xa1 (xv 1) xa0)) xa0))))
    (xs1 (xret (xbinF op_addX of_add (xbinF op_addX of_add (xslc rfl (xv 1) xpo0 (xpo1 (xv 2))) (xtup (xa1 (xcT (d_q_bent n) rfl rfl hr px0 (xa1 (xv 0) (xa1 (xix rfl (xv 1) (xv 2)) xa0))) xa0))) (xslc rfl (xv 1) (xpo1 (xbinF op_addX of_add (xv 2) xint)) xpo0)))
    xs0)))

theorem sc_is_in : FnScope ["value", "least", "most"] ["value", "least", "most"] (defScope s_is_in) := ⟨rfl, rfl, rfl, by decide +kernel, rfl, by decide +kernel, by decide +kernel⟩
theorem ok_is_in (T : Tx fa fn G) : ∀ n, Dok P w base CX0 G "is_in" ["value", "least", "most"] n (F_is_in n) :=
  dok_mk rfl (fun _ => rfl) (T.says.def_ 8 (d := d0_is_in) rfl) (T.glo 19) sc_is_in (fun _ _ _ _ _ _ us hl => match us, hl with | [_, _, _], _ => rfl) fun n d0 cdv A outer s H E hr => by
    have hN := sc_is_in.nd
    have hU := hr.u200
    have hu1 := hr.u1
    exact (xs1 (xret (xand (xisi rfl ok_int rfl (T.free 0) (by rfl) (by rfl) (T.free 4) (xv 0)) (xand (xnot (xisi rfl ok_bool rfl (T.free 3) (by rfl) (by rfl) (T.free 4) (xv 0))) (xone (xchain op_le op_le os_le os_le (xv 1) (xv 0) (xv 2))))))
    xs0)

theorem sc_need_number : FnScope ["n", "most"] ["n", "most"] (defScope s_need_number) := ⟨rfl, rfl, rfl, by decide +kernel, rfl, by decide +kernel, by decide +kernel⟩
theorem ok_need_number (T : Tx fa fn G) (d_is_in : ∀ n, Dok P w base CX0 G "is_in" ["value", "least", "most"] n (F_is_in n)) : ∀ n, Dok P w base CX0 G "need_number" ["n", "most"] n (F_need_number n) :=
  dok_mk rfl (fun _ => rfl) (T.says.def_ 9 (d := d0_need_number) rfl) (T.glo 20) sc_need_number (fun _ _ _ _ _ _ us hl => match us, hl with | [_, _], _ => rfl) fun n d0 cdv A outer s H E hr => by
    have hN := sc_need_number.nd
    have hU := hr.u200
    have hu1 := hr.u1
    exact (xs1 (xifs (xtnot (xtru rfl (xcP (d_is_in n) rfl rfl hr px0 (xa1 (xv 0) (xa1 xint (xa1 (xv 1) xa0)))))) (xs1 xnvr
    xs0) xs0)
    xs0)

theorem sc_parted : FnScope ["n", "left"] ["n"] (defScope s_parted) := ⟨rfl, rfl, rfl, by decide +kernel, rfl, by decide +kernel, by decide +kernel⟩
theorem ok_parted (T : Tx fa fn G) : ∀ n, Dok P w base CX0 G "parted" ["n"] n (F_parted n) :=
  dok_mk rfl (fun _ => rfl) (T.says.def_ 10 (d := d0_parted) rfl) (T.glo 21) sc_parted (fun _ _ _ _ _ _ us hl => match us, hl with | [_], _ => rfl) fun n d0 cdv A outer s H E hr => by
    have hN := sc_parted.nd
    have hU := hr.u200
    have hu1 := hr.u1
    exact (xs1 (xret (xlc (own := [("left", 1)]) rfl hN (xir3 (xa1 (xbin op_sub os_sub (xv 0) xint) (xa1 (xneg xint) (xa1 (xneg xint) xa0))) (by rfl) (T.free 2)) (blk_ok (by rfl)) (tg_n (i := 1) (by decide)) pt_1 (fun _ _ _ _ _ => pg_name (i := 1) hN rfl (Or.inl rfl)) (fun _ _ _ _ _ => pts1 (xpw (xwor (xtcmp op_gt os_gt (xv 1) xint) (xwor1 (xtcmp op_eqX (os_eq hU) (xv 0) xint))))) (fun _ _ _ _ _ => (xtup (xa1 (xv 1) (xa1 (xbin op_sub os_sub (xbin op_sub os_sub (xv 0) xint) (xv 1)) xa0))))))
    xs0)

theorem sc_counts_to : FnScope ["n", "found", "many"] ["n"] (defScope s_counts_to) := ⟨rfl, rfl, rfl, by decide +kernel, rfl, by decide +kernel, by decide +kernel⟩
theorem ok_counts_to (T : Tx fa fn G) (tb : Tb base G "counts_to") (d_parted : ∀ n, Dok P w base CX0 G "parted" ["n"] n (F_parted n)) : ∀ n, Dok P w base CX0 G "counts_to" ["n"] n (F_counts_to n) :=
  dokT_mk rfl rfl (fun _ => rfl) (T.says.def_ 11 (d := d0_counts_to) rfl) (T.glo 22) sc_counts_to (fun _ _ _ _ _ _ us hl => match us, hl with | [_], _ => rfl) fun n d0 A outer s H E hr1 => by
    have hr := hr1.mono (Nat.le_succ n)
    have hN := sc_counts_to.nd
    have hU := hr.u200
    have hu1 := hr.u1
    exact (xs1 (xset 1 hN (xlstR (xa1 xint xa0)))
    (xs1 (xfor .never rfl (xir2 (xa1 xint (xa1 (xbinF op_addX of_add (xv 0) xint) xa0)) (by rfl) (T.free 2)) (xgn 2 hN) (xs1 (xexp (xapp (xv 1) (xsumG (N' := ["left", "right", "found"]) ⟨gx_ok (by rfl), (xis rfl (xcP (d_parted n) rfl rfl hr px0 (xa1 (xv 2) xa0))), fun _ _ _ _ _ _ => (xgt rfl rfl (xgs1 (xgn 0 (show (["left", "right", "found"] : List Str).Nodup by decide +kernel)) (xgs1 (xgn 1 (show (["left", "right", "found"] : List Str).Nodup by decide +kernel)) xgs0))), fun _ _ _ _ _ _ hr2 => (xbin op_mulY os_mul (xix rfl (xv 2) (xv 0)) (xix rfl (xv 2) (xv 1))), fun ρ => bk_2 (by decide) (gρ_own rfl) (gρ_own rfl), fun _ => rfl⟩ hr1 tb.tb tb.mem rfl (by rfl) (T.free 8))))
    xs0))
    (xs1 (xret (xfrZ (xv 1)))
    xs0)))

theorem sc_shape_count : FnScope ["n"] ["n"] (defScope s_shape_count) := ⟨rfl, rfl, rfl, by decide +kernel, rfl, by decide +kernel, by decide +kernel⟩
theorem ok_shape_count (T : Tx fa fn G) (d_counts_to : ∀ n, Dok P w base CX0 G "counts_to" ["n"] n (F_counts_to n)) (d_need_number : ∀ n, Dok P w base CX0 G "need_number" ["n", "most"] n (F_need_number n)) : ∀ n, Dok P w base CX0 G "shape_count" ["n"] n (F_shape_count n) :=
  dok_mk rfl (fun _ => rfl) (T.says.def_ 12 (d := d0_shape_count) rfl) (T.glo 23) sc_shape_count (fun _ _ _ _ _ _ us hl => match us, hl with | [_], _ => rfl) fun n d0 cdv A outer s H E hr => by
    have hN := sc_shape_count.nd
    have hU := hr.u200
    have hu1 := hr.u1
    exact (xs1 (xexp (xcP (d_need_number n) rfl rfl hr px0 (xa1 (xv 0) (xa1 (xgint (by rfl) (T.int 9)) xa0))))
    (xs1 (xret (xix rfl (xcP (d_counts_to n) rfl rfl hr px0 (xa1 (xv 0) xa0)) (xv 0)))
    xs0))

theorem sc_numbered : FnScope ["n", "index", "counts", "left", "right", "many"] ["n", "index", "counts"] (defScope s_numbered) := ⟨rfl, rfl, rfl, by decide +kernel, rfl, by decide +kernel, by decide +kernel⟩
theorem ok_numbered (T : Tx fa fn G) (d_parted : ∀ n, Dok P w base CX0 G "parted" ["n"] n (F_parted n)) : ∀ n, Dok P w base CX0 G "numbered" ["n", "index", "counts"] n (F_numbered n) :=
  dok_mk rfl (fun _ => rfl) (T.says.def_ 13 (d := d0_numbered) rfl) (T.glo 24) sc_numbered (fun _ _ _ _ _ _ us hl => match us, hl with | [_, _, _], _ => rfl) fun n d0 cdv A outer s H E hr => by
    have hN := sc_numbered.nd
    have d_numbered : ∀ _ : Nat, Dok P w base CX0 G "numbered" ["n", "index", "counts"] n (F_numbered n) := fun _ => d0
    have hU := hr.u200
    have hu1 := hr.u1
    exact (xs1 (xifs (xtcmp op_eqX (os_eq hU) (xv 0) xint) (xs1 (xret xnon)
    xs0) xs0)
    (xs1 (xfor .never rfl (xis rfl (xcP (d_parted n) rfl rfl hr px0 (xa1 (xv 0) xa0))) (xgt rfl rfl (xgs1 (xgn 3 hN) (xgs1 (xgn 4 hN) xgs0))) (xs1 (xset 5 hN (xbin op_mulY os_mul (xix rfl (xv 2) (xv 3)) (xix rfl (xv 2) (xv 4))))
    (xs1 (xifs (xtcmp op_lt os_lt (xv 1) (xv 5)) (xs1 xbrk
    xs0) xs0)
    (xs1 (xset 1 hN (xbin op_sub os_sub (xv 1) (xv 5)))
    xs0))))
    (xs1 (xret (xtup (xa1 (xcP (d_numbered n) rfl rfl hr px0 (xa1 (xv 3) (xa1 (xbin op_fdivW os_fdiv (xv 1) (xix rfl (xv 2) (xv 4))) (xa1 (xv 2) xa0)))) (xa1 (xcP (d_numbered n) rfl rfl hr px0 (xa1 (xv 4) (xa1 (xbin op_mod os_mod (xv 1) (xix rfl (xv 2) (xv 4))) (xa1 (xv 2) xa0)))) xa0))))
    xs0)))

theorem sc_shape_at : FnScope ["n", "index", "counts"] ["n", "index"] (defScope s_shape_at) := ⟨rfl, rfl, rfl, by decide +kernel, rfl, by decide +kernel, by decide +kernel⟩
theorem ok_shape_at (T : Tx fa fn G) (d_numbered : ∀ n, Dok P w base CX0 G "numbered" ["n", "index", "counts"] n (F_numbered n)) (d_need_number : ∀ n, Dok P w base CX0 G "need_number" ["n", "most"] n (F_need_number n)) (d_counts_to : ∀ n, Dok P w base CX0 G "counts_to" ["n"] n (F_counts_to n)) : ∀ n, Dok P w base CX0 G "shape_at" ["n", "index"] n (F_shape_at n) :=
  dok_mk rfl (fun _ => rfl) (T.says.def_ 14 (d := d0_shape_at) rfl) (T.glo 25) sc_shape_at (fun _ _ _ _ _ _ us hl => match us, hl with | [_, _], _ => rfl) fun n d0 cdv A outer s H E hr => by
    have hN := sc_shape_at.nd
    have hU := hr.u200
    have hu1 := hr.u1
    exact (xs1 (xexp (xcP (d_need_number n) rfl rfl hr px0 (xa1 (xv 0) (xa1 (xgint (by rfl) (T.int 9)) xa0))))
    (xs1 (xset 2 hN (xcP (d_counts_to n) rfl rfl hr px0 (xa1 (xv 0) xa0)))
    (xs1 (xexp (xcP (d_need_number n) rfl rfl hr px0 (xa1 (xv 1) (xa1 (xbin op_sub os_sub (xix rfl (xv 2) (xv 0)) xint) xa0))))
    (xs1 (xret (xcP (d_numbered n) rfl rfl hr px0 (xa1 (xv 0) (xa1 (xv 1) (xa1 (xv 2) xa0)))))
    xs0))))

theorem sc_has_form : FnScope ["value", "deep"] ["value", "deep"] (defScope s_has_form) := ⟨rfl, rfl, rfl, by decide +kernel, rfl, by decide +kernel, by decide +kernel⟩
theorem ok_has_form (T : Tx fa fn G) : ∀ n, Dok P w base CX0 G "has_form" ["value", "deep"] n (F_has_form n) :=
  dok_mk rfl (fun _ => rfl) (T.says.def_ 15 (d := d0_has_form) rfl) (T.glo 26) sc_has_form (fun _ _ _ _ _ _ us hl => match us, hl with | [_, _], _ => rfl) fun n d0 cdv A outer s H E hr => by
    have hN := sc_has_form.nd
    have d_has_form : ∀ _ : Nat, Dok P w base CX0 G "has_form" ["value", "deep"] n (F_has_form n) := fun _ => d0
    have hU := hr.u200
    have hu1 := hr.u1
    exact (xs1 (xifs (xtisN (xv 0)) (xs1 (xret xbl)
    xs0) xs0)
    (xs1 (xifs (xpw (xwor (xtcmp op_eqX (os_eq hU) (xv 1) xint) (xwor (xtnot (xtru rfl (xisi rfl ok_tuple rfl (T.free 6) (by rfl) (by rfl) (T.free 4) (xv 0)))) (xwor (xtcmp op_neX (os_eq hU) (xcb cr_lenX cs_len (by rfl) (T.free 1) rfl (xa1 (xv 0) xa0)) xint) (xwor1 (xpw (xwand (xtisN (xix rfl (xv 0) xint)) (xwand1 (xtnotN (xix rfl (xv 0) xint)))))))))) (xs1 (xret xbl)
    xs0) xs0)
    (xs1 (xret (xand (xcP (d_has_form n) rfl rfl hr px0 (xa1 (xix rfl (xv 0) xint) (xa1 (xbin op_sub os_sub (xv 1) xint) xa0))) (xone (xcP (d_has_form n) rfl rfl hr px0 (xa1 (xix rfl (xv 0) xint) (xa1 (xbin op_sub os_sub (xv 1) xint) xa0))))))
    xs0)))

theorem sc_many_of : FnScope ["shape"] ["shape"] (defScope s_many_of) := ⟨rfl, rfl, rfl, by decide +kernel, rfl, by decide +kernel, by decide +kernel⟩
theorem ok_many_of (T : Tx fa fn G) : ∀ n, Dok P w base CX0 G "many_of" ["shape"] n (F_many_of n) :=
  dok_mk rfl (fun _ => rfl) (T.says.def_ 16 (d := d0_many_of) rfl) (T.glo 27) sc_many_of (fun _ _ _ _ _ _ us hl => match us, hl with | [_], _ => rfl) fun n d0 cdv A outer s H E hr => by
    have hN := sc_many_of.nd
    have d_many_of : ∀ _ : Nat, Dok P w base CX0 G "many_of" ["shape"] n (F_many_of n) := fun _ => d0
    have hU := hr.u200
    have hu1 := hr.u1
    exact (xs1 (xret (xif (xtisN (xv 0)) xint (xbinF op_addX of_add (xbinF op_addX of_add xint (xcP (d_many_of n) rfl rfl hr px0 (xa1 (xix rfl (xv 0) xint) xa0))) (xcP (d_many_of n) rfl rfl hr px0 (xa1 (xix rfl (xv 0) xint) xa0)))))
    xs0)

theorem sc_is_turned_shape : FnScope ["value"] ["value"] (defScope s_is_turned_shape) := ⟨rfl, rfl, rfl, by decide +kernel, rfl, by decide +kernel, by decide +kernel⟩
theorem ok_is_turned_shape (T : Tx fa fn G) (d_many_of : ∀ n, Dok P w base CX0 G "many_of" ["shape"] n (F_many_of n)) (d_has_form : ∀ n, Dok P w base CX0 G "has_form" ["value", "deep"] n (F_has_form n)) : ∀ n, Dok P w base CX0 G "is_turned_shape" ["value"] n (F_is_turned_shape n) :=
  dok_mk rfl (fun _ => rfl) (T.says.def_ 17 (d := d0_is_turned_shape) rfl) (T.glo 28) sc_is_turned_shape (fun _ _ _ _ _ _ us hl => match us, hl with | [_], _ => rfl) fun n d0 cdv A outer s H E hr => by
    have hN := sc_is_turned_shape.nd
    have hU := hr.u200
    have hu1 := hr.u1
    exact (xs1 (xret (xand (xcP (d_has_form n) rfl rfl hr px0 (xa1 (xv 0) (xa1 (xgint (by rfl) (T.int 9)) xa0))) (xone (xcmp op_le os_le (xcP (d_many_of n) rfl rfl hr px0 (xa1 (xv 0) xa0)) (xgint (by rfl) (T.int 9))))))
    xs0)

theorem sc_need_shape : FnScope ["shape"] ["shape"] (defScope s_need_shape) := ⟨rfl, rfl, rfl, by decide +kernel, rfl, by decide +kernel, by decide +kernel⟩
theorem ok_need_shape (T : Tx fa fn G) (d_is_turned_shape : ∀ n, Dok P w base CX0 G "is_turned_shape" ["value"] n (F_is_turned_shape n)) : ∀ n, Dok P w base CX0 G "need_shape" ["shape"] n (F_need_shape n) :=
  dok_mk rfl (fun _ => rfl) (T.says.def_ 18 (d := d0_need_shape) rfl) (T.glo 29) sc_need_shape (fun _ _ _ _ _ _ us hl => match us, hl with | [_], _ => rfl) fun n d0 cdv A outer s H E hr => by
    have hN := sc_need_shape.nd
    have hU := hr.u200
    have hu1 := hr.u1
    exact (xs1 (xifs (xtnot (xtru rfl (xcP (d_is_turned_shape n) rfl rfl hr px0 (xa1 (xv 0) xa0)))) (xs1 xnvr
    xs0) xs0)
    xs0)

theorem sc_index_of : FnScope ["shape", "counts", "own", "found", "left", "right"] ["shape", "counts"] (defScope s_index_of) := ⟨rfl, rfl, rfl, by decide +kernel, rfl, by decide +kernel, by decide +kernel⟩
theorem ok_index_of (T : Tx fa fn G) (d_parted : ∀ n, Dok P w base CX0 G "parted" ["n"] n (F_parted n)) (d_many_of : ∀ n, Dok P w base CX0 G "many_of" ["shape"] n (F_many_of n)) : ∀ n, Dok P w base CX0 G "index_of" ["shape", "counts"] n (F_index_of n) :=
  dok_mk rfl (fun _ => rfl) (T.says.def_ 19 (d := d0_index_of) rfl) (T.glo 30) sc_index_of (fun _ _ _ _ _ _ us hl => match us, hl with | [_, _], _ => rfl) fun n d0 cdv A outer s H E hr => by
    have hN := sc_index_of.nd
    have d_index_of : ∀ _ : Nat, Dok P w base CX0 G "index_of" ["shape", "counts"] n (F_index_of n) := fun _ => d0
    have hU := hr.u200
    have hu1 := hr.u1
    exact (xs1 (xifs (xtisN (xv 0)) (xs1 (xret xint)
    xs0) xs0)
    (xs1 (xpar (i := 2) (j := 3) rfl hN (xa1 (xtup (xa1 (xcP (d_many_of n) rfl rfl hr px0 (xa1 (xix rfl (xv 0) xint) xa0)) (xa1 (xcP (d_many_of n) rfl rfl hr px0 (xa1 (xix rfl (xv 0) xint) xa0)) xa0))) (xa1 xint xa0)))
    (xs1 (xfor .never rfl (xis rfl (xcP (d_parted n) rfl rfl hr px0 (xa1 (xcP (d_many_of n) rfl rfl hr px0 (xa1 (xv 0) xa0)) xa0))) (xgt rfl rfl (xgs1 (xgn 4 hN) (xgs1 (xgn 5 hN) xgs0))) (xs1 (xifs (xtcmp op_eqX (os_eq hU) (xtup (xa1 (xv 4) (xa1 (xv 5) xa0))) (xv 2)) (xs1 xbrk
    xs0) xs0)
    (xs1 (xset 3 hN (xbinF op_addX of_add (xv 3) (xbin op_mulY os_mul (xix rfl (xv 1) (xv 4)) (xix rfl (xv 1) (xv 5)))))
    xs0)))
    (xs1 (xret (xbinF op_addX of_add (xbinF op_addX of_add (xv 3) (xbin op_mulY os_mul (xcP (d_index_of n) rfl rfl hr px0 (xa1 (xix rfl (xv 0) xint) (xa1 (xv 1) xa0))) (xix rfl (xv 1) (xix rfl (xv 2) xint)))) (xcP (d_index_of n) rfl rfl hr px0 (xa1 (xix rfl (xv 0) xint) (xa1 (xv 1) xa0)))))
    xs0))))

theorem sc_shape_index : FnScope ["shape"] ["shape"] (defScope s_shape_index) := ⟨rfl, rfl, rfl, by decide +kernel, rfl, by decide +kernel, by decide +kernel⟩
theorem ok_shape_index (T : Tx fa fn G) (d_index_of : ∀ n, Dok P w base CX0 G "index_of" ["shape", "counts"] n (F_index_of n)) (d_counts_to : ∀ n, Dok P w base CX0 G "counts_to" ["n"] n (F_counts_to n)) (d_many_of : ∀ n, Dok P w base CX0 G "many_of" ["shape"] n (F_many_of n)) (d_need_shape : ∀ n, Dok P w base CX0 G "need_shape" ["shape"] n (F_need_shape n)) : ∀ n, Dok P w base CX0 G "shape_index" ["shape"] n (F_shape_index n) :=
  dok_mk rfl (fun _ => rfl) (T.says.def_ 20 (d := d0_shape_index) rfl) (T.glo 31) sc_shape_index (fun _ _ _ _ _ _ us hl => match us, hl with | [_], _ => rfl) fun n d0 cdv A outer s H E hr => by
    have hN := sc_shape_index.nd
    have hU := hr.u200
    have hu1 := hr.u1
    exact (xs1 (xexp (xcP (d_need_shape n) rfl rfl hr px0 (xa1 (xv 0) xa0)))
    (xs1 (xret (xcP (d_index_of n) rfl rfl hr px0 (xa1 (xv 0) (xa1 (xcP (d_counts_to n) rfl rfl hr px0 (xa1 (xcP (d_many_of n) rfl rfl hr px0 (xa1 (xv 0) xa0)) xa0)) xa0))))
    xs0))

theorem sc_sizes : FnScope ["shape"] ["shape"] (defScope s_sizes) := ⟨rfl, rfl, rfl, by decide +kernel, rfl, by decide +kernel, by decide +kernel⟩
theorem ok_sizes (T : Tx fa fn G) (d_many_of : ∀ n, Dok P w base CX0 G "many_of" ["shape"] n (F_many_of n)) : ∀ n, Dok P w base CX0 G "sizes" ["shape"] n (F_sizes n) :=
  dok_mk rfl (fun _ => rfl) (T.says.def_ 21 (d := d0_sizes) rfl) (T.glo 32) sc_sizes (fun _ _ _ _ _ _ us hl => match us, hl with | [_], _ => rfl) fun n d0 cdv A outer s H E hr => by
    have hN := sc_sizes.nd
    have d_sizes : ∀ _ : Nat, Dok P w base CX0 G "sizes" ["shape"] n (F_sizes n) := fun _ => d0
    have hU := hr.u200
    have hu1 := hr.u1
    exact (xs1 (xret (xif (xtisN (xv 0)) xint (xbin op_mulY os_mul (xbin op_mulY os_mul (xcP (d_many_of n) rfl rfl hr px0 (xa1 (xv 0) xa0)) (xcP (d_sizes n) rfl rfl hr px0 (xa1 (xix rfl (xv 0) xint) xa0))) (xcP (d_sizes n) rfl rfl hr px0 (xa1 (xix rfl (xv 0) xint) xa0)))))
    xs0)

theorem sc_heaps_of : FnScope ["shape"] ["shape"] (defScope s_heaps_of) := ⟨rfl, rfl, rfl, by decide +kernel, rfl, by decide +kernel, by decide +kernel⟩
theorem ok_heaps_of (T : Tx fa fn G) (d_many_of : ∀ n, Dok P w base CX0 G "many_of" ["shape"] n (F_many_of n)) (d_sizes : ∀ n, Dok P w base CX0 G "sizes" ["shape"] n (F_sizes n)) (m_factorial : G.mg "factorial" = some (.builtin "math.factorial")) : ∀ n, Dok P w base CX0 G "heaps_of" ["shape"] n (F_heaps_of n) :=
  dok_mk rfl (fun _ => rfl) (T.says.def_ 22 (d := d0_heaps_of) rfl) (T.glo 33) sc_heaps_of (fun _ _ _ _ _ _ us hl => match us, hl with | [_], _ => rfl) fun n d0 cdv A outer s H E hr => by
    have hN := sc_heaps_of.nd
    have hU := hr.u200
    have hu1 := hr.u1
    exact (xs1 (xret (xbin op_fdivW os_fdiv (xcm cr_fact cs_fact (by rfl) m_factorial (xa1 (xcP (d_many_of n) rfl rfl hr px0 (xa1 (xv 0) xa0)) xa0)) (xcP (d_sizes n) rfl rfl hr px0 (xa1 (xv 0) xa0))))
    xs0)

theorem sc_shape_heaps : FnScope ["shape"] ["shape"] (defScope s_shape_heaps) := ⟨rfl, rfl, rfl, by decide +kernel, rfl, by decide +kernel, by decide +kernel⟩
theorem ok_shape_heaps (T : Tx fa fn G) (d_heaps_of : ∀ n, Dok P w base CX0 G "heaps_of" ["shape"] n (F_heaps_of n)) (d_need_shape : ∀ n, Dok P w base CX0 G "need_shape" ["shape"] n (F_need_shape n)) : ∀ n, Dok P w base CX0 G "shape_heaps" ["shape"] n (F_shape_heaps n) :=
  dok_mk rfl (fun _ => rfl) (T.says.def_ 23 (d := d0_shape_heaps) rfl) (T.glo 34) sc_shape_heaps (fun _ _ _ _ _ _ us hl => match us, hl with | [_], _ => rfl) fun n d0 cdv A outer s H E hr => by
    have hN := sc_shape_heaps.nd
    have hU := hr.u200
    have hu1 := hr.u1
    exact (xs1 (xexp (xcP (d_need_shape n) rfl rfl hr px0 (xa1 (xv 0) xa0)))
    (xs1 (xret (xcP (d_heaps_of n) rfl rfl hr px0 (xa1 (xv 0) xa0)))
    xs0))

theorem sc_q_join : FnScope ["_law_one", "_law_other", "_law_way", "_law_looks", "_law_found", "_law_place"] ["_law_one", "_law_other"] (defScope s_q_join) := ⟨rfl, rfl, rfl, by decide +kernel, rfl, by decide +kernel, by decide +kernel⟩
theorem ok_q_join (T : Tx fa fn G) : ∀ n, Dok P w base CX0 G "_law_join" ["_law_one", "_law_other"] n (F_q_join n) :=
  dok_mk rfl (fun _ => rfl) (T.says.def_ 24 (d := d0_q_join) rfl) (T.glo 35) sc_q_join (fun _ _ _ _ _ _ us hl => match us, hl with | [_, _], _ => rfl) fun n d0 cdv A outer s H E hr => by
    have hN := sc_q_join.nd
    have hU := hr.u200
    have hu1 := hr.u1
    exact (xs1 (xpar (i := 2) (j := 3) rfl hN (xa1 (xlstR xa0) (xa1 xint xa0)))
    (xs1 (xwhl 1000 .never (xpw (xwand (xtnotN (xv 0)) (xwand1 (xtnotN (xv 1))))) (xs1 (xifs (xtcmp op_lt os_lt (xix rfl (xv 1) xint) (xix rfl (xv 0) xint)) (xs1 (xpar (i := 0) (j := 1) rfl hN (xa1 (xv 1) (xa1 (xv 0) xa0)))
    xs0) xs0)
    (xs1 (xexp (xapp (xv 2) (xv 0)))
    (xs1 (xpar (i := 0) (j := 3) rfl hN (xa1 (xix rfl (xv 0) xint) (xa1 (xbinF op_addX of_add (xv 3) xint) xa0)))
    xs0))))
    (xs1 (xset 4 hN (xif (xtisN (xv 1)) (xv 0) (xv 1)))
    (xs1 (xfor .never rfl (xis rfl (xrev rfl (xv 2))) (xgn 5 hN) (xs1 (xset 4 hN (xtup (xa1 (xix rfl (xv 5) xint) (xa1 (xv 4) (xa1 (xix rfl (xv 5) xint) xa0)))))
    xs0))
    (xs1 (xret (xtup (xa1 (xv 4) (xa1 (xv 3) xa0))))
    xs0)))))

theorem sc_q_built : FnScope ["_law_order_here", "_law_heap_here", "_law_looks", "_law_key", "_law_more"] ["_law_order_here"] (defScope s_q_built) := ⟨rfl, rfl, rfl, by decide +kernel, rfl, by decide +kernel, by decide +kernel⟩
theorem ok_q_built (T : Tx fa fn G) (d_q_join : ∀ n, Dok P w base CX0 G "_law_join" ["_law_one", "_law_other"] n (F_q_join n)) : ∀ n, Dok P w base CX0 G "_law_built" ["_law_order_here"] n (F_q_built n) :=
  dok_mk rfl (fun _ => rfl) (T.says.def_ 25 (d := d0_q_built) rfl) (T.glo 36) sc_q_built (fun _ _ _ _ _ _ us hl => match us, hl with | [_], _ => rfl) fun n d0 cdv A outer s H E hr => by
    have hN := sc_q_built.nd
    have hU := hr.u200
    have hu1 := hr.u1
    exact (xs1 (xasg (xtup (xa1 xnon (xa1 xint xa0))) (xgt rfl rfl (xgs1 (xgn 1 hN) (xgs1 (xgn 2 hN) xgs0))))
    (xs1 (xfor .never rfl (xis rfl (xv 0)) (xgn 3 hN) (xs1 (xasg (xcP (d_q_join n) rfl rfl hr px0 (xa1 (xv 1) (xa1 (xtup (xa1 (xv 3) (xa1 xnon (xa1 xnon xa0)))) xa0))) (xgt rfl rfl (xgs1 (xgn 1 hN) (xgs1 (xgn 4 hN) xgs0))))
    (xs1 (xset 2 hN (xbinF op_addX of_add (xv 2) (xv 4)))
    xs0)))
    (xs1 (xret (xtup (xa1 (xv 1) (xa1 (xv 2) xa0))))
    xs0)))

theorem sc_q_orders : FnScope ["_law_some", "_law_found", "_law_key", "_law_rest", "_law_one"] ["_law_some"] (defScope s_q_orders) := ⟨rfl, rfl, rfl, by decide +kernel, rfl, by decide +kernel, by decide +kernel⟩
theorem ok_q_orders (T : Tx fa fn G) : ∀ n, Dok P w base CX0 G "_law_orders" ["_law_some"] n (F_q_orders n) :=
  dok_mk rfl (fun _ => rfl) (T.says.def_ 26 (d := d0_q_orders) rfl) (T.glo 37) sc_q_orders (fun _ _ _ _ _ _ us hl => match us, hl with | [_], _ => rfl) fun n d0 cdv A outer s H E hr => by
    have hN := sc_q_orders.nd
    have d_q_orders : ∀ _ : Nat, Dok P w base CX0 G "_law_orders" ["_law_some"] n (F_q_orders n) := fun _ => d0
    have hU := hr.u200
    have hu1 := hr.u1
    exact (xs1 (xifs (xtcmp op_eqX (os_eq hU) (xv 0) (xlstG xa0)) (xs1 (xret (xlstG (xa1 (xtup xa0) xa0)))
    xs0) xs0)
    (xs1 (xset 1 hN (xlstG xa0))
    (xs1 (xfor .never rfl (xis rfl (xv 0)) (xgn 2 hN) (xs1 (xset 1 hN (xbinF op_addX of_add (xv 1) (xlc (own := [("_law_rest", 3)]) rfl hN (xis rfl (xcP (d_q_orders n) rfl rfl hr px0 (xa1 (xlc (own := [("_law_one", 4)]) rfl hN (xis rfl (xv 0)) (blk_ok (by rfl)) (tg_n (i := 4) (by decide)) pt_1 (fun _ _ _ _ _ => pg_name (i := 4) hN rfl (Or.inl rfl)) (fun _ _ _ _ _ => pts1 (xtcmp op_neX (os_eq hU) (xv 4) (xv 2))) (fun _ _ _ _ _ => (xv 4))) xa0))) (blk_ok (by rfl)) (tg_n (i := 3) (by decide)) pt_0 (fun _ _ _ _ _ => pg_name (i := 3) hN rfl (Or.inl rfl)) (fun _ _ _ _ _ => pts_nil) (fun _ _ _ _ _ => (xbinF op_addX of_add (xtup (xa1 (xv 2) xa0)) (xv 3))))))
    xs0))
    (xs1 (xret (xfrZ (xv 1)))
    xs0))))

theorem sc_places : FnScope ["shape"] ["shape"] (defScope s_places) := ⟨rfl, rfl, rfl, by decide +kernel, rfl, by decide +kernel, by decide +kernel⟩
theorem ok_places (T : Tx fa fn G) (d_many_of : ∀ n, Dok P w base CX0 G "many_of" ["shape"] n (F_many_of n)) (d_need_shape : ∀ n, Dok P w base CX0 G "need_shape" ["shape"] n (F_need_shape n)) : ∀ n, Dok P w base CX0 G "places" ["shape"] n (F_places n) :=
  dok_mk rfl (fun _ => rfl) (T.says.def_ 27 (d := d0_places) rfl) (T.glo 38) sc_places (fun _ _ _ _ _ _ us hl => match us, hl with | [_], _ => rfl) fun n d0 cdv A outer s H E hr => by
    have hN := sc_places.nd
    have hU := hr.u200
    have hu1 := hr.u1
    exact (xs1 (xexp (xcP (d_need_shape n) rfl rfl hr px0 (xa1 (xv 0) xa0)))
    (xs1 (xret (xcP (d_many_of n) rfl rfl hr px0 (xa1 (xv 0) xa0)))
    xs0))

theorem sc_q_is_shape : FnScope ["_law_value"] ["_law_value"] (defScope s_q_is_shape) := ⟨rfl, rfl, rfl, by decide +kernel, rfl, by decide +kernel, by decide +kernel⟩
theorem ok_q_is_shape (T : Tx fa fn G) : ∀ n, Dok P w base CX0 G "_law_is_shape" ["_law_value"] n (F_q_is_shape n) :=
  dok_mk rfl (fun _ => rfl) (T.says.def_ 28 (d := d0_q_is_shape) rfl) (T.glo 39) sc_q_is_shape (fun _ _ _ _ _ _ us hl => match us, hl with | [_], _ => rfl) fun n d0 cdv A outer s H E hr => by
    have hN := sc_q_is_shape.nd
    have d_q_is_shape : ∀ _ : Nat, Dok P w base CX0 G "_law_is_shape" ["_law_value"] n (F_q_is_shape n) := fun _ => d0
    have hU := hr.u200
    have hu1 := hr.u1
    exact (xs1 (xifs (xtisN (xv 0)) (xs1 (xret xbl)
    xs0) xs0)
    (xs1 (xifs (xpw (xwor (xtnot (xtru rfl (xisi rfl ok_tuple rfl (T.free 6) (by rfl) (by rfl) (T.free 4) (xv 0)))) (xwor (xtcmp op_neX (os_eq hU) (xcb cr_lenX cs_len (by rfl) (T.free 1) rfl (xa1 (xv 0) xa0)) xint) (xwor1 (xpw (xwand (xtisN (xix rfl (xv 0) xint)) (xwand1 (xtnotN (xix rfl (xv 0) xint))))))))) (xs1 (xret xbl)
    xs0) xs0)
    (xs1 (xret (xand (xcP (d_q_is_shape n) rfl rfl hr px0 (xa1 (xix rfl (xv 0) xint) xa0)) (xone (xcP (d_q_is_shape n) rfl rfl hr px0 (xa1 (xix rfl (xv 0) xint) xa0)))))
    xs0)))

theorem sc_q_two : FnScope ["_law_many", "_law_found", "_law_turn"] ["_law_many"] (defScope s_q_two) := ⟨rfl, rfl, rfl, by decide +kernel, rfl, by decide +kernel, by decide +kernel⟩
theorem ok_q_two (T : Tx fa fn G) : ∀ n, Dok P w base CX0 G "_law_two" ["_law_many"] n (F_q_two n) :=
  dok_mk rfl (fun _ => rfl) (T.says.def_ 29 (d := d0_q_two) rfl) (T.glo 40) sc_q_two (fun _ _ _ _ _ _ us hl => match us, hl with | [_], _ => rfl) fun n d0 cdv A outer s H E hr => by
    have hN := sc_q_two.nd
    have hU := hr.u200
    have hu1 := hr.u1
    exact (xs1 (xset 1 hN xint)
    (xs1 (xfor .never rfl (xir1 (xa1 (xv 0) xa0) (by rfl) (T.free 2)) (xgn 2 hN) (xs1 (xset 1 hN (xbin op_mulY os_mul (xv 1) xint))
    xs0))
    (xs1 (xret (xfrZ (xv 1)))
    xs0)))

theorem sc_heap_count : FnScope ["n", "found", "many"] ["n"] (defScope s_heap_count) := ⟨rfl, rfl, rfl, by decide +kernel, rfl, by decide +kernel, by decide +kernel⟩
theorem ok_heap_count (T : Tx fa fn G) (tb : Tb base G "heap_count") (d_parted : ∀ n, Dok P w base CX0 G "parted" ["n"] n (F_parted n)) (d_need_number : ∀ n, Dok P w base CX0 G "need_number" ["n", "most"] n (F_need_number n)) (m_comb : G.mg "comb" = some (.builtin "math.comb")) : ∀ n, Dok P w base CX0 G "heap_count" ["n"] n (F_heap_count n) :=
  dokT_mk rfl rfl (fun _ => rfl) (T.says.def_ 30 (d := d0_heap_count) rfl) (T.glo 41) sc_heap_count (fun _ _ _ _ _ _ us hl => match us, hl with | [_], _ => rfl) fun n d0 A outer s H E hr1 => by
    have hr := hr1.mono (Nat.le_succ n)
    have hN := sc_heap_count.nd
    have hU := hr.u200
    have hu1 := hr.u1
    exact (xs1 (xexp (xcP (d_need_number n) rfl rfl hr px0 (xa1 (xv 0) (xa1 (xgint (by rfl) (T.int 9)) xa0))))
    (xs1 (xset 1 hN (xlstR (xa1 xint xa0)))
    (xs1 (xfor .never rfl (xir2 (xa1 xint (xa1 (xbinF op_addX of_add (xv 0) xint) xa0)) (by rfl) (T.free 2)) (xgn 2 hN) (xs1 (xexp (xapp (xv 1) (xsumG (N' := ["left", "right", "found", "many"]) ⟨gx_ok (by rfl), (xis rfl (xcP (d_parted n) rfl rfl hr px0 (xa1 (xv 2) xa0))), fun _ _ _ _ _ _ => (xgt rfl rfl (xgs1 (xgn 0 (show (["left", "right", "found", "many"] : List Str).Nodup by decide +kernel)) (xgs1 (xgn 1 (show (["left", "right", "found", "many"] : List Str).Nodup by decide +kernel)) xgs0))), fun _ _ _ _ _ _ hr2 => (xbin op_mulY os_mul (xbin op_mulY os_mul (xcm cr_comb cs_comb (by rfl) m_comb (xa1 (xbin op_sub os_sub (xv 3) xint) (xa1 (xv 0) xa0))) (xix rfl (xv 2) (xv 0))) (xix rfl (xv 2) (xv 1))), fun ρ => bk_2 (by decide) (gρ_own rfl) (gρ_own rfl), fun _ => rfl⟩ hr1 tb.tb tb.mem rfl (by rfl) (T.free 8))))
    xs0))
    (xs1 (xret (xix rfl (xv 1) (xv 0)))
    xs0))))

theorem sc_stepped : FnScope ["shape", "rest", "is_two"] ["shape"] (defScope s_stepped) := ⟨rfl, rfl, rfl, by decide +kernel, rfl, by decide +kernel, by decide +kernel⟩
theorem ok_stepped (T : Tx fa fn G) : ∀ n, Dok P w base CX0 G "stepped" ["shape"] n (F_stepped n) :=
  dok_mk rfl (fun _ => rfl) (T.says.def_ 31 (d := d0_stepped) rfl) (T.glo 42) sc_stepped (fun _ _ _ _ _ _ us hl => match us, hl with | [_], _ => rfl) fun n d0 cdv A outer s H E hr => by
    have hN := sc_stepped.nd
    have d_stepped : ∀ _ : Nat, Dok P w base CX0 G "stepped" ["shape"] n (F_stepped n) := fun _ => d0
    have hU := hr.u200
    have hu1 := hr.u1
    exact (xs1 (xifs (xtnotN (xix rfl (xv 0) xint)) (xs1 (xasg (xcP (d_stepped n) rfl rfl hr px0 (xa1 (xix rfl (xv 0) xint) xa0)) (xgt rfl rfl (xgs1 (xgn 1 hN) (xgs1 (xgn 2 hN) xgs0))))
    (xs1 (xret (xtup (xa1 (xtup (xa1 (xix rfl (xv 0) xint) (xa1 (xv 1) xa0))) (xa1 (xv 2) xa0))))
    xs0)) xs0)
    (xs1 (xret (xtup (xa1 (xix rfl (xv 0) xint) (xa1 (xcmp op_eqX (os_eq hU) (xix rfl (xv 0) xint) (xtup (xa1 xnon (xa1 xnon xa0)))) xa0))))
    xs0))

theorem sc_choices_of : FnScope ["shape", "found", "is_two"] ["shape"] (defScope s_choices_of) := ⟨rfl, rfl, rfl, by decide +kernel, rfl, by decide +kernel, by decide +kernel⟩
theorem ok_choices_of (T : Tx fa fn G) (d_stepped : ∀ n, Dok P w base CX0 G "stepped" ["shape"] n (F_stepped n)) : ∀ n, Dok P w base CX0 G "choices_of" ["shape"] n (F_choices_of n) :=
  dok_mk rfl (fun _ => rfl) (T.says.def_ 32 (d := d0_choices_of) rfl) (T.glo 43) sc_choices_of (fun _ _ _ _ _ _ us hl => match us, hl with | [_], _ => rfl) fun n d0 cdv A outer s H E hr => by
    have hN := sc_choices_of.nd
    have hU := hr.u200
    have hu1 := hr.u1
    exact (xs1 (xset 1 hN xint)
    (xs1 (xwhl 1000 .never (xtnotN (xv 0)) (xs1 (xasg (xcP (d_stepped n) rfl rfl hr px0 (xa1 (xv 0) xa0)) (xgt rfl rfl (xgs1 (xgn 0 hN) (xgs1 (xgn 2 hN) xgs0))))
    (xs1 (xset 1 hN (xbinF op_addX of_add (xv 1) (xif (xtru rfl (xv 2)) xint xint)))
    xs0)))
    (xs1 (xret (xfrZ (xv 1)))
    xs0)))

theorem sc_whole : FnScope ["n", "counts", "some", "index"] ["n"] (defScope s_whole) := ⟨rfl, rfl, rfl, by decide +kernel, rfl, by decide +kernel, by decide +kernel⟩
theorem ok_whole (T : Tx fa fn G) (tb : Tb base G "whole") (d_heaps_of : ∀ n, Dok P w base CX0 G "heaps_of" ["shape"] n (F_heaps_of n)) (d_choices_of : ∀ n, Dok P w base CX0 G "choices_of" ["shape"] n (F_choices_of n)) (d_numbered : ∀ n, Dok P w base CX0 G "numbered" ["n", "index", "counts"] n (F_numbered n)) (d_counts_to : ∀ n, Dok P w base CX0 G "counts_to" ["n"] n (F_counts_to n)) (d_need_number : ∀ n, Dok P w base CX0 G "need_number" ["n", "most"] n (F_need_number n)) : ∀ n, Dok P w base CX0 G "whole" ["n"] n (F_whole n) :=
  dokT_mk rfl rfl (fun _ => rfl) (T.says.def_ 33 (d := d0_whole) rfl) (T.glo 44) sc_whole (fun _ _ _ _ _ _ us hl => match us, hl with | [_], _ => rfl) fun n d0 A outer s H E hr1 => by
    have hr := hr1.mono (Nat.le_succ n)
    have hN := sc_whole.nd
    have hU := hr.u200
    have hu1 := hr.u1
    exact (xs1 (xexp (xcP (d_need_number n) rfl rfl hr px0 (xa1 (xv 0) (xa1 (xgint (by rfl) (T.int 10)) xa0))))
    (xs1 (xset 1 hN (xcP (d_counts_to n) rfl rfl hr px0 (xa1 (xv 0) xa0)))
    (xs1 (xsetlc (own := [("index", 3)]) rfl hN rfl rfl (sw_true rfl rfl rfl (by decide +kernel)) (xir1 (xa1 (xix rfl (xv 1) (xv 0)) xa0) (by rfl) (T.free 2)) (blk_ok (by rfl)) (tg_n (i := 3) (by decide)) pt_0 (fun _ _ _ _ _ => pg_name (i := 3) hN rfl (Or.inl rfl)) (fun _ _ _ _ _ => pts_nil) (fun _ _ _ _ _ => (xcP (d_numbered n) rfl rfl hr px0 (xa1 (xv 0) (xa1 (xv 3) (xa1 (xv 1) xa0))))))
    (xs1 (xret (xsumG (N' := ["one"]) ⟨gx_ok (by rfl), (xis rfl (xv 2)), fun _ _ _ _ _ _ => (xgn 0 (show (["one"] : List Str).Nodup by decide +kernel)), fun _ _ _ _ _ _ hr2 => (xbin op_shl os_shl (xcP (d_heaps_of n) rfl rfl hr2 px0 (xa1 (xv 0) xa0)) (xcP (d_choices_of n) rfl rfl hr2 px0 (xa1 (xv 0) xa0))), fun ρ => bk_n (gρ_own rfl), fun _ => rfl⟩ hr1 tb.tb tb.mem rfl (by rfl) (T.free 8)))
    xs0))))

theorem sc_shape_choices : FnScope ["shape"] ["shape"] (defScope s_shape_choices) := ⟨rfl, rfl, rfl, by decide +kernel, rfl, by decide +kernel, by decide +kernel⟩
theorem ok_shape_choices (T : Tx fa fn G) (d_choices_of : ∀ n, Dok P w base CX0 G "choices_of" ["shape"] n (F_choices_of n)) (d_need_shape : ∀ n, Dok P w base CX0 G "need_shape" ["shape"] n (F_need_shape n)) : ∀ n, Dok P w base CX0 G "shape_choices" ["shape"] n (F_shape_choices n) :=
  dok_mk rfl (fun _ => rfl) (T.says.def_ 34 (d := d0_shape_choices) rfl) (T.glo 45) sc_shape_choices (fun _ _ _ _ _ _ us hl => match us, hl with | [_], _ => rfl) fun n d0 cdv A outer s H E hr => by
    have hN := sc_shape_choices.nd
    have hU := hr.u200
    have hu1 := hr.u1
    exact (xs1 (xexp (xcP (d_need_shape n) rfl rfl hr px0 (xa1 (xv 0) xa0)))
    (xs1 (xret (xcP (d_choices_of n) rfl rfl hr px0 (xa1 (xv 0) xa0)))
    xs0))

theorem sc_law : FnScope ["_law_script", "_law_row", "_law_n", "_law_every", "_law_shape_here", "_law_turn", "_law_bent_here", "_law_heaps_here", "_law_total", "_law_sums", "_law_one", "_law_lots_here", "_law_small", "_law_built_here", "_law_many", "_law_order_here"] ["_law_script"] (defScope s_law) := ⟨rfl, rfl, rfl, by decide +kernel, rfl, by decide +kernel, by decide +kernel⟩
theorem bd_law (T : Tx fa fn G) (d_q_shapes : ∀ n, Dok P w base CX0 G "_law_shapes" ["_law_n"] n (F_q_shapes n)) (d_q_alike : ∀ n, Dok P w base CX0 G "_law_alike" ["_law_found", "_law_due"] n (F_q_alike n)) (d_q_two : ∀ n, Dok P w base CX0 G "_law_two" ["_law_many"] n (F_q_two n)) (d_shape_choices : ∀ n, Dok P w base CX0 G "shape_choices" ["shape"] n (F_shape_choices n)) (d_q_pick : ∀ n, Dok P w base CX0 G "_law_pick" ["_law_row", "_law_things"] n (F_q_pick n)) (d_q_heaps : ∀ n, Dok P w base CX0 G "_law_heaps" ["_law_shape_here", "_law_some"] n (F_q_heaps n)) (d_q_orders : ∀ n, Dok P w base CX0 G "_law_orders" ["_law_some"] n (F_q_orders n)) (d_q_built : ∀ n, Dok P w base CX0 G "_law_built" ["_law_order_here"] n (F_q_built n)) (d_q_taken : ∀ n, Dok P w base CX0 G "_law_taken" ["_law_row", "_law_many"] n (F_q_taken n)) (d_whole : ∀ n, Dok P w base CX0 G "whole" ["n"] n (F_whole n)) (d_heap_count : ∀ n, Dok P w base CX0 G "heap_count" ["n"] n (F_heap_count n)) (d_shape_heaps : ∀ n, Dok P w base CX0 G "shape_heaps" ["shape"] n (F_shape_heaps n)) (d_q_is_shape : ∀ n, Dok P w base CX0 G "_law_is_shape" ["_law_value"] n (F_q_is_shape n)) (d_is_turned_shape : ∀ n, Dok P w base CX0 G "is_turned_shape" ["value"] n (F_is_turned_shape n)) (d_q_bent : ∀ n, Dok P w base CX0 G "_law_bent" ["_law_row", "_law_one"] n (F_q_bent n)) (d_places : ∀ n, Dok P w base CX0 G "places" ["shape"] n (F_places n)) (d_shape_index : ∀ n, Dok P w base CX0 G "shape_index" ["shape"] n (F_shape_index n)) (d_shape_at : ∀ n, Dok P w base CX0 G "shape_at" ["n", "index"] n (F_shape_at n)) (d_shape_count : ∀ n, Dok P w base CX0 G "shape_count" ["n"] n (F_shape_count n)) (fA : Addr) (n : Nat) : ∀ (cdv : Value) (A : Around) (outer : List Env) (s : Shared) (H : Hp) (E : XK), Room n (A.deeper (envOfC "law" (defScope s_law) s.heap.objs.size fA cdv)) → PSs (cxOf CX0 P w G.K G.mg base ["_law_script", "_law_row", "_law_n", "_law_every", "_law_shape_here", "_law_turn", "_law_bent_here", "_law_heaps_here", "_law_total", "_law_sums", "_law_one", "_law_lots_here", "_law_small", "_law_built_here", "_law_many", "_law_order_here"] "law" (defScope s_law) fA cdv A outer s H E).nox (defBody s_law) (rdS G E (b_law (F_q_shapes n) (F_q_alike n) (F_q_two n) (F_shape_choices n) (F_q_pick n) (F_q_heaps n) (F_q_orders n) (F_q_built n) (F_q_taken n) (F_whole n) (F_heap_count n) (F_shape_heaps n) (F_q_is_shape n) (F_is_turned_shape n) (F_q_bent n) (F_places n) (F_shape_index n) (F_shape_at n) (F_shape_count n))) := by
    intro cdv A outer s H E hr
    have hN := sc_law.nd
    have hU := hr.u200
    have hu1 := hr.u1
    exact (xs1 (xset 1 hN (xlstR (xa1 (xv 0) (xa1 xint (xa1 xint (xa1 xint xa0))))))
    (xs1 (xset 2 hN (xcT (d_q_taken n) rfl rfl hr px0 (xa1 (xv 1) (xa1 xint xa0))))
    (xs1 (xset 3 hN (xcP (d_q_shapes n) rfl rfl hr px0 (xa1 (xv 2) xa0)))
    (xs1 (xset 4 hN (xcT (d_q_pick n) rfl rfl hr px0 (xa1 (xv 1) (xa1 (xv 3) xa0))))
    (xs1 (xifs (xtnot (xtru rfl (xcP (d_q_alike n) rfl rfl hr px0 (xa1 (xcP (d_shape_count n) rfl rfl hr px0 (xa1 (xv 2) xa0)) (xa1 (xcb cr_lenX cs_len (by rfl) (T.free 1) rfl (xa1 (xv 3) xa0)) xa0))))) (xs1 (xret xbl)
    xs0) xs0)
    (xs1 (xifs (xtnot (xtru rfl (xcP (d_q_alike n) rfl rfl hr px0 (xa1 (xcP (d_shape_at n) rfl rfl hr px0 (xa1 (xv 2) (xa1 (xmd hU rfl PySem.F.slot_list_index PySem.F.type_list_index mt_indexL (xv 3) (xv 4)) xa0))) (xa1 (xv 4) xa0))))) (xs1 (xret xbl)
    xs0) xs0)
    (xs1 (xifs (xtnot (xtru rfl (xcP (d_q_alike n) rfl rfl hr px0 (xa1 (xcP (d_shape_index n) rfl rfl hr px0 (xa1 (xv 4) xa0)) (xa1 (xmd hU rfl PySem.F.slot_list_index PySem.F.type_list_index mt_indexL (xv 3) (xv 4)) xa0))))) (xs1 (xret xbl)
    xs0) xs0)
    (xs1 (xifs (xpw (xwor (xtnot (xtru rfl (xcP (d_q_alike n) rfl rfl hr px0 (xa1 (xcP (d_is_turned_shape n) rfl rfl hr px0 (xa1 (xv 4) xa0)) (xa1 xbl xa0))))) (xwor1 (xtnot (xtru rfl (xcP (d_q_alike n) rfl rfl hr px0 (xa1 (xcP (d_places n) rfl rfl hr px0 (xa1 (xv 4) xa0)) (xa1 (xv 2) xa0)))))))) (xs1 (xret xbl)
    xs0) xs0)
    (xs1 (xfor .never rfl (xir1 (xa1 xint xa0) (by rfl) (T.free 2)) (xgn 5 hN) (xs1 (xset 6 hN (xcT (d_q_bent n) rfl rfl hr px0 (xa1 (xv 1) (xa1 (xv 4) xa0))))
    (xs1 (xifs (xtnot (xtru rfl (xcP (d_q_alike n) rfl rfl hr px0 (xa1 (xcP (d_is_turned_shape n) rfl rfl hr px0 (xa1 (xv 6) xa0)) (xa1 (xcP (d_q_is_shape n) rfl rfl hr px0 (xa1 (xv 6) xa0)) xa0))))) (xs1 (xret xbl)
    xs0) xs0)
    xs0)))
    (xs1 (xset 7 hN (xcP (d_q_heaps n) rfl rfl hr px0 (xa1 (xv 4) (xa1 (xlrg2 rfl (by rfl) (T.free 7) (by rfl) (T.free 2) xint (xbinF op_addX of_add (xv 2) xint)) xa0))))
    (xs1 (xifs (xtnot (xtru rfl (xcP (d_q_alike n) rfl rfl hr px0 (xa1 (xcP (d_shape_heaps n) rfl rfl hr px0 (xa1 (xv 4) xa0)) (xa1 (xcb cr_lenX cs_len (by rfl) (T.free 1) rfl (xa1 (xv 7) xa0)) xa0))))) (xs1 (xret xbl)
    xs0) xs0)
    (xs1 (xifs (xtcmp op_le os_le (xv 2) xint) (xs1 (xasg (xtup (xa1 xint (xa1 xint xa0))) (xgt rfl rfl (xgs1 (xgn 8 hN) (xgs1 (xgn 9 hN) xgs0))))
    (xs1 (xfor .never rfl (xis rfl (xv 3)) (xgn 10 hN) (xs1 (xset 11 hN (xcP (d_q_heaps n) rfl rfl hr px0 (xa1 (xv 10) (xa1 (xlrg2 rfl (by rfl) (T.free 7) (by rfl) (T.free 2) xint (xbinF op_addX of_add (xv 2) xint)) xa0))))
    (xs1 (xpar (i := 8) (j := 9) rfl hN (xa1 (xbinF op_addX of_add (xv 8) (xcb cr_lenX cs_len (by rfl) (T.free 1) rfl (xa1 (xv 11) xa0))) (xa1 (xbinF op_addX of_add (xv 9) (xbin op_mulY os_mul (xcb cr_lenX cs_len (by rfl) (T.free 1) rfl (xa1 (xv 11) xa0)) (xcP (d_q_two n) rfl rfl hr px0 (xa1 (xcP (d_shape_choices n) rfl rfl hr px0 (xa1 (xv 10) xa0)) xa0)))) xa0)))
    xs0)))
    (xs1 (xifs (xpw (xwor (xtnot (xtru rfl (xcP (d_q_alike n) rfl rfl hr px0 (xa1 (xcP (d_heap_count n) rfl rfl hr px0 (xa1 (xv 2) xa0)) (xa1 (xv 8) xa0))))) (xwor1 (xtnot (xtru rfl (xcP (d_q_alike n) rfl rfl hr px0 (xa1 (xcP (d_whole n) rfl rfl hr px0 (xa1 (xv 2) xa0)) (xa1 (xv 9) xa0)))))))) (xs1 (xret xbl)
    xs0) xs0)
    xs0))) xs0)
    (xs1 (xset 12 hN (xcT (d_q_taken n) rfl rfl hr px0 (xa1 (xv 1) (xa1 xint xa0))))
    (xs1 (xsetlc (own := [("_law_order_here", 15)]) rfl hN rfl rfl (sw_true rfl rfl rfl (by decide +kernel)) (xis rfl (xcP (d_q_orders n) rfl rfl hr px0 (xa1 (xlrg2 rfl (by rfl) (T.free 7) (by rfl) (T.free 2) xint (xbinF op_addX of_add (xv 12) xint)) xa0))) (blk_ok (by rfl)) (tg_n (i := 15) (by decide)) pt_0 (fun _ _ _ _ _ => pg_name (i := 15) hN rfl (Or.inl rfl)) (fun _ _ _ _ _ => pts_nil) (fun _ _ _ _ _ => (xix rfl (xcP (d_q_built n) rfl rfl hr px0 (xa1 (xv 15) xa0)) xint)))
    (xs1 (xfor .never rfl (xis rfl (xcP (d_q_shapes n) rfl rfl hr px0 (xa1 (xv 12) xa0))) (xgn 10 hN) (xs1 (xset 14 hN (xmd hU rfl PySem.F.slot_list_count PySem.F.type_list_count mt_countL (xv 13) (xcT (d_q_pick n) rfl rfl hr px0 (xa1 (xv 1) (xa1 (xcP (d_q_heaps n) rfl rfl hr px0 (xa1 (xv 10) (xa1 (xlrg2 rfl (by rfl) (T.free 7) (by rfl) (T.free 2) xint (xbinF op_addX of_add (xv 12) xint)) xa0))) xa0)))))
    (xs1 (xifs (xtnot (xtru rfl (xcP (d_q_alike n) rfl rfl hr px0 (xa1 (xcP (d_q_two n) rfl rfl hr px0 (xa1 (xcP (d_shape_choices n) rfl rfl hr px0 (xa1 (xv 10) xa0)) xa0)) (xa1 (xv 14) xa0))))) (xs1 (xret xbl)
    xs0) xs0)
    xs0)))
    (xs1 (xret xbl)
    xs0))))))))))))))))

end
def tf : List He.Defn := [("counts_to", none), ("heap_count", none), ("whole", none)]
def exB (K : PySem.W.Frag) : Bool := He.eqO (PySem.W.nsIn K mainGlobals "comb") (some (some (.builtin "math.comb"))) && (He.eqO (PySem.W.nsIn K mainGlobals "factorial") (some (some (.builtin "math.factorial"))) && (true))
def names0 : List PySem.Str := ["comb", "factorial", "HeapError", "BadShape", "BadNumber", "MOST_KEYS", "is_in", "MOST_WHOLE", "has_form", "many_of", "is_turned_shape", "need_shape", "places", "need_number", "parted", "counts_to", "shape_count", "numbered", "shape_at", "index_of", "shape_index", "sizes", "heaps_of", "shape_heaps", "heap_count", "stepped", "choices_of", "shape_choices", "whole", "_law_taken"]
def names1 : List PySem.Str := ["_law_pick", "_law_alike", "_law_join", "_law_built", "_law_keys", "_law_order", "_law_heap", "_law_any", "_law_is_turned", "_law_shape", "_law_shapes", "_law_places", "_law_heaps", "_law_lots", "_law_is_shape", "_law_bent", "_law_orders", "_law_two"]
def names : List PySem.Str := names0 ++ names1
abbrev Rw : PySem.W.OpenRow := PySem.W.OpenLaw.row PySem.Challenge.rw_turnheaps_k04_whole_shapes
abbrev hk : PySem.W.Hook := He.hookX 4 fa fn [] tf exB
def ob (s : PySem.W.SharedT) : He.AlX := He.obsX 4 fa fn [] tf exB (HandSHeadRun.getT s)
theorem ob_eq (s : PySem.W.SharedT) : ob s = hk.obs s.abs := He.obsX_eq (HandSHeadRun.getT_eq s)
theorem run (w : World) : Xt.RunI Rw (PySem.W.view Rw.prog [51]) hk ob 4000 "math" names w := by
  unfold Xt.RunI
  kernel_rfl
theorem facts {P : Program} {w : World} {K : PySem.W.Frag} {h : Heap} {mg : Str → Option Value} {f : Addr} (X : K.In h) (Gm : h.Ns mainGlobals mg) (hfa : mg ("law" : Str) = some (.ref f)) (c : He.SaysX fa fn [] tf exB w h K) (n : Nat)
    (hrun : ∀ ns : List Int, ∃ M, F_law (n + 1) [.g (.list (ns.map .int))] [] = .ok (vB true) M) :
    ∃ fd : FuncData, (∀ (s : Shared) (v : Value), BindsTo s fd ⟨[v], []⟩ [("_law_script", v)]) ∧ ∀ base : Heap, K.In base → base.Ns mainGlobals mg → (∀ p ∈ tf.map (He.cT K), LamX.TabB base mg p.1 p.2) → FnOk P w K mg base CX0 (n + 1) f fd ["_law_script"] (spL ⟨K, mg, (tf.map (He.cT K)).map (·.2)⟩) := by
  have T : Tx fa fn ⟨K, mg, (tf.map (He.cT K)).map (·.2)⟩ := ⟨c.t.d, h, X, Gm⟩
  obtain ⟨fd, F⟩ := c.t.d.def_ 35 (d := d0_law) rfl
  have e := hfa.symm.trans (T.glo 46)
  cases e
  have b := FunD.bindsA (ps := ["_law_script"]) F fun _ _ _ _ _ _ us hl => match us, hl with | [_], _ => rfl
  have tb_counts_to : ∀ base : Heap, (∀ p ∈ tf.map (He.cT K), LamX.TabB base mg p.1 p.2) → Tb base ⟨K, mg, (tf.map (He.cT K)).map (·.2)⟩ "counts_to" := fun base h => ⟨h _ (List.mem_map.mpr ⟨("counts_to", none), by simp [tf], rfl⟩), List.mem_map.mpr ⟨_, List.mem_map.mpr ⟨("counts_to", none), by simp [tf], rfl⟩, rfl⟩⟩
  have tb_heap_count : ∀ base : Heap, (∀ p ∈ tf.map (He.cT K), LamX.TabB base mg p.1 p.2) → Tb base ⟨K, mg, (tf.map (He.cT K)).map (·.2)⟩ "heap_count" := fun base h => ⟨h _ (List.mem_map.mpr ⟨("heap_count", none), by simp [tf], rfl⟩), List.mem_map.mpr ⟨_, List.mem_map.mpr ⟨("heap_count", none), by simp [tf], rfl⟩, rfl⟩⟩
  have tb_whole : ∀ base : Heap, (∀ p ∈ tf.map (He.cT K), LamX.TabB base mg p.1 p.2) → Tb base ⟨K, mg, (tf.map (He.cT K)).map (·.2)⟩ "whole" := fun base h => ⟨h _ (List.mem_map.mpr ⟨("whole", none), by simp [tf], rfl⟩), List.mem_map.mpr ⟨_, List.mem_map.mpr ⟨("whole", none), by simp [tf], rfl⟩, rfl⟩⟩
  have e0 : (He.eqO (PySem.W.nsIn K mainGlobals "comb") (some (some (.builtin "math.comb"))) && (He.eqO (PySem.W.nsIn K mainGlobals "factorial") (some (some (.builtin "math.factorial"))) && (true))) = true := c.more
  obtain ⟨e0a, e1⟩ := Bool.and_eq_true_iff.mp e0
  have m_comb : mg "comb" = some (.builtin "math.comb") := PySem.W.mg_of X Gm (He.eqO_ok e0a)
  obtain ⟨e1a, e2⟩ := Bool.and_eq_true_iff.mp e1
  have m_factorial : mg "factorial" = some (.builtin "math.factorial") := PySem.W.mg_of X Gm (He.eqO_ok e1a)
  refine ⟨fd, fun s v => b s [v] rfl, fun base _ _ hT => ?_⟩
  let G : Gx := ⟨K, mg, (tf.map (He.cT K)).map (·.2)⟩
  have d_q_taken := ok_q_taken (P := P) (w := w) (base := base) (G := G) T
  have d_q_shapes := ok_q_shapes (P := P) (w := w) (base := base) (G := G) T
  have d_q_pick := ok_q_pick (P := P) (w := w) (base := base) (G := G) T d_q_taken
  have d_q_lots := ok_q_lots (P := P) (w := w) (base := base) (G := G) T
  have d_q_places := ok_q_places (P := P) (w := w) (base := base) (G := G) T
  have d_q_heaps := ok_q_heaps (P := P) (w := w) (base := base) (G := G) T d_q_lots d_q_places
  have d_q_alike := ok_q_alike (P := P) (w := w) (base := base) (G := G) T
  have d_q_bent := ok_q_bent (P := P) (w := w) (base := base) (G := G) T d_q_taken d_q_pick
  have d_is_in := ok_is_in (P := P) (w := w) (base := base) (G := G) T
  have d_need_number := ok_need_number (P := P) (w := w) (base := base) (G := G) T d_is_in
  have d_parted := ok_parted (P := P) (w := w) (base := base) (G := G) T
  have d_counts_to := ok_counts_to (P := P) (w := w) (base := base) (G := G) T (tb_counts_to base hT) d_parted
  have d_shape_count := ok_shape_count (P := P) (w := w) (base := base) (G := G) T d_counts_to d_need_number
  have d_numbered := ok_numbered (P := P) (w := w) (base := base) (G := G) T d_parted
  have d_shape_at := ok_shape_at (P := P) (w := w) (base := base) (G := G) T d_numbered d_need_number d_counts_to
  have d_has_form := ok_has_form (P := P) (w := w) (base := base) (G := G) T
  have d_many_of := ok_many_of (P := P) (w := w) (base := base) (G := G) T
  have d_is_turned_shape := ok_is_turned_shape (P := P) (w := w) (base := base) (G := G) T d_many_of d_has_form
  have d_need_shape := ok_need_shape (P := P) (w := w) (base := base) (G := G) T d_is_turned_shape
  have d_index_of := ok_index_of (P := P) (w := w) (base := base) (G := G) T d_parted d_many_of
  have d_shape_index := ok_shape_index (P := P) (w := w) (base := base) (G := G) T d_index_of d_counts_to d_many_of d_need_shape
  have d_sizes := ok_sizes (P := P) (w := w) (base := base) (G := G) T d_many_of
  have d_heaps_of := ok_heaps_of (P := P) (w := w) (base := base) (G := G) T d_many_of d_sizes m_factorial
  have d_shape_heaps := ok_shape_heaps (P := P) (w := w) (base := base) (G := G) T d_heaps_of d_need_shape
  have d_q_join := ok_q_join (P := P) (w := w) (base := base) (G := G) T
  have d_q_built := ok_q_built (P := P) (w := w) (base := base) (G := G) T d_q_join
  have d_q_orders := ok_q_orders (P := P) (w := w) (base := base) (G := G) T
  have d_places := ok_places (P := P) (w := w) (base := base) (G := G) T d_many_of d_need_shape
  have d_q_is_shape := ok_q_is_shape (P := P) (w := w) (base := base) (G := G) T
  have d_q_two := ok_q_two (P := P) (w := w) (base := base) (G := G) T
  have d_heap_count := ok_heap_count (P := P) (w := w) (base := base) (G := G) T (tb_heap_count base hT) d_parted d_need_number m_comb
  have d_stepped := ok_stepped (P := P) (w := w) (base := base) (G := G) T
  have d_choices_of := ok_choices_of (P := P) (w := w) (base := base) (G := G) T d_stepped
  have d_whole := ok_whole (P := P) (w := w) (base := base) (G := G) T (tb_whole base hT) d_heaps_of d_choices_of d_numbered d_counts_to d_need_number
  have d_shape_choices := ok_shape_choices (P := P) (w := w) (base := base) (G := G) T d_choices_of d_need_shape
  exact law_fn (G := G) F sc_law (bd_law T d_q_shapes d_q_alike d_q_two d_shape_choices d_q_pick d_q_heaps d_q_orders d_q_built d_q_taken d_whole d_heap_count d_shape_heaps d_q_is_shape d_is_turned_shape d_q_bent d_places d_shape_index d_shape_at d_shape_count _ n) hrun
end K04
set_option Elab.async false
set_option linter.all false
set_option maxRecDepth 1000000
set_option maxHeartbeats 0
namespace K04
open Xt PySem
/-- nodes of a shape -/
def mz : PyData → Nat
  | .tuple [a, b] => 1 + mz a + mz b
  | _ => 0
def isNo : PyData → Bool
  | .none => true
  | _ => false
/-- a turned shape -/
def sh : PyData → Bool
  | .none => true
  | .tuple [a, b] => if isNo a && !isNo b then false else sh a && sh b
  | _ => false
theorem isN_t (x : PyData) (M : Mem) : isN false (.g x) M = .ok (vB (isNo x)) M := by cases x <;> rfl
theorem isN_f (x : PyData) (M : Mem) : isN true (.g x) M = .ok (vB (!isNo x)) M := by cases x <;> rfl
theorem eq0 {deep : Int} (h : deep ≠ 0) (M : Mem) : eqD false (dI deep) (.g (.int 0)) M = .ok (vB false) M := by
  have e : PyData.eqv (.int deep) (.int 0) = false := by
    show (deep == 0) = false
    exact beq_eq_false_iff_ne.mpr h
  show chk (eqOk (.int deep) (.int 0)) (rt (vB (PyData.eqv (.int deep) (.int 0)))) M = _
  rw [e]
  rfl
theorem ne2 {i : Int} (h : i ≠ 2) (M : Mem) : eqD true (dI i) (.g (.int 2)) M = .ok (vB true) M := by
  have e : PyData.eqv (.int i) (.int 2) = false := by
    show (i == 2) = false
    exact beq_eq_false_iff_ne.mpr h
  show chk (eqOk (.int i) (.int 2)) (rt (vB (!PyData.eqv (.int i) (.int 2)))) M = _
  rw [e]
  rfl
theorem bnd_ok {α β : Type} {c : Co α} {k : α → Co β} {M M' : Mem} {x : α} (h : c M = .ok x M') : bnd c k M = k x M' := by
  unfold bnd
  rw [h]
theorem tor_f {f g : Slots → Co Bool} {ρ : Slots} {M : Mem} (h : f ρ M = .ok false M) : tor f g ρ M = g ρ M := bnd_ok h
theorem tand_b {f g : Slots → Co Bool} {ρ : Slots} {M : Mem} {p q : Bool} (h : f ρ M = .ok p M) (h2 : g ρ M = .ok q M) : tand f g ρ M = .ok (p && q) M := by
  refine (bnd_ok h).trans ?_
  cases p
  · rfl
  · exact h2
theorem tst_b {f : Slots → Co Dv} {ρ : Slots} {M : Mem} {p : Bool} (h : f ρ M = .ok (vB p) M) : tst f ρ M = .ok p M := (bnd_ok h).trans rfl
theorem sq_nx {a b : Slots → Co Fl} {ρ ρ' : Slots} {M M' : Mem} (h : a ρ M = .ok (.nx ρ') M') : sq a b ρ M = b ρ' M' := by
  show bnd (a ρ) _ M = _
  unfold bnd
  rw [h]
theorem sq_rt {a b : Slots → Co Fl} {ρ : Slots} {M M' : Mem} {d : Dv} (h : a ρ M = .ok (.rt d) M') : sq a b ρ M = .ok (.rt d) M' := by
  show bnd (a ρ) _ M = _
  unfold bnd
  rw [h]
  rfl
theorem ifs_t {t : Slots → Co Bool} {a b : Slots → Co Fl} {ρ : Slots} {M : Mem} (h : t ρ M = .ok true M) : ifs t a b ρ M = a ρ M := bnd_ok h
theorem ifs_f {t : Slots → Co Bool} {a b : Slots → Co Fl} {ρ : Slots} {M : Mem} (h : t ρ M = .ok false M) : ifs t a b ρ M = b ρ M := bnd_ok h
theorem andV_b {f g : Slots → Co Dv} {ρ : Slots} {M : Mem} {p q : Bool} (h : f ρ M = .ok (vB p) M) (h2 : g ρ M = .ok (vB q) M) : andV f g ρ M = .ok (vB (p && q)) M := by
  refine (bnd_ok (tst_b h)).trans ?_
  cases p
  · rfl
  · exact h2
theorem ret_ok {f : Slots → Co Dv} {ρ : Slots} {M : Mem} {d : Dv} (h : f ρ M = .ok d M) : Xt.ret f ρ M = .ok (.rt d) M := (bnd_ok h).trans rfl
theorem def_rt {n np : Nat} {b : Slots → Co Fl} {ds : List Dv} {M M' : Mem} {d : Dv} (hl : Nat.beq ds.length np = true) (h : b (ds ++ List.replicate (n - np) .u) M = .ok (.rt d) M') : defF n np b ds M = .ok d M' := by
  unfold defF chk
  rw [hl]
  exact (bnd_ok h).trans rfl
theorem hf2 (c : List Dv → Co Dv) (a b : PyData) (deep : Int) (p q : Bool) (M : Mem) (h0 : deep ≠ 0) (h1 : pureC c [.g a, dI (deep - 1)] M = .ok (vB p) M) (h2 : pureC c [.g b, dI (deep - 1)] M = .ok (vB q) M) :
    defF 2 2 (b_has_form c) [.g (.tuple [a, b]), dI deep] M = .ok (vB (if isNo a && !isNo b then false else p && q)) M := by
  refine def_rt rfl ?_
  refine (sq_nx (ρ' := [.g (.tuple [a, b]), dI deep]) (M' := M) rfl).trans ?_
  have T : (tor (tst (b2 (eqD false) (sl 1) (kk (.int 0)))) (tor (tnt (trV (isi "tuple" (sl 0)))) (tor (tst (b2 (eqD true) (cB lenD (ac (sl 0) ac0)) (kk (.int 2)))) (tand (tst (b1 (isN false) (b2 ixD (sl 0) (kk (.int 0))))) (tst (b1 (isN true) (b2 ixD (sl 0) (kk (.int 1))))))))) [.g (.tuple [a, b]), dI deep] M = .ok (isNo a && !isNo b) M :=
    (tor_f (tst_b (eq0 h0 M))).trans ((tor_f rfl).trans ((tor_f rfl).trans (tand_b (tst_b (isN_t a M)) (tst_b (isN_f b M)))))
  cases e : isNo a && !isNo b with
  | true => exact sq_rt ((ifs_t (by rw [T, e])).trans rfl)
  | false =>
    refine (sq_nx (ρ' := [.g (.tuple [a, b]), dI deep]) (M' := M) ((ifs_f (by rw [T, e])).trans rfl)).trans ?_
    exact sq_rt (ret_ok (andV_b h1 h2))
/-- what is no pair -/
theorem hf_no (c : List Dv → Co Dv) (x : PyData) (deep : Int) (M : Mem) (h0 : deep ≠ 0) (hn : isNo x = false) (h : ∀ a b, x ≠ .tuple [a, b]) : defF 2 2 (b_has_form c) [.g x, dI deep] M = .ok (vB false) M := by
  refine def_rt rfl ?_
  refine (sq_nx (ρ' := [.g x, dI deep]) (M' := M) ((ifs_f (tst_b ((isN_t x M).trans (by rw [hn])))).trans rfl)).trans ?_
  have T : (tor (tst (b2 (eqD false) (sl 1) (kk (.int 0)))) (tor (tnt (trV (isi "tuple" (sl 0)))) (tor (tst (b2 (eqD true) (cB lenD (ac (sl 0) ac0)) (kk (.int 2)))) (tand (tst (b1 (isN false) (b2 ixD (sl 0) (kk (.int 0))))) (tst (b1 (isN true) (b2 ixD (sl 0) (kk (.int 1))))))))) [.g x, dI deep] M = .ok true M := by
    refine (tor_f (tst_b (eq0 h0 M))).trans ?_
    cases x with
    | tuple xs => match xs, h with
      | [], _ => rfl
      | [_], _ => rfl
      | [a, b], h => exact absurd rfl (h a b)
      | a :: b :: d :: r, _ =>
        refine (tor_f rfl).trans ((bnd_ok (tst_b (p := true) ?_)).trans rfl)
        exact ne2 (by simp only [List.length_cons]; omega) M
    | none => cases hn
    | _ => rfl
  exact sq_rt ((ifs_t T).trans rfl)
theorem grd_map : ∀ xs : List PyData, grd (xs.map Dv.g) = some xs
  | [] => rfl
  | x :: xs => by
    show (grd (xs.map Dv.g)).map (x :: ·) = _
    rw [grd_map xs]
    rfl
theorem pure_ok {c : List Dv → Co Dv} {xs : List PyData} {y : PyData} (M : Mem) (h : c (xs.map Dv.g) [] = .ok (.g y) []) : pureC c (xs.map Dv.g) M = .ok (.g y) M := by
  unfold pureC
  have e := grd_map xs
  refine (bnd_ok (show ofO (grd (xs.map Dv.g)) M = .ok xs M by rw [e]; rfl)).trans ?_
  simp only [h]
theorem hf_go : ∀ (k : Nat) (x : PyData) (deep : Int) (M : Mem), mz x < k → (mz x : Int) < deep → F_has_form k [.g x, dI deep] M = .ok (vB (sh x)) M
  | 0, _, _, _, h, _ => absurd h (Nat.not_lt_zero _)
  | k + 1, x, deep, M, h, h2 => by
    show defF 2 2 (b_has_form (F_has_form k)) [.g x, dI deep] M = _
    match x, h, h2 with
    | .none, _, _ => rfl
    | .tuple [a, b], h, h2 =>
      have m1 : mz (.tuple [a, b]) = 1 + mz a + mz b := by simp [mz]
      have e : sh (.tuple [a, b]) = if isNo a && !isNo b then false else sh a && sh b := by simp [sh]
      rw [e]
      rw [m1] at h h2
      exact hf2 _ a b deep _ _ M (by omega) (pure_ok (xs := [a, .int (deep - 1)]) M (hf_go k a (deep - 1) [] (by omega) (by omega))) (pure_ok (xs := [b, .int (deep - 1)]) M (hf_go k b (deep - 1) [] (by omega) (by omega)))
    | .tuple [], _, h2 => exact hf_no _ _ deep M (by simp [mz] at h2; omega) rfl (fun _ _ => by simp)
    | .tuple [_], _, h2 => exact hf_no _ _ deep M (by simp [mz] at h2; omega) rfl (fun _ _ => by simp)
    | .tuple (_ :: _ :: _ :: _), _, h2 => exact hf_no _ _ deep M (by simp [mz] at h2; omega) rfl (fun _ _ => by simp)
    | .bool _, _, h2 => exact hf_no _ _ deep M (by simp [mz] at h2; omega) rfl (fun _ _ => by simp)
    | .int _, _, h2 => exact hf_no _ _ deep M (by simp [mz] at h2; omega) rfl (fun _ _ => by simp)
    | .str _, _, h2 => exact hf_no _ _ deep M (by simp [mz] at h2; omega) rfl (fun _ _ => by simp)
    | .list _, _, h2 => exact hf_no _ _ deep M (by simp [mz] at h2; omega) rfl (fun _ _ => by simp)
    | .dict _, _, h2 => exact hf_no _ _ deep M (by simp [mz] at h2; omega) rfl (fun _ _ => by simp)
/-- the law's own look at a shape -/
theorem is2 (c : List Dv → Co Dv) (a b : PyData) (p q : Bool) (M : Mem) (h1 : pureC c [.g a] M = .ok (vB p) M) (h2 : pureC c [.g b] M = .ok (vB q) M) :
    defF 1 1 (b_q_is_shape c) [.g (.tuple [a, b])] M = .ok (vB (if isNo a && !isNo b then false else p && q)) M := by
  refine def_rt rfl ?_
  refine (sq_nx (ρ' := [.g (.tuple [a, b])]) (M' := M) rfl).trans ?_
  have T : (tor (tnt (trV (isi "tuple" (sl 0)))) (tor (tst (b2 (eqD true) (cB lenD (ac (sl 0) ac0)) (kk (.int 2)))) (tand (tst (b1 (isN false) (b2 ixD (sl 0) (kk (.int 0))))) (tst (b1 (isN true) (b2 ixD (sl 0) (kk (.int 1)))))))) [.g (.tuple [a, b])] M = .ok (isNo a && !isNo b) M :=
    (tor_f rfl).trans ((tor_f rfl).trans (tand_b (tst_b (isN_t a M)) (tst_b (isN_f b M))))
  cases e : isNo a && !isNo b with
  | true => exact sq_rt ((ifs_t (by rw [T, e])).trans rfl)
  | false =>
    refine (sq_nx (ρ' := [.g (.tuple [a, b])]) (M' := M) ((ifs_f (by rw [T, e])).trans rfl)).trans ?_
    exact sq_rt (ret_ok (andV_b h1 h2))
theorem is_no (c : List Dv → Co Dv) (x : PyData) (M : Mem) (hn : isNo x = false) (h : ∀ a b, x ≠ .tuple [a, b]) : defF 1 1 (b_q_is_shape c) [.g x] M = .ok (vB false) M := by
  refine def_rt rfl ?_
  refine (sq_nx (ρ' := [.g x]) (M' := M) ((ifs_f (tst_b ((isN_t x M).trans (by rw [hn])))).trans rfl)).trans ?_
  have T : (tor (tnt (trV (isi "tuple" (sl 0)))) (tor (tst (b2 (eqD true) (cB lenD (ac (sl 0) ac0)) (kk (.int 2)))) (tand (tst (b1 (isN false) (b2 ixD (sl 0) (kk (.int 0))))) (tst (b1 (isN true) (b2 ixD (sl 0) (kk (.int 1)))))))) [.g x] M = .ok true M := by
    cases x with
    | tuple xs => match xs, h with
      | [], _ => rfl
      | [_], _ => rfl
      | [a, b], h => exact absurd rfl (h a b)
      | a :: b :: d :: r, _ =>
        refine (tor_f rfl).trans ((bnd_ok (tst_b (p := true) ?_)).trans rfl)
        exact ne2 (by simp only [List.length_cons]; omega) M
    | none => cases hn
    | _ => rfl
  exact sq_rt ((ifs_t T).trans rfl)
theorem is_go : ∀ (k : Nat) (x : PyData) (M : Mem), mz x < k → F_q_is_shape k [.g x] M = .ok (vB (sh x)) M
  | 0, _, _, h => absurd h (Nat.not_lt_zero _)
  | k + 1, x, M, h => by
    show defF 1 1 (b_q_is_shape (F_q_is_shape k)) [.g x] M = _
    match x, h with
    | .none, _ => rfl
    | .tuple [a, b], h =>
      have m1 : mz (.tuple [a, b]) = 1 + mz a + mz b := by simp [mz]
      have e : sh (.tuple [a, b]) = if isNo a && !isNo b then false else sh a && sh b := by simp [sh]
      rw [e]
      rw [m1] at h
      exact is2 _ a b _ _ M (pure_ok (xs := [a]) M (is_go k a [] (by omega))) (pure_ok (xs := [b]) M (is_go k b [] (by omega)))
    | .tuple [], _ => exact is_no _ _ M rfl (fun _ _ => by simp)
    | .tuple [_], _ => exact is_no _ _ M rfl (fun _ _ => by simp)
    | .tuple (_ :: _ :: _ :: _), _ => exact is_no _ _ M rfl (fun _ _ => by simp)
    | .bool _, _ => exact is_no _ _ M rfl (fun _ _ => by simp)
    | .int _, _ => exact is_no _ _ M rfl (fun _ _ => by simp)
    | .str _, _ => exact is_no _ _ M rfl (fun _ _ => by simp)
    | .list _, _ => exact is_no _ _ M rfl (fun _ _ => by simp)
    | .dict _, _ => exact is_no _ _ M rfl (fun _ _ => by simp)
theorem iff_t {t : Slots → Co Bool} {f g : Slots → Co Dv} {ρ : Slots} {M : Mem} (h : t ρ M = .ok true M) : iff t f g ρ M = f ρ M := bnd_ok h
theorem iff_f {t : Slots → Co Bool} {f g : Slots → Co Dv} {ρ : Slots} {M : Mem} (h : t ρ M = .ok false M) : iff t f g ρ M = g ρ M := bnd_ok h
theorem b2_ok {F : Dv → Dv → Co Dv} {f g : Slots → Co Dv} {ρ : Slots} {M : Mem} {x y : Dv} (h : f ρ M = .ok x M) (h2 : g ρ M = .ok y M) : b2 F f g ρ M = F x y M := (bnd_ok h).trans (bnd_ok h2)
theorem mo2 (c : List Dv → Co Dv) (a b : PyData) (i j : Int) (M : Mem) (h1 : pureC c [.g a] M = .ok (dI i) M) (h2 : pureC c [.g b] M = .ok (dI j) M) : defF 1 1 (b_many_of c) [.g (.tuple [a, b])] M = .ok (dI (1 + i + j)) M := by
  have q1 : (cB (pureC c) (ac (b2 ixD (sl 0) (kk (.int 0))) ac0)) [.g (.tuple [a, b])] M = .ok (dI i) M := h1
  have q2 : (cB (pureC c) (ac (b2 ixD (sl 0) (kk (.int 1))) ac0)) [.g (.tuple [a, b])] M = .ok (dI j) M := h2
  have q3 : (b2 addD (kk (.int 1)) (cB (pureC c) (ac (b2 ixD (sl 0) (kk (.int 0))) ac0))) [.g (.tuple [a, b])] M = .ok (dI (1 + i)) M := (b2_ok (x := dI 1) rfl q1).trans rfl
  have q4 : (b2 addD (b2 addD (kk (.int 1)) (cB (pureC c) (ac (b2 ixD (sl 0) (kk (.int 0))) ac0))) (cB (pureC c) (ac (b2 ixD (sl 0) (kk (.int 1))) ac0))) [.g (.tuple [a, b])] M = .ok (dI (1 + i + j)) M := (b2_ok q3 q2).trans rfl
  exact def_rt rfl (sq_rt (ret_ok ((iff_f rfl).trans q4)))
theorem mo_go : ∀ (k : Nat) (x : PyData) (M : Mem), mz x < k → sh x = true → F_many_of k [.g x] M = .ok (dI (mz x)) M
  | 0, _, _, h, _ => absurd h (Nat.not_lt_zero _)
  | k + 1, x, M, h, hs => by
    show defF 1 1 (b_many_of (F_many_of k)) [.g x] M = _
    match x, h, hs with
    | .none, _, _ => rfl
    | .tuple [a, b], h, hs =>
      have m1 : mz (.tuple [a, b]) = 1 + mz a + mz b := by simp [mz]
      have e : sh (.tuple [a, b]) = if isNo a && !isNo b then false else sh a && sh b := by simp [sh]
      rw [e] at hs
      have hs2 : sh a = true ∧ sh b = true := by
        cases z : isNo a && !isNo b with
        | true =>
          rw [z] at hs
          cases hs
        | false =>
          rw [z] at hs
          exact Bool.and_eq_true_iff.mp hs
      rw [m1] at h
      have r := mo2 (F_many_of k) a b (mz a) (mz b) M (pure_ok (xs := [a]) M (mo_go k a [] (by omega) hs2.1)) (pure_ok (xs := [b]) M (mo_go k b [] (by omega) hs2.2))
      rw [r, m1]
      congr 2
    | .tuple [], _, hs => simp [sh] at hs
    | .tuple [_], _, hs => simp [sh] at hs
    | .tuple (_ :: _ :: _ :: _), _, hs => simp [sh] at hs
    | .bool _, _, hs => simp [sh] at hs
    | .int _, _, hs => simp [sh] at hs
    | .str _, _, hs => simp [sh] at hs
    | .list _, _, hs => simp [sh] at hs
    | .dict _, _, hs => simp [sh] at hs
theorem it_go (k : Nat) (x : PyData) (M : Mem) (h : mz x < k) (h2 : mz x < 200) : F_is_turned_shape (k + 1) [.g x] M = .ok (vB (sh x)) M := by
  show defF 1 1 (b_is_turned_shape (F_many_of k) (F_has_form k)) [.g x] M = _
  refine def_rt rfl (sq_rt (ret_ok ?_))
  have p1 : (cB (pureC (F_has_form k)) (ac (sl 0) (ac (kk (.int 200)) ac0))) [.g x] M = .ok (vB (sh x)) M := pure_ok (xs := [x, .int 200]) M (hf_go k x 200 [] h (by omega))
  cases e : sh x with
  | false =>
    rw [e] at p1
    exact (bnd_ok (tst_b p1)).trans rfl
  | true =>
    rw [e] at p1
    refine (bnd_ok (tst_b p1)).trans ?_
    have p2 : (cB (pureC (F_many_of k)) (ac (sl 0) ac0)) [.g x] M = .ok (dI (mz x)) M := pure_ok (xs := [x]) M (mo_go k x [] h e)
    refine (b2_ok (x := dI (mz x)) (y := dI 200) p2 rfl).trans ?_
    show rt (vB (decide ((mz x : Int) ≤ 200))) M = _
    rw [decide_eq_true (by omega)]
    rfl
end K04
set_option linter.all false
set_option maxRecDepth 100000
namespace Xt
open PySem
/-- the law's row of draws -/
def RW (ns : List Int) (a b c : Int) : MO := .lst [.g (.list (ns.map .int)), dI a, dI b, dI c]
theorem small_of {i : Int} (h : i.natAbs ≤ 2147483647) : small i = true := by
  unfold small
  refine Nat.ble_eq_true_of_le ?_
  have : (2147483647 : Nat) < 2 ^ 4096 := by decide +kernel
  omega
end Xt
namespace K04
open Xt PySem
theorem tk (ns : List Int) (a b c many : Int) (rest : Mem) (hm : 0 < many) (hm2 : many ≤ 1000) (ha : 0 ≤ a) (hb : 0 ≤ b) (hb2 : b < 2147483647) :
    ∃ d a' b' c', 0 ≤ d ∧ d < many ∧ 0 ≤ a' ∧ 0 ≤ b' ∧ b' < 2147483647 ∧ defF 4 2 b_q_taken [.r 0, dI many] (RW ns a b c :: rest) = .ok (dI d) (RW ns a' b' c' :: rest) := by
  have m1 : ∀ x, divOk x many = true := fun x => by
    unfold divOk
    rw [decide_eq_true hm, small_of (by omega)]
    rfl
  have m2 : mulOk b 48271 = true := by
    unfold mulOk
    rw [small_of (by omega), small_of (by decide)]
    rfl
  have m7 : ∀ x, divOk x 7 = true := fun x => by
    unfold divOk
    rw [small_of (by decide)]
    rfl
  have mp : powOk 10 18 = true := by decide +kernel
  have mD : ∀ (x : Int) (e : Dv), mulD (.g (.int x)) e = i2c mulOk (fun i j => dI (i * j)) (.g (.int x)) e := fun _ _ => rfl
  by_cases hc : 0 < c
  · refine ⟨c % many, a, b, c / many, Int.emod_nonneg _ (by omega), Int.emod_lt_of_pos _ hm, ha, hb, hb2, ?_⟩
    simp [b_q_taken, defF, chk, RW, sq, ifs, tst, b2, bnd, sl, kk, rt, ixD, atM, ofO, asI, L2.atI, L2.ixN, i2, i2c, tB, vB, dI, asg, tN, tSub, stD, putM, Xt.ret, b1, frZ, cB, ac, ac0, un1, m1, skp, intD, hc, hm]
  · by_cases hl : a + 1 > (ns.length : Int)
    · refine ⟨((b * 48271 + 11) % 2147483647 / 7) % many, a + 1, (b * 48271 + 11) % 2147483647, c, Int.emod_nonneg _ (by omega), Int.emod_lt_of_pos _ hm, by omega, by omega, by omega, ?_⟩
      have hl' : (ns.length : Int) < a + 1 := hl
      simp [b_q_taken, defF, chk, RW, sq, ifs, tst, b2, bnd, sl, kk, rt, ixD, atM, ofO, asI, L2.atI, L2.ixN, i2, i2c, tB, vB, dI, asg, tN, tSub, stD, putM, Xt.ret, b1, frZ, cB, ac, ac0, un1, m1, m2, m7, mD, skp, intD, hc, hm, lenD, hl', addD]
    · have hj : a.toNat < ns.length := by omega
      have e1 : (ns.map PyData.int)[a.toNat]? = some (.int ns[a.toNat]) := by rw [List.getElem?_map, List.getElem?_eq_getElem hj]; rfl
      have hl' : ¬ ((ns.length : Int) < a + 1) := hl
      have ha2 : a < (ns.length : Int) := by omega
      have e3 : a + 1 - 1 = a := by omega
      by_cases hg : 10 ^ 18 ≤ ns[a.toNat]
      · refine ⟨ns[a.toNat] % many, a + 1, (b * 48271 + ns[a.toNat] + 11) % 2147483647, ns[a.toNat] / many, Int.emod_nonneg _ (by omega), Int.emod_lt_of_pos _ hm, by omega, by omega, by omega, ?_⟩
        have hg' : (1000000000000000000 : Int) ≤ ns[a.toNat] := hg
        simp [b_q_taken, defF, chk, RW, sq, ifs, tst, b2, bnd, sl, kk, rt, ixD, atM, ofO, asI, L2.atI, L2.ixN, i2, i2c, tB, vB, dI, asg, tN, tSub, stD, putM, Xt.ret, b1, frZ, cB, ac, ac0, un1, m1, m2, m7, mD, mp, skp, intD, hc, hm, lenD, hl', addD, e1, e3, ha, ha2, hg', hj]
      · refine ⟨ns[a.toNat] % many, a + 1, (b * 48271 + ns[a.toNat] + 11) % 2147483647, c, Int.emod_nonneg _ (by omega), Int.emod_lt_of_pos _ hm, by omega, by omega, by omega, ?_⟩
        have hg' : ¬ (1000000000000000000 : Int) ≤ ns[a.toNat] := hg
        simp [b_q_taken, defF, chk, RW, sq, ifs, tst, b2, bnd, sl, kk, rt, ixD, atM, ofO, asI, L2.atI, L2.ixN, i2, i2c, tB, vB, dI, asg, tN, tSub, stD, putM, Xt.ret, b1, frZ, cB, ac, ac0, un1, m1, m2, m7, mD, mp, skp, intD, hc, hm, lenD, hl', addD, e1, e3, ha, ha2, hg', hj]
end K04
set_option Elab.async false
set_option linter.all false
set_option maxRecDepth 1000000
set_option maxHeartbeats 0
namespace K04
open Xt PySem
theorem trim_ok {F : List Dv → Co Dv} {ds : List Dv} {M M' : Mem} {x : PyData} (h : F ds M = .ok (.g x) M') (hl : M'.length = M.length) (hg : M'.all grdO = true) : trimC F ds M = .ok (.g x) M' := by
  unfold trimC
  rw [h]
  have e : M'.take M.length = M' := by rw [← hl]; exact List.take_length
  simp only [e, hg]
/-- a draw -/
theorem tkT (n : Nat) (ns : List Int) (a b c many : Int) (rest : Mem) (hr : rest.all grdO = true) (hm : 0 < many) (hm2 : many ≤ 1000) (ha : 0 ≤ a) (hb : 0 ≤ b) (hb2 : b < 2147483647) :
    ∃ d a' b' c', 0 ≤ d ∧ d < many ∧ 0 ≤ a' ∧ 0 ≤ b' ∧ b' < 2147483647 ∧ trimC (F_q_taken (n + 1)) [.r 0, dI many] (RW ns a b c :: rest) = .ok (dI d) (RW ns a' b' c' :: rest) := by
  obtain ⟨d, a', b', c', h3, h4, h5, h6, h7, e⟩ := tk ns a b c many rest hm hm2 ha hb hb2
  exact ⟨d, a', b', c', h3, h4, h5, h6, h7, trim_ok (F := F_q_taken (n + 1)) e rfl (by
    rw [List.all_cons, hr]
    rfl)⟩
theorem bnd_ok2 {α β : Type} {c : Co α} {k : α → Co β} {M M' : Mem} {x : α} (h : c M = .ok x M') : bnd c k M = k x M' := by
  unfold bnd
  rw [h]
theorem ix_at (xs : List PyData) (d : Nat) (M : Mem) (h : d < xs.length) : ixD (.g (.list xs)) (dI (d : Int)) M = .ok (.g xs[d]) M := by
  have e1 : L2.atI xs (d : Int) = some xs[d] := by
    unfold L2.atI L2.ixN
    rw [if_pos (by omega), if_pos (by omega)]
    show xs[(d : Int).toNat]? = _
    rw [Int.toNat_natCast, List.getElem?_eq_getElem h]
  show bnd (ofO (L2.atI xs (d : Int))) (fun x => rt (Dv.g x)) M = _
  rw [e1]
  rfl
theorem pk (n : Nat) (ns : List Int) (a b c : Int) (xs : List PyData) (rest : Mem) (hr : rest.all grdO = true) (hm : 0 < xs.length) (hm2 : xs.length ≤ 1000) (ha : 0 ≤ a) (hb : 0 ≤ b) (hb2 : b < 2147483647) :
    ∃ x a' b' c', x ∈ xs ∧ 0 ≤ a' ∧ 0 ≤ b' ∧ b' < 2147483647 ∧ trimC (F_q_pick (n + 2)) [.r 0, .g (.list xs)] (RW ns a b c :: rest) = .ok (.g x) (RW ns a' b' c' :: rest) := by
  obtain ⟨d, a', b', c', h3, h4, h5, h6, h7, e⟩ := tkT n ns a b c xs.length rest hr (by omega) (by omega) ha hb hb2
  obtain ⟨k, rfl⟩ := Int.eq_ofNat_of_zero_le h3
  have hk : k < xs.length := by omega
  refine ⟨xs[k], a', b', c', List.getElem_mem hk, h5, h6, h7, trim_ok ?_ rfl (by
    rw [List.all_cons, hr]
    rfl)⟩
  show defF 2 2 (b_q_pick (F_q_taken (n + 1))) _ _ = _
  refine def_rt rfl (sq_rt ?_)
  have e2 : (cB (trimC (F_q_taken (n + 1))) (ac (sl 0) (ac (cB lenD (ac (sl 1) ac0)) ac0))) [.r 0, .g (.list xs)] (RW ns a b c :: rest) = .ok (dI (k : Int)) (RW ns a' b' c' :: rest) := e
  refine (bnd_ok2 ((bnd_ok2 (x := Dv.g (.list xs)) (M' := RW ns a b c :: rest) rfl).trans ((bnd_ok2 e2).trans (ix_at xs k _ hk)))).trans rfl
end K04
set_option Elab.async false
set_option linter.all false
set_option maxRecDepth 1000000
set_option maxHeartbeats 0
namespace K04
open Xt PySem
/-- pairs all the way down -/
def full : PyData → Bool
  | .none => true
  | .tuple [a, b] => full a && full b
  | _ => false
def things : List PyData := [.none, .int 0, .bool true, .tuple [], .tuple [.none, .none], .tuple [.none, .tuple [.none, .none]], .tuple [.tuple [.none, .none], .none], .tuple [.none], .list [.none, .none], .str "a"]
theorem things_mz : ∀ x ∈ things, mz x ≤ 2 := by
  have h : things.all (fun x => Nat.ble (mz x) 2) = true := by decide +kernel
  exact fun x hx => Nat.le_of_ble_eq_true (List.all_eq_true.mp h x hx)
theorem full_lay : ∀ s : PyData, full s = true → s.canLay0 = true
  | .none, _ => rfl
  | .tuple [a, b], h => by
    have h2 : full a = true ∧ full b = true := by simpa [full] using h
    simp [PyData.canLay0, PyData.canLayAll0, full_lay a h2.1, full_lay b h2.2]
  | .tuple [], h => by simp [full] at h
  | .tuple [_], h => by simp [full] at h
  | .tuple (_ :: _ :: _ :: _), h => by simp [full] at h
  | .bool _, h => by simp [full] at h
  | .int _, h => by simp [full] at h
  | .str _, h => by simp [full] at h
  | .list _, h => by simp [full] at h
  | .dict _, h => by simp [full] at h
theorem ret_ok2 {f : Slots → Co Dv} {ρ : Slots} {M M' : Mem} {d : Dv} (h : f ρ M = .ok d M') : Xt.ret f ρ M = .ok (.rt d) M' := (bnd_ok2 h).trans rfl
theorem b2_ok3 {F : Dv → Dv → Co Dv} {f g : Slots → Co Dv} {ρ : Slots} {M M1 M2 : Mem} {x y : Dv} (h : f ρ M = .ok x M1) (h2 : g ρ M1 = .ok y M2) : b2 F f g ρ M = F x y M2 := (bnd_ok2 h).trans (bnd_ok2 h2)
theorem tst_b2 {f : Slots → Co Dv} {ρ : Slots} {M M' : Mem} {p : Bool} (h : f ρ M = .ok (vB p) M') : tst f ρ M = .ok p M' := (bnd_ok2 h).trans rfl
theorem eq_e {a b : PyData} (ha : full a = true) (hb : full b = true) (M : Mem) : eqD false (.g (.tuple [a, b])) (.g (.tuple [])) M = .ok (vB false) M := by
  have l : PyData.canLay0 (.tuple [a, b]) = true := full_lay _ (by simp [full, ha, hb])
  have e : PyData.eqv (.tuple [a, b]) (.tuple []) = false := by simp [PyData.eqv, PyData.eqvAll]
  have o : eqOk (.tuple [a, b]) (.tuple []) = true := by
    unfold eqOk
    rw [l]
    refine Nat.ble_eq_true_of_le ?_
    refine Nat.le_trans (Nat.min_le_right _ _) ?_
    simp [PyData.depth, PyData.depthAll]
  show chk (eqOk (.tuple [a, b]) (.tuple [])) (rt (vB (PyData.eqv (.tuple [a, b]) (.tuple [])))) M = _
  rw [o, e]
  rfl
/-- a row of draws is had again -/
def Row (ns : List Int) (m : MO) : Prop := ∃ a b c : Int, 0 ≤ a ∧ 0 ≤ b ∧ b < 2147483647 ∧ m = RW ns a b c
theorem tkR (n : Nat) {ns : List Int} {m : MO} (many : Int) (rest : Mem) (hr : rest.all grdO = true) (hm : 0 < many) (hm2 : many ≤ 1000) (h : Row ns m) :
    ∃ d m', 0 ≤ d ∧ d < many ∧ Row ns m' ∧ trimC (F_q_taken (n + 1)) [.r 0, dI many] (m :: rest) = .ok (dI d) (m' :: rest) := by
  obtain ⟨a, b, c, h1, h2, h3, rfl⟩ := h
  obtain ⟨d, a', b', c', h4, h5, h6, h7, h8, e⟩ := tkT n ns a b c many rest hr hm hm2 h1 h2 h3
  exact ⟨d, _, h4, h5, ⟨a', b', c', h6, h7, h8, rfl⟩, e⟩
theorem pkR (n : Nat) {ns : List Int} {m : MO} (xs : List PyData) (rest : Mem) (hr : rest.all grdO = true) (hm : 0 < xs.length) (hm2 : xs.length ≤ 1000) (h : Row ns m) :
    ∃ x m', x ∈ xs ∧ Row ns m' ∧ trimC (F_q_pick (n + 2)) [.r 0, .g (.list xs)] (m :: rest) = .ok (.g x) (m' :: rest) := by
  obtain ⟨a, b, c, h1, h2, h3, rfl⟩ := h
  obtain ⟨x, a', b', c', h4, h6, h7, h8, e⟩ := pk n ns a b c xs rest hr hm hm2 h1 h2 h3
  exact ⟨x, _, h4, ⟨a', b', c', h6, h7, h8, rfl⟩, e⟩
theorem row_g {ns : List Int} {m : MO} {rest : Mem} (h : Row ns m) (hr : rest.all grdO = true) : (m :: rest).all grdO = true := by
  obtain ⟨a, b, c, _, _, _, rfl⟩ := h
  rw [List.all_cons, hr]
  rfl
theorem bn_go : ∀ (k : Nat) (s : PyData) (ns : List Int) (m : MO) (rest : Mem), full s = true → mz s < k → Row ns m → rest.all grdO = true →
    ∃ x m', mz x ≤ mz s + 2 ∧ Row ns m' ∧ trimC (F_q_bent (k + 2)) [.r 0, .g s] (m :: rest) = .ok (.g x) (m' :: rest)
  | 0, _, _, _, _, _, h, _, _ => absurd h (Nat.not_lt_zero _)
  | k + 1, s, ns, m, rest, hf, h, hm, hr => by
    have go : ∃ x m', mz x ≤ mz s + 2 ∧ Row ns m' ∧ defF 3 2 (b_q_bent (F_q_bent (k + 2)) (F_q_taken (k + 2)) (F_q_pick (k + 2))) [.r 0, .g s] (m :: rest) = .ok (.g x) (m' :: rest) := by
      have pick : ∀ m1, Row ns m1 → ∃ x m', mz x ≤ 2 ∧ Row ns m' ∧ (cB (trimC (F_q_pick (k + 2))) (ac (sl 0) (ac (lstG (ac (kk .none) (ac (kk (.int 0)) (ac (kk (.bool true)) (ac (tup ac0) (ac (tup (ac (kk .none) (ac (kk .none) ac0))) (ac (tup (ac (kk .none) (ac (tup (ac (kk .none) (ac (kk .none) ac0))) ac0))) (ac (tup (ac (tup (ac (kk .none) (ac (kk .none) ac0))) (ac (kk .none) ac0))) (ac (tup (ac (kk .none) ac0)) (ac (lstG (ac (kk .none) (ac (kk .none) ac0))) (ac (kk (.str "a")) ac0))))))))))) ac0))) [.r 0, .g s, .u] (m1 :: rest) = .ok (.g x) (m' :: rest) := fun m1 h1 => by
        obtain ⟨x, m', hx, r', e⟩ := pkR k things rest hr (by decide) (by decide) h1
        exact ⟨x, m', things_mz x hx, r', (bnd_ok2 (x := [Dv.r 0, .g (.list things)]) (M' := m1 :: rest) rfl).trans e⟩
      match s, hf, h with
      | .none, _, _ =>
        obtain ⟨x, m', hx, r', e⟩ := pick m hm
        refine ⟨x, m', by omega, r', def_rt rfl (sq_rt ((bnd_ok2 (x := true) (M' := m :: rest) ?_).trans (sq_rt (ret_ok2 e))))⟩
        exact (bnd_ok2 (x := true) (M' := m :: rest) rfl).trans rfl
      | .tuple [a, b], hf, h =>
        have hab : full a = true ∧ full b = true := by simpa [full] using hf
        have mab : mz (.tuple [a, b]) = 1 + mz a + mz b := by simp [mz]
        obtain ⟨d, m1, d0, d3, r1, e1⟩ := tkR (k + 1) 3 rest hr (by decide) (by decide) hm
        have q1 : (cB (trimC (F_q_taken (k + 2))) (ac (sl 0) (ac (kk (.int 3)) ac0))) [.r 0, .g (.tuple [a, b]), .u] (m :: rest) = .ok (dI d) (m1 :: rest) := e1
        by_cases hd : d = 0
        · subst hd
          obtain ⟨x, m', hx, r', e⟩ := pick m1 r1
          refine ⟨x, m', by omega, r', def_rt rfl (sq_rt ((bnd_ok2 (x := true) (M' := m1 :: rest) ?_).trans (sq_rt (ret_ok2 e))))⟩
          refine (bnd_ok2 (x := false) (M' := m :: rest) rfl).trans ?_
          refine (bnd_ok2 (x := false) (M' := m :: rest) (tst_b (eq_e hab.1 hab.2 _))).trans ?_
          exact tst_b2 ((b2_ok3 q1 rfl).trans rfl)
        · obtain ⟨at_, m2, a0, a2, r2, e2⟩ := tkR (k + 1) 2 rest hr (by decide) (by decide) r1
          have q2 : (cB (trimC (F_q_taken (k + 2))) (ac (sl 0) (ac (cB lenD (ac (sl 1) ac0)) ac0))) [.r 0, .g (.tuple [a, b]), .u] (m1 :: rest) = .ok (dI at_) (m2 :: rest) := e2
          rcases (by omega : at_ = 0 ∨ at_ = 1) with h0 | h0 <;> subst h0
          · skip
            obtain ⟨y, m3, hy, r3, e3⟩ := bn_go k a ns m2 rest hab.1 (by omega) r2 hr
            have mx : mz (.tuple [y, b]) = 1 + mz y + mz b := by simp [mz]
            have q3 : (cB (trimC (F_q_bent (k + 2))) (ac (sl 0) (ac (b2 ixD (sl 1) (sl 2)) ac0))) [.r 0, .g (.tuple [a, b]), dI 0] (m2 :: rest) = .ok (.g y) (m3 :: rest) := e3
            have q4 : ac (cB (trimC (F_q_bent (k + 2))) (ac (sl 0) (ac (b2 ixD (sl 1) (sl 2)) ac0))) ac0 [.r 0, .g (.tuple [a, b]), dI 0] (m2 :: rest) = .ok [.g y] (m3 :: rest) := (bnd_ok2 q3).trans rfl
            have q5 : tup (ac (cB (trimC (F_q_bent (k + 2))) (ac (sl 0) (ac (b2 ixD (sl 1) (sl 2)) ac0))) ac0) [.r 0, .g (.tuple [a, b]), dI 0] (m2 :: rest) = .ok (.g (.tuple [y])) (m3 :: rest) := (bnd_ok2 q4).trans rfl
            refine ⟨.tuple [y, b], m3, by omega, r3, def_rt rfl ((sq_nx (ρ' := [.r 0, .g (.tuple [a, b]), .u]) (M' := m1 :: rest) ((bnd_ok2 (x := false) (M' := m1 :: rest) ?_).trans rfl)).trans ((sq_nx (ρ' := [.r 0, .g (.tuple [a, b]), dI 0]) (M' := m2 :: rest) ((bnd_ok2 q2).trans rfl)).trans (sq_rt (ret_ok2 ((b2_ok3 ((b2_ok3 (x := .g (.tuple [])) (M1 := m2 :: rest) rfl q5).trans rfl) (y := .g (.tuple [b])) (M2 := m3 :: rest) rfl).trans rfl)))))⟩
            refine (bnd_ok2 (x := false) (M' := m :: rest) rfl).trans ?_
            refine (bnd_ok2 (x := false) (M' := m :: rest) (tst_b (eq_e hab.1 hab.2 _))).trans ?_
            exact tst_b2 ((b2_ok3 q1 rfl).trans (eq0 hd _))
          · skip
            obtain ⟨y, m3, hy, r3, e3⟩ := bn_go k b ns m2 rest hab.2 (by omega) r2 hr
            have mx : mz (.tuple [a, y]) = 1 + mz a + mz y := by simp [mz]
            have q3 : (cB (trimC (F_q_bent (k + 2))) (ac (sl 0) (ac (b2 ixD (sl 1) (sl 2)) ac0))) [.r 0, .g (.tuple [a, b]), dI 1] (m2 :: rest) = .ok (.g y) (m3 :: rest) := e3
            have q4 : ac (cB (trimC (F_q_bent (k + 2))) (ac (sl 0) (ac (b2 ixD (sl 1) (sl 2)) ac0))) ac0 [.r 0, .g (.tuple [a, b]), dI 1] (m2 :: rest) = .ok [.g y] (m3 :: rest) := (bnd_ok2 q3).trans rfl
            have q5 : tup (ac (cB (trimC (F_q_bent (k + 2))) (ac (sl 0) (ac (b2 ixD (sl 1) (sl 2)) ac0))) ac0) [.r 0, .g (.tuple [a, b]), dI 1] (m2 :: rest) = .ok (.g (.tuple [y])) (m3 :: rest) := (bnd_ok2 q4).trans rfl
            refine ⟨.tuple [a, y], m3, by omega, r3, def_rt rfl ((sq_nx (ρ' := [.r 0, .g (.tuple [a, b]), .u]) (M' := m1 :: rest) ((bnd_ok2 (x := false) (M' := m1 :: rest) ?_).trans rfl)).trans ((sq_nx (ρ' := [.r 0, .g (.tuple [a, b]), dI 1]) (M' := m2 :: rest) ((bnd_ok2 q2).trans rfl)).trans (sq_rt (ret_ok2 ((b2_ok3 ((b2_ok3 (x := .g (.tuple [a])) (M1 := m2 :: rest) rfl q5).trans rfl) (y := .g (.tuple [])) (M2 := m3 :: rest) rfl).trans rfl)))))⟩
            refine (bnd_ok2 (x := false) (M' := m :: rest) rfl).trans ?_
            refine (bnd_ok2 (x := false) (M' := m :: rest) (tst_b (eq_e hab.1 hab.2 _))).trans ?_
            exact tst_b2 ((b2_ok3 q1 rfl).trans (eq0 hd _))
      | .tuple [], hf, _ => simp [full] at hf
      | .tuple [_], hf, _ => simp [full] at hf
      | .tuple (_ :: _ :: _ :: _), hf, _ => simp [full] at hf
      | .bool _, hf, _ => simp [full] at hf
      | .int _, hf, _ => simp [full] at hf
      | .str _, hf, _ => simp [full] at hf
      | .list _, hf, _ => simp [full] at hf
      | .dict _, hf, _ => simp [full] at hf
    obtain ⟨x, m', hx, r', e⟩ := go
    exact ⟨x, m', hx, r', trim_ok (F := F_q_bent (k + 1 + 2)) e rfl (row_g r' hr)⟩
end K04
set_option Elab.async false
set_option linter.all false
set_option maxRecDepth 1000000
set_option maxHeartbeats 0
namespace K04
open Xt PySem
theorem ac_ok {f : Slots → Co Dv} {g : Slots → Co (List Dv)} {ρ : Slots} {M M1 M2 : Mem} {x : Dv} {xs : List Dv} (h : f ρ M = .ok x M1) (h2 : g ρ M1 = .ok xs M2) : ac f g ρ M = .ok (x :: xs) M2 := (bnd_ok2 h).trans ((bnd_ok2 h2).trans rfl)
theorem trV_b {f : Slots → Co Dv} {ρ : Slots} {M M' : Mem} {p : Bool} (h : f ρ M = .ok (vB p) M') : trV f ρ M = .ok p M' := (bnd_ok2 h).trans (by cases p <;> rfl)
theorem tnt_b {f : Slots → Co Bool} {ρ : Slots} {M M' : Mem} {p : Bool} (h : f ρ M = .ok p M') : tnt f ρ M = .ok (!p) M' := (bnd_ok2 h).trans rfl
theorem alike_b (b : Bool) : F_q_alike 40 [vB b, vB b] [] = .ok (vB true) [] := by
  cases b
  · kernel_rfl
  · kernel_rfl
def in8 (script x2 x3 x5 x6 x7 x8 x9 x10 x11 x12 x13 x14 x15 : Dv) (s : PyData) : Slots := [script, .r 0, x2, x3, .g s, x5, x6, x7, x8, x9, x10, x11, x12, x13, x14, x15]
def bd8 : Slots → Co Fl := (sq (asg (cB (trimC (F_q_bent 40)) (ac (sl 1) (ac (sl 4) ac0))) (tN 6))
    (sq (ifs (tnt (trV (cB (pureC (F_q_alike 40)) (ac (cB (pureC (F_is_turned_shape 40)) (ac (sl 6) ac0)) (ac (cB (pureC (F_q_is_shape 40)) (ac (sl 6) ac0)) ac0))))) (sq (ret (kk (.bool false)))
    skp) skp)
    skp))
theorem lw8_eq : lw8 40 = forX (srcR1 (ac (kk (.int 6)) ac0)) (tN 5) bd8 := rfl
theorem turn8 {ns : List Int} {m : MO} (script x2 x3 x5 x6 x7 x8 x9 x10 x11 x12 x13 x14 x15 : Dv) (s : PyData) (hf : full s = true) (hz : mz s < 20) (hm : Row ns m) :
    ∃ y m', Row ns m' ∧ bd8 (in8 script x2 x3 x5 x6 x7 x8 x9 x10 x11 x12 x13 x14 x15 s) [m] = .ok (.nx (in8 script x2 x3 x5 y x7 x8 x9 x10 x11 x12 x13 x14 x15 s)) [m'] := by
  obtain ⟨y, m', hy, r', e⟩ := bn_go 38 s ns m [] hf (by omega) hm rfl
  refine ⟨.g y, m', r', ?_⟩
  have q1 : (cB (trimC (F_q_bent 40)) (ac (sl 1) (ac (sl 4) ac0))) (in8 script x2 x3 x5 x6 x7 x8 x9 x10 x11 x12 x13 x14 x15 s) [m] = .ok (.g y) [m'] := e
  refine (sq_nx (ρ' := in8 script x2 x3 x5 (.g y) x7 x8 x9 x10 x11 x12 x13 x14 x15 s) (M' := [m']) ((bnd_ok2 q1).trans rfl)).trans ?_
  have q2 : (cB (pureC (F_is_turned_shape 40)) (ac (sl 6) ac0)) (in8 script x2 x3 x5 (.g y) x7 x8 x9 x10 x11 x12 x13 x14 x15 s) [m'] = .ok (vB (sh y)) [m'] := pure_ok (xs := [y]) [m'] (it_go 39 y [] (by omega) (by omega))
  have q3 : (cB (pureC (F_q_is_shape 40)) (ac (sl 6) ac0)) (in8 script x2 x3 x5 (.g y) x7 x8 x9 x10 x11 x12 x13 x14 x15 s) [m'] = .ok (vB (sh y)) [m'] := pure_ok (xs := [y]) [m'] (is_go 40 y [] (by omega))
  have q4 : (ac (cB (pureC (F_is_turned_shape 40)) (ac (sl 6) ac0)) (ac (cB (pureC (F_q_is_shape 40)) (ac (sl 6) ac0)) ac0)) (in8 script x2 x3 x5 (.g y) x7 x8 x9 x10 x11 x12 x13 x14 x15 s) [m'] = .ok [vB (sh y), vB (sh y)] [m'] := ac_ok q2 (ac_ok q3 rfl)
  have q5 : (cB (pureC (F_q_alike 40)) (ac (cB (pureC (F_is_turned_shape 40)) (ac (sl 6) ac0)) (ac (cB (pureC (F_q_is_shape 40)) (ac (sl 6) ac0)) ac0))) (in8 script x2 x3 x5 (.g y) x7 x8 x9 x10 x11 x12 x13 x14 x15 s) [m'] = .ok (vB true) [m'] := (bnd_ok2 q4).trans (pure_ok (xs := [.bool (sh y), .bool (sh y)]) [m'] (alike_b (sh y)))
  exact (sq_nx (ρ' := in8 script x2 x3 x5 (.g y) x7 x8 x9 x10 x11 x12 x13 x14 x15 s) (M' := [m']) ((ifs_f (tnt_b (trV_b q5))).trans rfl)).trans rfl
theorem loop8 {ns : List Int} (script x2 x3 x7 x8 x9 x10 x11 x12 x13 x14 x15 : Dv) (s : PyData) (hf : full s = true) (hz : mz s < 20) : ∀ (l : List Dv) (x5 x6 : Dv) (m : MO), Row ns m →
    ∃ y5 y6 m', Row ns m' ∧ forL (tN 5) bd8 l (in8 script x2 x3 x5 x6 x7 x8 x9 x10 x11 x12 x13 x14 x15 s) [m] = .ok (.nx (in8 script x2 x3 y5 y6 x7 x8 x9 x10 x11 x12 x13 x14 x15 s)) [m']
  | [], x5, x6, m, hm => ⟨x5, x6, m, hm, rfl⟩
  | d :: l, x5, x6, m, hm => by
    obtain ⟨y, m1, r1, e1⟩ := turn8 script x2 x3 d x6 x7 x8 x9 x10 x11 x12 x13 x14 x15 s hf hz hm
    obtain ⟨y5, y6, m2, r2, e2⟩ := loop8 script x2 x3 x7 x8 x9 x10 x11 x12 x13 x14 x15 s hf hz l d y m1 r1
    exact ⟨y5, y6, m2, r2, (bnd_ok2 (x := in8 script x2 x3 d x6 x7 x8 x9 x10 x11 x12 x13 x14 x15 s) (M' := [m]) rfl).trans ((bnd_ok2 e1).trans e2)⟩
theorem lw8_ok {ns : List Int} (script x2 x3 x5 x6 x7 x8 x9 x10 x11 x12 x13 x14 x15 : Dv) (s : PyData) (hf : full s = true) (hz : mz s < 20) (m : MO) (hm : Row ns m) :
    ∃ y5 y6 m', Row ns m' ∧ lw8 40 (in8 script x2 x3 x5 x6 x7 x8 x9 x10 x11 x12 x13 x14 x15 s) [m] = .ok (.nx (in8 script x2 x3 y5 y6 x7 x8 x9 x10 x11 x12 x13 x14 x15 s)) [m'] := by
  obtain ⟨y5, y6, m', r, e⟩ := loop8 script x2 x3 x7 x8 x9 x10 x11 x12 x13 x14 x15 s hf hz [dI 0, dI 1, dI 2, dI 3, dI 4, dI 5] x5 x6 m hm
  refine ⟨y5, y6, m', r, ?_⟩
  rw [lw8_eq]
  have q : srcR1 (ac (kk (.int 6)) ac0) (in8 script x2 x3 x5 x6 x7 x8 x9 x10 x11 x12 x13 x14 x15 s) [m] = .ok [dI 0, dI 1, dI 2, dI 3, dI 4, dI 5] [m] := rfl
  show bnd (srcR1 (ac (kk (.int 6)) ac0) (in8 script x2 x3 x5 x6 x7 x8 x9 x10 x11 x12 x13 x14 x15 s)) (fun ds => forL (tN 5) bd8 ds (in8 script x2 x3 x5 x6 x7 x8 x9 x10 x11 x12 x13 x14 x15 s)) [m] = _
  exact (bnd_ok2 q).trans e
end K04
set_option Elab.async false
set_option linter.all false
set_option maxRecDepth 1000000
set_option maxHeartbeats 0
namespace K04
open Xt PySem
def L0 : List PyData := [.none]
theorem sh0 : F_q_shapes 40 [dI 0] [] = .ok (.g (.list L0)) [] := by kernel_rfl
def L1 : List PyData := [.tuple [.none, .none]]
theorem sh1 : F_q_shapes 40 [dI 1] [] = .ok (.g (.list L1)) [] := by kernel_rfl
def L2 : List PyData := [.tuple [.tuple [.none, .none], .none]]
theorem sh2 : F_q_shapes 40 [dI 2] [] = .ok (.g (.list L2)) [] := by kernel_rfl
def L3 : List PyData := [.tuple [.tuple [.tuple [.none, .none], .none], .none], .tuple [.tuple [.none, .none], .tuple [.none, .none]]]
theorem sh3 : F_q_shapes 40 [dI 3] [] = .ok (.g (.list L3)) [] := by kernel_rfl
def L4 : List PyData := [.tuple [.tuple [.tuple [.tuple [.none, .none], .none], .none], .none], .tuple [.tuple [.tuple [.none, .none], .tuple [.none, .none]], .none], .tuple [.tuple [.tuple [.none, .none], .none], .tuple [.none, .none]], .tuple [.tuple [.none, .none], .tuple [.tuple [.none, .none], .none]]]
theorem sh4 : F_q_shapes 40 [dI 4] [] = .ok (.g (.list L4)) [] := by kernel_rfl
def L5 : List PyData := [.tuple [.tuple [.tuple [.tuple [.tuple [.none, .none], .none], .none], .none], .none], .tuple [.tuple [.tuple [.tuple [.none, .none], .tuple [.none, .none]], .none], .none], .tuple [.tuple [.tuple [.tuple [.none, .none], .none], .tuple [.none, .none]], .none], .tuple [.tuple [.tuple [.none, .none], .tuple [.tuple [.none, .none], .none]], .none], .tuple [.tuple [.tuple [.tuple [.none, .none], .none], .none], .tuple [.none, .none]], .tuple [.tuple [.tuple [.none, .none], .tuple [.none, .none]], .tuple [.none, .none]], .tuple [.tuple [.tuple [.none, .none], .none], .tuple [.tuple [.none, .none], .none]], .tuple [.tuple [.none, .none], .tuple [.tuple [.tuple [.none, .none], .none], .none]], .tuple [.tuple [.none, .none], .tuple [.tuple [.none, .none], .tuple [.none, .none]]]]
theorem sh5 : F_q_shapes 40 [dI 5] [] = .ok (.g (.list L5)) [] := by kernel_rfl
def L6 : List PyData := [.tuple [.tuple [.tuple [.tuple [.tuple [.tuple [.none, .none], .none], .none], .none], .none], .none], .tuple [.tuple [.tuple [.tuple [.tuple [.none, .none], .tuple [.none, .none]], .none], .none], .none], .tuple [.tuple [.tuple [.tuple [.tuple [.none, .none], .none], .tuple [.none, .none]], .none], .none], .tuple [.tuple [.tuple [.tuple [.none, .none], .tuple [.tuple [.none, .none], .none]], .none], .none], .tuple [.tuple [.tuple [.tuple [.tuple [.none, .none], .none], .none], .tuple [.none, .none]], .none], .tuple [.tuple [.tuple [.tuple [.none, .none], .tuple [.none, .none]], .tuple [.none, .none]], .none], .tuple [.tuple [.tuple [.tuple [.none, .none], .none], .tuple [.tuple [.none, .none], .none]], .none], .tuple [.tuple [.tuple [.none, .none], .tuple [.tuple [.tuple [.none, .none], .none], .none]], .none], .tuple [.tuple [.tuple [.none, .none], .tuple [.tuple [.none, .none], .tuple [.none, .none]]], .none], .tuple [.tuple [.tuple [.tuple [.tuple [.none, .none], .none], .none], .none], .tuple [.none, .none]], .tuple [.tuple [.tuple [.tuple [.none, .none], .tuple [.none, .none]], .none], .tuple [.none, .none]], .tuple [.tuple [.tuple [.tuple [.none, .none], .none], .tuple [.none, .none]], .tuple [.none, .none]], .tuple [.tuple [.tuple [.none, .none], .tuple [.tuple [.none, .none], .none]], .tuple [.none, .none]], .tuple [.tuple [.tuple [.tuple [.none, .none], .none], .none], .tuple [.tuple [.none, .none], .none]], .tuple [.tuple [.tuple [.none, .none], .tuple [.none, .none]], .tuple [.tuple [.none, .none], .none]], .tuple [.tuple [.tuple [.none, .none], .none], .tuple [.tuple [.tuple [.none, .none], .none], .none]], .tuple [.tuple [.tuple [.none, .none], .none], .tuple [.tuple [.none, .none], .tuple [.none, .none]]], .tuple [.tuple [.none, .none], .tuple [.tuple [.tuple [.tuple [.none, .none], .none], .none], .none]], .tuple [.tuple [.none, .none], .tuple [.tuple [.tuple [.none, .none], .tuple [.none, .none]], .none]], .tuple [.tuple [.none, .none], .tuple [.tuple [.tuple [.none, .none], .none], .tuple [.none, .none]]], .tuple [.tuple [.none, .none], .tuple [.tuple [.none, .none], .tuple [.tuple [.none, .none], .none]]]]
theorem sh6 : F_q_shapes 40 [dI 6] [] = .ok (.g (.list L6)) [] := by kernel_rfl
def blkA : Slots → Co Fl := sq (lw4 40) (sq (lw5 40) (sq (lw6 40) (sq (lw7 40) skp)))
def blkC : Slots → Co Fl := sq (lw9 40) (sq (lw10 40) skp)
def vw : RE Fl → Option (Option Dv × Option Dv × Option Dv × Option Dv × List Unit × List MO)
  | .ok (.nx ρ) M => some (ρ[1]?, ρ[2]?, ρ[3]?, ρ[4]?, ρ.map fun _ => (), M)
  | _ => none
def un16 : List Unit := List.replicate 16 ()
theorem tA0_0 (script x5 x6 x7 x8 x9 x10 x11 x12 x13 x14 x15 : Dv) (m : MO) : vw (blkA (in8 script (dI 0) (.g (.list L0)) x5 x6 x7 x8 x9 x10 x11 x12 x13 x14 x15 (.none)) [m]) = some (some (.r 0), some (dI 0), some (.g (.list L0)), some (.g (.none)), un16, [m]) := by kernel_rfl
theorem tC0_0 (script x5 x6 x7 x8 x9 x10 x11 x12 x13 x14 x15 : Dv) (m : MO) : vw (blkC (in8 script (dI 0) (.g (.list L0)) x5 x6 x7 x8 x9 x10 x11 x12 x13 x14 x15 (.none)) [m]) = some (some (.r 0), some (dI 0), some (.g (.list L0)), some (.g (.none)), un16, [m]) := by kernel_rfl
theorem tA1_0 (script x5 x6 x7 x8 x9 x10 x11 x12 x13 x14 x15 : Dv) (m : MO) : vw (blkA (in8 script (dI 1) (.g (.list L1)) x5 x6 x7 x8 x9 x10 x11 x12 x13 x14 x15 (.tuple [.none, .none])) [m]) = some (some (.r 0), some (dI 1), some (.g (.list L1)), some (.g (.tuple [.none, .none])), un16, [m]) := by kernel_rfl
theorem tC1_0 (script x5 x6 x7 x8 x9 x10 x11 x12 x13 x14 x15 : Dv) (m : MO) : vw (blkC (in8 script (dI 1) (.g (.list L1)) x5 x6 x7 x8 x9 x10 x11 x12 x13 x14 x15 (.tuple [.none, .none])) [m]) = some (some (.r 0), some (dI 1), some (.g (.list L1)), some (.g (.tuple [.none, .none])), un16, [m]) := by kernel_rfl
theorem tA2_0 (script x5 x6 x7 x8 x9 x10 x11 x12 x13 x14 x15 : Dv) (m : MO) : vw (blkA (in8 script (dI 2) (.g (.list L2)) x5 x6 x7 x8 x9 x10 x11 x12 x13 x14 x15 (.tuple [.tuple [.none, .none], .none])) [m]) = some (some (.r 0), some (dI 2), some (.g (.list L2)), some (.g (.tuple [.tuple [.none, .none], .none])), un16, [m]) := by kernel_rfl
theorem tC2_0 (script x5 x6 x7 x8 x9 x10 x11 x12 x13 x14 x15 : Dv) (m : MO) : vw (blkC (in8 script (dI 2) (.g (.list L2)) x5 x6 x7 x8 x9 x10 x11 x12 x13 x14 x15 (.tuple [.tuple [.none, .none], .none])) [m]) = some (some (.r 0), some (dI 2), some (.g (.list L2)), some (.g (.tuple [.tuple [.none, .none], .none])), un16, [m]) := by kernel_rfl
theorem tA3_0 (script x5 x6 x7 x8 x9 x10 x11 x12 x13 x14 x15 : Dv) (m : MO) : vw (blkA (in8 script (dI 3) (.g (.list L3)) x5 x6 x7 x8 x9 x10 x11 x12 x13 x14 x15 (.tuple [.tuple [.tuple [.none, .none], .none], .none])) [m]) = some (some (.r 0), some (dI 3), some (.g (.list L3)), some (.g (.tuple [.tuple [.tuple [.none, .none], .none], .none])), un16, [m]) := by kernel_rfl
theorem tC3_0 (script x5 x6 x7 x8 x9 x10 x11 x12 x13 x14 x15 : Dv) (m : MO) : vw (blkC (in8 script (dI 3) (.g (.list L3)) x5 x6 x7 x8 x9 x10 x11 x12 x13 x14 x15 (.tuple [.tuple [.tuple [.none, .none], .none], .none])) [m]) = some (some (.r 0), some (dI 3), some (.g (.list L3)), some (.g (.tuple [.tuple [.tuple [.none, .none], .none], .none])), un16, [m]) := by kernel_rfl
theorem tA3_1 (script x5 x6 x7 x8 x9 x10 x11 x12 x13 x14 x15 : Dv) (m : MO) : vw (blkA (in8 script (dI 3) (.g (.list L3)) x5 x6 x7 x8 x9 x10 x11 x12 x13 x14 x15 (.tuple [.tuple [.none, .none], .tuple [.none, .none]])) [m]) = some (some (.r 0), some (dI 3), some (.g (.list L3)), some (.g (.tuple [.tuple [.none, .none], .tuple [.none, .none]])), un16, [m]) := by kernel_rfl
theorem tC3_1 (script x5 x6 x7 x8 x9 x10 x11 x12 x13 x14 x15 : Dv) (m : MO) : vw (blkC (in8 script (dI 3) (.g (.list L3)) x5 x6 x7 x8 x9 x10 x11 x12 x13 x14 x15 (.tuple [.tuple [.none, .none], .tuple [.none, .none]])) [m]) = some (some (.r 0), some (dI 3), some (.g (.list L3)), some (.g (.tuple [.tuple [.none, .none], .tuple [.none, .none]])), un16, [m]) := by kernel_rfl
theorem tA4_0 (script x5 x6 x7 x8 x9 x10 x11 x12 x13 x14 x15 : Dv) (m : MO) : vw (blkA (in8 script (dI 4) (.g (.list L4)) x5 x6 x7 x8 x9 x10 x11 x12 x13 x14 x15 (.tuple [.tuple [.tuple [.tuple [.none, .none], .none], .none], .none])) [m]) = some (some (.r 0), some (dI 4), some (.g (.list L4)), some (.g (.tuple [.tuple [.tuple [.tuple [.none, .none], .none], .none], .none])), un16, [m]) := by kernel_rfl
theorem tC4_0 (script x5 x6 x7 x8 x9 x10 x11 x12 x13 x14 x15 : Dv) (m : MO) : vw (blkC (in8 script (dI 4) (.g (.list L4)) x5 x6 x7 x8 x9 x10 x11 x12 x13 x14 x15 (.tuple [.tuple [.tuple [.tuple [.none, .none], .none], .none], .none])) [m]) = some (some (.r 0), some (dI 4), some (.g (.list L4)), some (.g (.tuple [.tuple [.tuple [.tuple [.none, .none], .none], .none], .none])), un16, [m]) := by kernel_rfl
theorem tA4_1 (script x5 x6 x7 x8 x9 x10 x11 x12 x13 x14 x15 : Dv) (m : MO) : vw (blkA (in8 script (dI 4) (.g (.list L4)) x5 x6 x7 x8 x9 x10 x11 x12 x13 x14 x15 (.tuple [.tuple [.tuple [.none, .none], .tuple [.none, .none]], .none])) [m]) = some (some (.r 0), some (dI 4), some (.g (.list L4)), some (.g (.tuple [.tuple [.tuple [.none, .none], .tuple [.none, .none]], .none])), un16, [m]) := by kernel_rfl
theorem tC4_1 (script x5 x6 x7 x8 x9 x10 x11 x12 x13 x14 x15 : Dv) (m : MO) : vw (blkC (in8 script (dI 4) (.g (.list L4)) x5 x6 x7 x8 x9 x10 x11 x12 x13 x14 x15 (.tuple [.tuple [.tuple [.none, .none], .tuple [.none, .none]], .none])) [m]) = some (some (.r 0), some (dI 4), some (.g (.list L4)), some (.g (.tuple [.tuple [.tuple [.none, .none], .tuple [.none, .none]], .none])), un16, [m]) := by kernel_rfl
theorem tA4_2 (script x5 x6 x7 x8 x9 x10 x11 x12 x13 x14 x15 : Dv) (m : MO) : vw (blkA (in8 script (dI 4) (.g (.list L4)) x5 x6 x7 x8 x9 x10 x11 x12 x13 x14 x15 (.tuple [.tuple [.tuple [.none, .none], .none], .tuple [.none, .none]])) [m]) = some (some (.r 0), some (dI 4), some (.g (.list L4)), some (.g (.tuple [.tuple [.tuple [.none, .none], .none], .tuple [.none, .none]])), un16, [m]) := by kernel_rfl
theorem tC4_2 (script x5 x6 x7 x8 x9 x10 x11 x12 x13 x14 x15 : Dv) (m : MO) : vw (blkC (in8 script (dI 4) (.g (.list L4)) x5 x6 x7 x8 x9 x10 x11 x12 x13 x14 x15 (.tuple [.tuple [.tuple [.none, .none], .none], .tuple [.none, .none]])) [m]) = some (some (.r 0), some (dI 4), some (.g (.list L4)), some (.g (.tuple [.tuple [.tuple [.none, .none], .none], .tuple [.none, .none]])), un16, [m]) := by kernel_rfl
theorem tA4_3 (script x5 x6 x7 x8 x9 x10 x11 x12 x13 x14 x15 : Dv) (m : MO) : vw (blkA (in8 script (dI 4) (.g (.list L4)) x5 x6 x7 x8 x9 x10 x11 x12 x13 x14 x15 (.tuple [.tuple [.none, .none], .tuple [.tuple [.none, .none], .none]])) [m]) = some (some (.r 0), some (dI 4), some (.g (.list L4)), some (.g (.tuple [.tuple [.none, .none], .tuple [.tuple [.none, .none], .none]])), un16, [m]) := by kernel_rfl
theorem tC4_3 (script x5 x6 x7 x8 x9 x10 x11 x12 x13 x14 x15 : Dv) (m : MO) : vw (blkC (in8 script (dI 4) (.g (.list L4)) x5 x6 x7 x8 x9 x10 x11 x12 x13 x14 x15 (.tuple [.tuple [.none, .none], .tuple [.tuple [.none, .none], .none]])) [m]) = some (some (.r 0), some (dI 4), some (.g (.list L4)), some (.g (.tuple [.tuple [.none, .none], .tuple [.tuple [.none, .none], .none]])), un16, [m]) := by kernel_rfl
theorem tA5_0 (script x5 x6 x7 x8 x9 x10 x11 x12 x13 x14 x15 : Dv) (m : MO) : vw (blkA (in8 script (dI 5) (.g (.list L5)) x5 x6 x7 x8 x9 x10 x11 x12 x13 x14 x15 (.tuple [.tuple [.tuple [.tuple [.tuple [.none, .none], .none], .none], .none], .none])) [m]) = some (some (.r 0), some (dI 5), some (.g (.list L5)), some (.g (.tuple [.tuple [.tuple [.tuple [.tuple [.none, .none], .none], .none], .none], .none])), un16, [m]) := by kernel_rfl
theorem tC5_0 (script x5 x6 x7 x8 x9 x10 x11 x12 x13 x14 x15 : Dv) (m : MO) : vw (blkC (in8 script (dI 5) (.g (.list L5)) x5 x6 x7 x8 x9 x10 x11 x12 x13 x14 x15 (.tuple [.tuple [.tuple [.tuple [.tuple [.none, .none], .none], .none], .none], .none])) [m]) = some (some (.r 0), some (dI 5), some (.g (.list L5)), some (.g (.tuple [.tuple [.tuple [.tuple [.tuple [.none, .none], .none], .none], .none], .none])), un16, [m]) := by kernel_rfl
theorem tA5_1 (script x5 x6 x7 x8 x9 x10 x11 x12 x13 x14 x15 : Dv) (m : MO) : vw (blkA (in8 script (dI 5) (.g (.list L5)) x5 x6 x7 x8 x9 x10 x11 x12 x13 x14 x15 (.tuple [.tuple [.tuple [.tuple [.none, .none], .tuple [.none, .none]], .none], .none])) [m]) = some (some (.r 0), some (dI 5), some (.g (.list L5)), some (.g (.tuple [.tuple [.tuple [.tuple [.none, .none], .tuple [.none, .none]], .none], .none])), un16, [m]) := by kernel_rfl
theorem tC5_1 (script x5 x6 x7 x8 x9 x10 x11 x12 x13 x14 x15 : Dv) (m : MO) : vw (blkC (in8 script (dI 5) (.g (.list L5)) x5 x6 x7 x8 x9 x10 x11 x12 x13 x14 x15 (.tuple [.tuple [.tuple [.tuple [.none, .none], .tuple [.none, .none]], .none], .none])) [m]) = some (some (.r 0), some (dI 5), some (.g (.list L5)), some (.g (.tuple [.tuple [.tuple [.tuple [.none, .none], .tuple [.none, .none]], .none], .none])), un16, [m]) := by kernel_rfl
theorem tA5_2 (script x5 x6 x7 x8 x9 x10 x11 x12 x13 x14 x15 : Dv) (m : MO) : vw (blkA (in8 script (dI 5) (.g (.list L5)) x5 x6 x7 x8 x9 x10 x11 x12 x13 x14 x15 (.tuple [.tuple [.tuple [.tuple [.none, .none], .none], .tuple [.none, .none]], .none])) [m]) = some (some (.r 0), some (dI 5), some (.g (.list L5)), some (.g (.tuple [.tuple [.tuple [.tuple [.none, .none], .none], .tuple [.none, .none]], .none])), un16, [m]) := by kernel_rfl
theorem tC5_2 (script x5 x6 x7 x8 x9 x10 x11 x12 x13 x14 x15 : Dv) (m : MO) : vw (blkC (in8 script (dI 5) (.g (.list L5)) x5 x6 x7 x8 x9 x10 x11 x12 x13 x14 x15 (.tuple [.tuple [.tuple [.tuple [.none, .none], .none], .tuple [.none, .none]], .none])) [m]) = some (some (.r 0), some (dI 5), some (.g (.list L5)), some (.g (.tuple [.tuple [.tuple [.tuple [.none, .none], .none], .tuple [.none, .none]], .none])), un16, [m]) := by kernel_rfl
theorem tA5_3 (script x5 x6 x7 x8 x9 x10 x11 x12 x13 x14 x15 : Dv) (m : MO) : vw (blkA (in8 script (dI 5) (.g (.list L5)) x5 x6 x7 x8 x9 x10 x11 x12 x13 x14 x15 (.tuple [.tuple [.tuple [.none, .none], .tuple [.tuple [.none, .none], .none]], .none])) [m]) = some (some (.r 0), some (dI 5), some (.g (.list L5)), some (.g (.tuple [.tuple [.tuple [.none, .none], .tuple [.tuple [.none, .none], .none]], .none])), un16, [m]) := by kernel_rfl
theorem tC5_3 (script x5 x6 x7 x8 x9 x10 x11 x12 x13 x14 x15 : Dv) (m : MO) : vw (blkC (in8 script (dI 5) (.g (.list L5)) x5 x6 x7 x8 x9 x10 x11 x12 x13 x14 x15 (.tuple [.tuple [.tuple [.none, .none], .tuple [.tuple [.none, .none], .none]], .none])) [m]) = some (some (.r 0), some (dI 5), some (.g (.list L5)), some (.g (.tuple [.tuple [.tuple [.none, .none], .tuple [.tuple [.none, .none], .none]], .none])), un16, [m]) := by kernel_rfl
theorem tA5_4 (script x5 x6 x7 x8 x9 x10 x11 x12 x13 x14 x15 : Dv) (m : MO) : vw (blkA (in8 script (dI 5) (.g (.list L5)) x5 x6 x7 x8 x9 x10 x11 x12 x13 x14 x15 (.tuple [.tuple [.tuple [.tuple [.none, .none], .none], .none], .tuple [.none, .none]])) [m]) = some (some (.r 0), some (dI 5), some (.g (.list L5)), some (.g (.tuple [.tuple [.tuple [.tuple [.none, .none], .none], .none], .tuple [.none, .none]])), un16, [m]) := by kernel_rfl
theorem tC5_4 (script x5 x6 x7 x8 x9 x10 x11 x12 x13 x14 x15 : Dv) (m : MO) : vw (blkC (in8 script (dI 5) (.g (.list L5)) x5 x6 x7 x8 x9 x10 x11 x12 x13 x14 x15 (.tuple [.tuple [.tuple [.tuple [.none, .none], .none], .none], .tuple [.none, .none]])) [m]) = some (some (.r 0), some (dI 5), some (.g (.list L5)), some (.g (.tuple [.tuple [.tuple [.tuple [.none, .none], .none], .none], .tuple [.none, .none]])), un16, [m]) := by kernel_rfl
theorem tA5_5 (script x5 x6 x7 x8 x9 x10 x11 x12 x13 x14 x15 : Dv) (m : MO) : vw (blkA (in8 script (dI 5) (.g (.list L5)) x5 x6 x7 x8 x9 x10 x11 x12 x13 x14 x15 (.tuple [.tuple [.tuple [.none, .none], .tuple [.none, .none]], .tuple [.none, .none]])) [m]) = some (some (.r 0), some (dI 5), some (.g (.list L5)), some (.g (.tuple [.tuple [.tuple [.none, .none], .tuple [.none, .none]], .tuple [.none, .none]])), un16, [m]) := by kernel_rfl
theorem tC5_5 (script x5 x6 x7 x8 x9 x10 x11 x12 x13 x14 x15 : Dv) (m : MO) : vw (blkC (in8 script (dI 5) (.g (.list L5)) x5 x6 x7 x8 x9 x10 x11 x12 x13 x14 x15 (.tuple [.tuple [.tuple [.none, .none], .tuple [.none, .none]], .tuple [.none, .none]])) [m]) = some (some (.r 0), some (dI 5), some (.g (.list L5)), some (.g (.tuple [.tuple [.tuple [.none, .none], .tuple [.none, .none]], .tuple [.none, .none]])), un16, [m]) := by kernel_rfl
theorem tA5_6 (script x5 x6 x7 x8 x9 x10 x11 x12 x13 x14 x15 : Dv) (m : MO) : vw (blkA (in8 script (dI 5) (.g (.list L5)) x5 x6 x7 x8 x9 x10 x11 x12 x13 x14 x15 (.tuple [.tuple [.tuple [.none, .none], .none], .tuple [.tuple [.none, .none], .none]])) [m]) = some (some (.r 0), some (dI 5), some (.g (.list L5)), some (.g (.tuple [.tuple [.tuple [.none, .none], .none], .tuple [.tuple [.none, .none], .none]])), un16, [m]) := by kernel_rfl
theorem tC5_6 (script x5 x6 x7 x8 x9 x10 x11 x12 x13 x14 x15 : Dv) (m : MO) : vw (blkC (in8 script (dI 5) (.g (.list L5)) x5 x6 x7 x8 x9 x10 x11 x12 x13 x14 x15 (.tuple [.tuple [.tuple [.none, .none], .none], .tuple [.tuple [.none, .none], .none]])) [m]) = some (some (.r 0), some (dI 5), some (.g (.list L5)), some (.g (.tuple [.tuple [.tuple [.none, .none], .none], .tuple [.tuple [.none, .none], .none]])), un16, [m]) := by kernel_rfl
theorem tA5_7 (script x5 x6 x7 x8 x9 x10 x11 x12 x13 x14 x15 : Dv) (m : MO) : vw (blkA (in8 script (dI 5) (.g (.list L5)) x5 x6 x7 x8 x9 x10 x11 x12 x13 x14 x15 (.tuple [.tuple [.none, .none], .tuple [.tuple [.tuple [.none, .none], .none], .none]])) [m]) = some (some (.r 0), some (dI 5), some (.g (.list L5)), some (.g (.tuple [.tuple [.none, .none], .tuple [.tuple [.tuple [.none, .none], .none], .none]])), un16, [m]) := by kernel_rfl
theorem tC5_7 (script x5 x6 x7 x8 x9 x10 x11 x12 x13 x14 x15 : Dv) (m : MO) : vw (blkC (in8 script (dI 5) (.g (.list L5)) x5 x6 x7 x8 x9 x10 x11 x12 x13 x14 x15 (.tuple [.tuple [.none, .none], .tuple [.tuple [.tuple [.none, .none], .none], .none]])) [m]) = some (some (.r 0), some (dI 5), some (.g (.list L5)), some (.g (.tuple [.tuple [.none, .none], .tuple [.tuple [.tuple [.none, .none], .none], .none]])), un16, [m]) := by kernel_rfl
theorem tA5_8 (script x5 x6 x7 x8 x9 x10 x11 x12 x13 x14 x15 : Dv) (m : MO) : vw (blkA (in8 script (dI 5) (.g (.list L5)) x5 x6 x7 x8 x9 x10 x11 x12 x13 x14 x15 (.tuple [.tuple [.none, .none], .tuple [.tuple [.none, .none], .tuple [.none, .none]]])) [m]) = some (some (.r 0), some (dI 5), some (.g (.list L5)), some (.g (.tuple [.tuple [.none, .none], .tuple [.tuple [.none, .none], .tuple [.none, .none]]])), un16, [m]) := by kernel_rfl
theorem tC5_8 (script x5 x6 x7 x8 x9 x10 x11 x12 x13 x14 x15 : Dv) (m : MO) : vw (blkC (in8 script (dI 5) (.g (.list L5)) x5 x6 x7 x8 x9 x10 x11 x12 x13 x14 x15 (.tuple [.tuple [.none, .none], .tuple [.tuple [.none, .none], .tuple [.none, .none]]])) [m]) = some (some (.r 0), some (dI 5), some (.g (.list L5)), some (.g (.tuple [.tuple [.none, .none], .tuple [.tuple [.none, .none], .tuple [.none, .none]]])), un16, [m]) := by kernel_rfl
theorem tA6_0 (script x5 x6 x7 x8 x9 x10 x11 x12 x13 x14 x15 : Dv) (m : MO) : vw (blkA (in8 script (dI 6) (.g (.list L6)) x5 x6 x7 x8 x9 x10 x11 x12 x13 x14 x15 (.tuple [.tuple [.tuple [.tuple [.tuple [.tuple [.none, .none], .none], .none], .none], .none], .none])) [m]) = some (some (.r 0), some (dI 6), some (.g (.list L6)), some (.g (.tuple [.tuple [.tuple [.tuple [.tuple [.tuple [.none, .none], .none], .none], .none], .none], .none])), un16, [m]) := by kernel_rfl
theorem tC6_0 (script x5 x6 x7 x8 x9 x10 x11 x12 x13 x14 x15 : Dv) (m : MO) : vw (blkC (in8 script (dI 6) (.g (.list L6)) x5 x6 x7 x8 x9 x10 x11 x12 x13 x14 x15 (.tuple [.tuple [.tuple [.tuple [.tuple [.tuple [.none, .none], .none], .none], .none], .none], .none])) [m]) = some (some (.r 0), some (dI 6), some (.g (.list L6)), some (.g (.tuple [.tuple [.tuple [.tuple [.tuple [.tuple [.none, .none], .none], .none], .none], .none], .none])), un16, [m]) := by kernel_rfl
theorem tA6_1 (script x5 x6 x7 x8 x9 x10 x11 x12 x13 x14 x15 : Dv) (m : MO) : vw (blkA (in8 script (dI 6) (.g (.list L6)) x5 x6 x7 x8 x9 x10 x11 x12 x13 x14 x15 (.tuple [.tuple [.tuple [.tuple [.tuple [.none, .none], .tuple [.none, .none]], .none], .none], .none])) [m]) = some (some (.r 0), some (dI 6), some (.g (.list L6)), some (.g (.tuple [.tuple [.tuple [.tuple [.tuple [.none, .none], .tuple [.none, .none]], .none], .none], .none])), un16, [m]) := by kernel_rfl
theorem tC6_1 (script x5 x6 x7 x8 x9 x10 x11 x12 x13 x14 x15 : Dv) (m : MO) : vw (blkC (in8 script (dI 6) (.g (.list L6)) x5 x6 x7 x8 x9 x10 x11 x12 x13 x14 x15 (.tuple [.tuple [.tuple [.tuple [.tuple [.none, .none], .tuple [.none, .none]], .none], .none], .none])) [m]) = some (some (.r 0), some (dI 6), some (.g (.list L6)), some (.g (.tuple [.tuple [.tuple [.tuple [.tuple [.none, .none], .tuple [.none, .none]], .none], .none], .none])), un16, [m]) := by kernel_rfl
theorem tA6_2 (script x5 x6 x7 x8 x9 x10 x11 x12 x13 x14 x15 : Dv) (m : MO) : vw (blkA (in8 script (dI 6) (.g (.list L6)) x5 x6 x7 x8 x9 x10 x11 x12 x13 x14 x15 (.tuple [.tuple [.tuple [.tuple [.tuple [.none, .none], .none], .tuple [.none, .none]], .none], .none])) [m]) = some (some (.r 0), some (dI 6), some (.g (.list L6)), some (.g (.tuple [.tuple [.tuple [.tuple [.tuple [.none, .none], .none], .tuple [.none, .none]], .none], .none])), un16, [m]) := by kernel_rfl
theorem tC6_2 (script x5 x6 x7 x8 x9 x10 x11 x12 x13 x14 x15 : Dv) (m : MO) : vw (blkC (in8 script (dI 6) (.g (.list L6)) x5 x6 x7 x8 x9 x10 x11 x12 x13 x14 x15 (.tuple [.tuple [.tuple [.tuple [.tuple [.none, .none], .none], .tuple [.none, .none]], .none], .none])) [m]) = some (some (.r 0), some (dI 6), some (.g (.list L6)), some (.g (.tuple [.tuple [.tuple [.tuple [.tuple [.none, .none], .none], .tuple [.none, .none]], .none], .none])), un16, [m]) := by kernel_rfl
theorem tA6_3 (script x5 x6 x7 x8 x9 x10 x11 x12 x13 x14 x15 : Dv) (m : MO) : vw (blkA (in8 script (dI 6) (.g (.list L6)) x5 x6 x7 x8 x9 x10 x11 x12 x13 x14 x15 (.tuple [.tuple [.tuple [.tuple [.none, .none], .tuple [.tuple [.none, .none], .none]], .none], .none])) [m]) = some (some (.r 0), some (dI 6), some (.g (.list L6)), some (.g (.tuple [.tuple [.tuple [.tuple [.none, .none], .tuple [.tuple [.none, .none], .none]], .none], .none])), un16, [m]) := by kernel_rfl
theorem tC6_3 (script x5 x6 x7 x8 x9 x10 x11 x12 x13 x14 x15 : Dv) (m : MO) : vw (blkC (in8 script (dI 6) (.g (.list L6)) x5 x6 x7 x8 x9 x10 x11 x12 x13 x14 x15 (.tuple [.tuple [.tuple [.tuple [.none, .none], .tuple [.tuple [.none, .none], .none]], .none], .none])) [m]) = some (some (.r 0), some (dI 6), some (.g (.list L6)), some (.g (.tuple [.tuple [.tuple [.tuple [.none, .none], .tuple [.tuple [.none, .none], .none]], .none], .none])), un16, [m]) := by kernel_rfl
theorem tA6_4 (script x5 x6 x7 x8 x9 x10 x11 x12 x13 x14 x15 : Dv) (m : MO) : vw (blkA (in8 script (dI 6) (.g (.list L6)) x5 x6 x7 x8 x9 x10 x11 x12 x13 x14 x15 (.tuple [.tuple [.tuple [.tuple [.tuple [.none, .none], .none], .none], .tuple [.none, .none]], .none])) [m]) = some (some (.r 0), some (dI 6), some (.g (.list L6)), some (.g (.tuple [.tuple [.tuple [.tuple [.tuple [.none, .none], .none], .none], .tuple [.none, .none]], .none])), un16, [m]) := by kernel_rfl
theorem tC6_4 (script x5 x6 x7 x8 x9 x10 x11 x12 x13 x14 x15 : Dv) (m : MO) : vw (blkC (in8 script (dI 6) (.g (.list L6)) x5 x6 x7 x8 x9 x10 x11 x12 x13 x14 x15 (.tuple [.tuple [.tuple [.tuple [.tuple [.none, .none], .none], .none], .tuple [.none, .none]], .none])) [m]) = some (some (.r 0), some (dI 6), some (.g (.list L6)), some (.g (.tuple [.tuple [.tuple [.tuple [.tuple [.none, .none], .none], .none], .tuple [.none, .none]], .none])), un16, [m]) := by kernel_rfl
theorem tA6_5 (script x5 x6 x7 x8 x9 x10 x11 x12 x13 x14 x15 : Dv) (m : MO) : vw (blkA (in8 script (dI 6) (.g (.list L6)) x5 x6 x7 x8 x9 x10 x11 x12 x13 x14 x15 (.tuple [.tuple [.tuple [.tuple [.none, .none], .tuple [.none, .none]], .tuple [.none, .none]], .none])) [m]) = some (some (.r 0), some (dI 6), some (.g (.list L6)), some (.g (.tuple [.tuple [.tuple [.tuple [.none, .none], .tuple [.none, .none]], .tuple [.none, .none]], .none])), un16, [m]) := by kernel_rfl
theorem tC6_5 (script x5 x6 x7 x8 x9 x10 x11 x12 x13 x14 x15 : Dv) (m : MO) : vw (blkC (in8 script (dI 6) (.g (.list L6)) x5 x6 x7 x8 x9 x10 x11 x12 x13 x14 x15 (.tuple [.tuple [.tuple [.tuple [.none, .none], .tuple [.none, .none]], .tuple [.none, .none]], .none])) [m]) = some (some (.r 0), some (dI 6), some (.g (.list L6)), some (.g (.tuple [.tuple [.tuple [.tuple [.none, .none], .tuple [.none, .none]], .tuple [.none, .none]], .none])), un16, [m]) := by kernel_rfl
theorem tA6_6 (script x5 x6 x7 x8 x9 x10 x11 x12 x13 x14 x15 : Dv) (m : MO) : vw (blkA (in8 script (dI 6) (.g (.list L6)) x5 x6 x7 x8 x9 x10 x11 x12 x13 x14 x15 (.tuple [.tuple [.tuple [.tuple [.none, .none], .none], .tuple [.tuple [.none, .none], .none]], .none])) [m]) = some (some (.r 0), some (dI 6), some (.g (.list L6)), some (.g (.tuple [.tuple [.tuple [.tuple [.none, .none], .none], .tuple [.tuple [.none, .none], .none]], .none])), un16, [m]) := by kernel_rfl
theorem tC6_6 (script x5 x6 x7 x8 x9 x10 x11 x12 x13 x14 x15 : Dv) (m : MO) : vw (blkC (in8 script (dI 6) (.g (.list L6)) x5 x6 x7 x8 x9 x10 x11 x12 x13 x14 x15 (.tuple [.tuple [.tuple [.tuple [.none, .none], .none], .tuple [.tuple [.none, .none], .none]], .none])) [m]) = some (some (.r 0), some (dI 6), some (.g (.list L6)), some (.g (.tuple [.tuple [.tuple [.tuple [.none, .none], .none], .tuple [.tuple [.none, .none], .none]], .none])), un16, [m]) := by kernel_rfl
theorem tA6_7 (script x5 x6 x7 x8 x9 x10 x11 x12 x13 x14 x15 : Dv) (m : MO) : vw (blkA (in8 script (dI 6) (.g (.list L6)) x5 x6 x7 x8 x9 x10 x11 x12 x13 x14 x15 (.tuple [.tuple [.tuple [.none, .none], .tuple [.tuple [.tuple [.none, .none], .none], .none]], .none])) [m]) = some (some (.r 0), some (dI 6), some (.g (.list L6)), some (.g (.tuple [.tuple [.tuple [.none, .none], .tuple [.tuple [.tuple [.none, .none], .none], .none]], .none])), un16, [m]) := by kernel_rfl
theorem tC6_7 (script x5 x6 x7 x8 x9 x10 x11 x12 x13 x14 x15 : Dv) (m : MO) : vw (blkC (in8 script (dI 6) (.g (.list L6)) x5 x6 x7 x8 x9 x10 x11 x12 x13 x14 x15 (.tuple [.tuple [.tuple [.none, .none], .tuple [.tuple [.tuple [.none, .none], .none], .none]], .none])) [m]) = some (some (.r 0), some (dI 6), some (.g (.list L6)), some (.g (.tuple [.tuple [.tuple [.none, .none], .tuple [.tuple [.tuple [.none, .none], .none], .none]], .none])), un16, [m]) := by kernel_rfl
theorem tA6_8 (script x5 x6 x7 x8 x9 x10 x11 x12 x13 x14 x15 : Dv) (m : MO) : vw (blkA (in8 script (dI 6) (.g (.list L6)) x5 x6 x7 x8 x9 x10 x11 x12 x13 x14 x15 (.tuple [.tuple [.tuple [.none, .none], .tuple [.tuple [.none, .none], .tuple [.none, .none]]], .none])) [m]) = some (some (.r 0), some (dI 6), some (.g (.list L6)), some (.g (.tuple [.tuple [.tuple [.none, .none], .tuple [.tuple [.none, .none], .tuple [.none, .none]]], .none])), un16, [m]) := by kernel_rfl
theorem tC6_8 (script x5 x6 x7 x8 x9 x10 x11 x12 x13 x14 x15 : Dv) (m : MO) : vw (blkC (in8 script (dI 6) (.g (.list L6)) x5 x6 x7 x8 x9 x10 x11 x12 x13 x14 x15 (.tuple [.tuple [.tuple [.none, .none], .tuple [.tuple [.none, .none], .tuple [.none, .none]]], .none])) [m]) = some (some (.r 0), some (dI 6), some (.g (.list L6)), some (.g (.tuple [.tuple [.tuple [.none, .none], .tuple [.tuple [.none, .none], .tuple [.none, .none]]], .none])), un16, [m]) := by kernel_rfl
theorem tA6_9 (script x5 x6 x7 x8 x9 x10 x11 x12 x13 x14 x15 : Dv) (m : MO) : vw (blkA (in8 script (dI 6) (.g (.list L6)) x5 x6 x7 x8 x9 x10 x11 x12 x13 x14 x15 (.tuple [.tuple [.tuple [.tuple [.tuple [.none, .none], .none], .none], .none], .tuple [.none, .none]])) [m]) = some (some (.r 0), some (dI 6), some (.g (.list L6)), some (.g (.tuple [.tuple [.tuple [.tuple [.tuple [.none, .none], .none], .none], .none], .tuple [.none, .none]])), un16, [m]) := by kernel_rfl
theorem tC6_9 (script x5 x6 x7 x8 x9 x10 x11 x12 x13 x14 x15 : Dv) (m : MO) : vw (blkC (in8 script (dI 6) (.g (.list L6)) x5 x6 x7 x8 x9 x10 x11 x12 x13 x14 x15 (.tuple [.tuple [.tuple [.tuple [.tuple [.none, .none], .none], .none], .none], .tuple [.none, .none]])) [m]) = some (some (.r 0), some (dI 6), some (.g (.list L6)), some (.g (.tuple [.tuple [.tuple [.tuple [.tuple [.none, .none], .none], .none], .none], .tuple [.none, .none]])), un16, [m]) := by kernel_rfl
theorem tA6_10 (script x5 x6 x7 x8 x9 x10 x11 x12 x13 x14 x15 : Dv) (m : MO) : vw (blkA (in8 script (dI 6) (.g (.list L6)) x5 x6 x7 x8 x9 x10 x11 x12 x13 x14 x15 (.tuple [.tuple [.tuple [.tuple [.none, .none], .tuple [.none, .none]], .none], .tuple [.none, .none]])) [m]) = some (some (.r 0), some (dI 6), some (.g (.list L6)), some (.g (.tuple [.tuple [.tuple [.tuple [.none, .none], .tuple [.none, .none]], .none], .tuple [.none, .none]])), un16, [m]) := by kernel_rfl
theorem tC6_10 (script x5 x6 x7 x8 x9 x10 x11 x12 x13 x14 x15 : Dv) (m : MO) : vw (blkC (in8 script (dI 6) (.g (.list L6)) x5 x6 x7 x8 x9 x10 x11 x12 x13 x14 x15 (.tuple [.tuple [.tuple [.tuple [.none, .none], .tuple [.none, .none]], .none], .tuple [.none, .none]])) [m]) = some (some (.r 0), some (dI 6), some (.g (.list L6)), some (.g (.tuple [.tuple [.tuple [.tuple [.none, .none], .tuple [.none, .none]], .none], .tuple [.none, .none]])), un16, [m]) := by kernel_rfl
theorem tA6_11 (script x5 x6 x7 x8 x9 x10 x11 x12 x13 x14 x15 : Dv) (m : MO) : vw (blkA (in8 script (dI 6) (.g (.list L6)) x5 x6 x7 x8 x9 x10 x11 x12 x13 x14 x15 (.tuple [.tuple [.tuple [.tuple [.none, .none], .none], .tuple [.none, .none]], .tuple [.none, .none]])) [m]) = some (some (.r 0), some (dI 6), some (.g (.list L6)), some (.g (.tuple [.tuple [.tuple [.tuple [.none, .none], .none], .tuple [.none, .none]], .tuple [.none, .none]])), un16, [m]) := by kernel_rfl
theorem tC6_11 (script x5 x6 x7 x8 x9 x10 x11 x12 x13 x14 x15 : Dv) (m : MO) : vw (blkC (in8 script (dI 6) (.g (.list L6)) x5 x6 x7 x8 x9 x10 x11 x12 x13 x14 x15 (.tuple [.tuple [.tuple [.tuple [.none, .none], .none], .tuple [.none, .none]], .tuple [.none, .none]])) [m]) = some (some (.r 0), some (dI 6), some (.g (.list L6)), some (.g (.tuple [.tuple [.tuple [.tuple [.none, .none], .none], .tuple [.none, .none]], .tuple [.none, .none]])), un16, [m]) := by kernel_rfl
theorem tA6_12 (script x5 x6 x7 x8 x9 x10 x11 x12 x13 x14 x15 : Dv) (m : MO) : vw (blkA (in8 script (dI 6) (.g (.list L6)) x5 x6 x7 x8 x9 x10 x11 x12 x13 x14 x15 (.tuple [.tuple [.tuple [.none, .none], .tuple [.tuple [.none, .none], .none]], .tuple [.none, .none]])) [m]) = some (some (.r 0), some (dI 6), some (.g (.list L6)), some (.g (.tuple [.tuple [.tuple [.none, .none], .tuple [.tuple [.none, .none], .none]], .tuple [.none, .none]])), un16, [m]) := by kernel_rfl
theorem tC6_12 (script x5 x6 x7 x8 x9 x10 x11 x12 x13 x14 x15 : Dv) (m : MO) : vw (blkC (in8 script (dI 6) (.g (.list L6)) x5 x6 x7 x8 x9 x10 x11 x12 x13 x14 x15 (.tuple [.tuple [.tuple [.none, .none], .tuple [.tuple [.none, .none], .none]], .tuple [.none, .none]])) [m]) = some (some (.r 0), some (dI 6), some (.g (.list L6)), some (.g (.tuple [.tuple [.tuple [.none, .none], .tuple [.tuple [.none, .none], .none]], .tuple [.none, .none]])), un16, [m]) := by kernel_rfl
theorem tA6_13 (script x5 x6 x7 x8 x9 x10 x11 x12 x13 x14 x15 : Dv) (m : MO) : vw (blkA (in8 script (dI 6) (.g (.list L6)) x5 x6 x7 x8 x9 x10 x11 x12 x13 x14 x15 (.tuple [.tuple [.tuple [.tuple [.none, .none], .none], .none], .tuple [.tuple [.none, .none], .none]])) [m]) = some (some (.r 0), some (dI 6), some (.g (.list L6)), some (.g (.tuple [.tuple [.tuple [.tuple [.none, .none], .none], .none], .tuple [.tuple [.none, .none], .none]])), un16, [m]) := by kernel_rfl
theorem tC6_13 (script x5 x6 x7 x8 x9 x10 x11 x12 x13 x14 x15 : Dv) (m : MO) : vw (blkC (in8 script (dI 6) (.g (.list L6)) x5 x6 x7 x8 x9 x10 x11 x12 x13 x14 x15 (.tuple [.tuple [.tuple [.tuple [.none, .none], .none], .none], .tuple [.tuple [.none, .none], .none]])) [m]) = some (some (.r 0), some (dI 6), some (.g (.list L6)), some (.g (.tuple [.tuple [.tuple [.tuple [.none, .none], .none], .none], .tuple [.tuple [.none, .none], .none]])), un16, [m]) := by kernel_rfl
theorem tA6_14 (script x5 x6 x7 x8 x9 x10 x11 x12 x13 x14 x15 : Dv) (m : MO) : vw (blkA (in8 script (dI 6) (.g (.list L6)) x5 x6 x7 x8 x9 x10 x11 x12 x13 x14 x15 (.tuple [.tuple [.tuple [.none, .none], .tuple [.none, .none]], .tuple [.tuple [.none, .none], .none]])) [m]) = some (some (.r 0), some (dI 6), some (.g (.list L6)), some (.g (.tuple [.tuple [.tuple [.none, .none], .tuple [.none, .none]], .tuple [.tuple [.none, .none], .none]])), un16, [m]) := by kernel_rfl
theorem tC6_14 (script x5 x6 x7 x8 x9 x10 x11 x12 x13 x14 x15 : Dv) (m : MO) : vw (blkC (in8 script (dI 6) (.g (.list L6)) x5 x6 x7 x8 x9 x10 x11 x12 x13 x14 x15 (.tuple [.tuple [.tuple [.none, .none], .tuple [.none, .none]], .tuple [.tuple [.none, .none], .none]])) [m]) = some (some (.r 0), some (dI 6), some (.g (.list L6)), some (.g (.tuple [.tuple [.tuple [.none, .none], .tuple [.none, .none]], .tuple [.tuple [.none, .none], .none]])), un16, [m]) := by kernel_rfl
theorem tA6_15 (script x5 x6 x7 x8 x9 x10 x11 x12 x13 x14 x15 : Dv) (m : MO) : vw (blkA (in8 script (dI 6) (.g (.list L6)) x5 x6 x7 x8 x9 x10 x11 x12 x13 x14 x15 (.tuple [.tuple [.tuple [.none, .none], .none], .tuple [.tuple [.tuple [.none, .none], .none], .none]])) [m]) = some (some (.r 0), some (dI 6), some (.g (.list L6)), some (.g (.tuple [.tuple [.tuple [.none, .none], .none], .tuple [.tuple [.tuple [.none, .none], .none], .none]])), un16, [m]) := by kernel_rfl
theorem tC6_15 (script x5 x6 x7 x8 x9 x10 x11 x12 x13 x14 x15 : Dv) (m : MO) : vw (blkC (in8 script (dI 6) (.g (.list L6)) x5 x6 x7 x8 x9 x10 x11 x12 x13 x14 x15 (.tuple [.tuple [.tuple [.none, .none], .none], .tuple [.tuple [.tuple [.none, .none], .none], .none]])) [m]) = some (some (.r 0), some (dI 6), some (.g (.list L6)), some (.g (.tuple [.tuple [.tuple [.none, .none], .none], .tuple [.tuple [.tuple [.none, .none], .none], .none]])), un16, [m]) := by kernel_rfl
theorem tA6_16 (script x5 x6 x7 x8 x9 x10 x11 x12 x13 x14 x15 : Dv) (m : MO) : vw (blkA (in8 script (dI 6) (.g (.list L6)) x5 x6 x7 x8 x9 x10 x11 x12 x13 x14 x15 (.tuple [.tuple [.tuple [.none, .none], .none], .tuple [.tuple [.none, .none], .tuple [.none, .none]]])) [m]) = some (some (.r 0), some (dI 6), some (.g (.list L6)), some (.g (.tuple [.tuple [.tuple [.none, .none], .none], .tuple [.tuple [.none, .none], .tuple [.none, .none]]])), un16, [m]) := by kernel_rfl
theorem tC6_16 (script x5 x6 x7 x8 x9 x10 x11 x12 x13 x14 x15 : Dv) (m : MO) : vw (blkC (in8 script (dI 6) (.g (.list L6)) x5 x6 x7 x8 x9 x10 x11 x12 x13 x14 x15 (.tuple [.tuple [.tuple [.none, .none], .none], .tuple [.tuple [.none, .none], .tuple [.none, .none]]])) [m]) = some (some (.r 0), some (dI 6), some (.g (.list L6)), some (.g (.tuple [.tuple [.tuple [.none, .none], .none], .tuple [.tuple [.none, .none], .tuple [.none, .none]]])), un16, [m]) := by kernel_rfl
theorem tA6_17 (script x5 x6 x7 x8 x9 x10 x11 x12 x13 x14 x15 : Dv) (m : MO) : vw (blkA (in8 script (dI 6) (.g (.list L6)) x5 x6 x7 x8 x9 x10 x11 x12 x13 x14 x15 (.tuple [.tuple [.none, .none], .tuple [.tuple [.tuple [.tuple [.none, .none], .none], .none], .none]])) [m]) = some (some (.r 0), some (dI 6), some (.g (.list L6)), some (.g (.tuple [.tuple [.none, .none], .tuple [.tuple [.tuple [.tuple [.none, .none], .none], .none], .none]])), un16, [m]) := by kernel_rfl
theorem tC6_17 (script x5 x6 x7 x8 x9 x10 x11 x12 x13 x14 x15 : Dv) (m : MO) : vw (blkC (in8 script (dI 6) (.g (.list L6)) x5 x6 x7 x8 x9 x10 x11 x12 x13 x14 x15 (.tuple [.tuple [.none, .none], .tuple [.tuple [.tuple [.tuple [.none, .none], .none], .none], .none]])) [m]) = some (some (.r 0), some (dI 6), some (.g (.list L6)), some (.g (.tuple [.tuple [.none, .none], .tuple [.tuple [.tuple [.tuple [.none, .none], .none], .none], .none]])), un16, [m]) := by kernel_rfl
theorem tA6_18 (script x5 x6 x7 x8 x9 x10 x11 x12 x13 x14 x15 : Dv) (m : MO) : vw (blkA (in8 script (dI 6) (.g (.list L6)) x5 x6 x7 x8 x9 x10 x11 x12 x13 x14 x15 (.tuple [.tuple [.none, .none], .tuple [.tuple [.tuple [.none, .none], .tuple [.none, .none]], .none]])) [m]) = some (some (.r 0), some (dI 6), some (.g (.list L6)), some (.g (.tuple [.tuple [.none, .none], .tuple [.tuple [.tuple [.none, .none], .tuple [.none, .none]], .none]])), un16, [m]) := by kernel_rfl
theorem tC6_18 (script x5 x6 x7 x8 x9 x10 x11 x12 x13 x14 x15 : Dv) (m : MO) : vw (blkC (in8 script (dI 6) (.g (.list L6)) x5 x6 x7 x8 x9 x10 x11 x12 x13 x14 x15 (.tuple [.tuple [.none, .none], .tuple [.tuple [.tuple [.none, .none], .tuple [.none, .none]], .none]])) [m]) = some (some (.r 0), some (dI 6), some (.g (.list L6)), some (.g (.tuple [.tuple [.none, .none], .tuple [.tuple [.tuple [.none, .none], .tuple [.none, .none]], .none]])), un16, [m]) := by kernel_rfl
theorem tA6_19 (script x5 x6 x7 x8 x9 x10 x11 x12 x13 x14 x15 : Dv) (m : MO) : vw (blkA (in8 script (dI 6) (.g (.list L6)) x5 x6 x7 x8 x9 x10 x11 x12 x13 x14 x15 (.tuple [.tuple [.none, .none], .tuple [.tuple [.tuple [.none, .none], .none], .tuple [.none, .none]]])) [m]) = some (some (.r 0), some (dI 6), some (.g (.list L6)), some (.g (.tuple [.tuple [.none, .none], .tuple [.tuple [.tuple [.none, .none], .none], .tuple [.none, .none]]])), un16, [m]) := by kernel_rfl
theorem tC6_19 (script x5 x6 x7 x8 x9 x10 x11 x12 x13 x14 x15 : Dv) (m : MO) : vw (blkC (in8 script (dI 6) (.g (.list L6)) x5 x6 x7 x8 x9 x10 x11 x12 x13 x14 x15 (.tuple [.tuple [.none, .none], .tuple [.tuple [.tuple [.none, .none], .none], .tuple [.none, .none]]])) [m]) = some (some (.r 0), some (dI 6), some (.g (.list L6)), some (.g (.tuple [.tuple [.none, .none], .tuple [.tuple [.tuple [.none, .none], .none], .tuple [.none, .none]]])), un16, [m]) := by kernel_rfl
theorem tA6_20 (script x5 x6 x7 x8 x9 x10 x11 x12 x13 x14 x15 : Dv) (m : MO) : vw (blkA (in8 script (dI 6) (.g (.list L6)) x5 x6 x7 x8 x9 x10 x11 x12 x13 x14 x15 (.tuple [.tuple [.none, .none], .tuple [.tuple [.none, .none], .tuple [.tuple [.none, .none], .none]]])) [m]) = some (some (.r 0), some (dI 6), some (.g (.list L6)), some (.g (.tuple [.tuple [.none, .none], .tuple [.tuple [.none, .none], .tuple [.tuple [.none, .none], .none]]])), un16, [m]) := by kernel_rfl
theorem tC6_20 (script x5 x6 x7 x8 x9 x10 x11 x12 x13 x14 x15 : Dv) (m : MO) : vw (blkC (in8 script (dI 6) (.g (.list L6)) x5 x6 x7 x8 x9 x10 x11 x12 x13 x14 x15 (.tuple [.tuple [.none, .none], .tuple [.tuple [.none, .none], .tuple [.tuple [.none, .none], .none]]])) [m]) = some (some (.r 0), some (dI 6), some (.g (.list L6)), some (.g (.tuple [.tuple [.none, .none], .tuple [.tuple [.none, .none], .tuple [.tuple [.none, .none], .none]]])), un16, [m]) := by kernel_rfl
theorem tE0 (script x5 x6 x7 x8 x9 x10 x11 x12 x13 x14 x15 x4 : Dv) (m : MO) : vw (lw11 40 [script, .r 0, dI 0, .g (.list L0), x4, x5, x6, x7, x8, x9, x10, x11, x12, x13, x14, x15] [m]) = some (some (.r 0), some (dI 0), some (.g (.list L0)), some x4, un16, [m]) := by kernel_rfl
theorem tE1 (script x5 x6 x7 x8 x9 x10 x11 x12 x13 x14 x15 x4 : Dv) (m : MO) : vw (lw11 40 [script, .r 0, dI 1, .g (.list L1), x4, x5, x6, x7, x8, x9, x10, x11, x12, x13, x14, x15] [m]) = some (some (.r 0), some (dI 1), some (.g (.list L1)), some x4, un16, [m]) := by kernel_rfl
theorem tE2 (script x5 x6 x7 x8 x9 x10 x11 x12 x13 x14 x15 x4 : Dv) (m : MO) : vw (lw11 40 [script, .r 0, dI 2, .g (.list L2), x4, x5, x6, x7, x8, x9, x10, x11, x12, x13, x14, x15] [m]) = some (some (.r 0), some (dI 2), some (.g (.list L2)), some x4, un16, [m]) := by kernel_rfl
theorem tE3 (script x5 x6 x7 x8 x9 x10 x11 x12 x13 x14 x15 x4 : Dv) (m : MO) : vw (lw11 40 [script, .r 0, dI 3, .g (.list L3), x4, x5, x6, x7, x8, x9, x10, x11, x12, x13, x14, x15] [m]) = some (some (.r 0), some (dI 3), some (.g (.list L3)), some x4, un16, [m]) := by kernel_rfl
theorem tE4 (script x5 x6 x7 x8 x9 x10 x11 x12 x13 x14 x15 x4 : Dv) (m : MO) : vw (lw11 40 [script, .r 0, dI 4, .g (.list L4), x4, x5, x6, x7, x8, x9, x10, x11, x12, x13, x14, x15] [m]) = some (some (.r 0), some (dI 4), some (.g (.list L4)), some x4, un16, [m]) := by kernel_rfl
theorem tE5 (script x5 x6 x7 x8 x9 x10 x11 x12 x13 x14 x15 x4 : Dv) (m : MO) : vw (lw11 40 [script, .r 0, dI 5, .g (.list L5), x4, x5, x6, x7, x8, x9, x10, x11, x12, x13, x14, x15] [m]) = some (some (.r 0), some (dI 5), some (.g (.list L5)), some x4, un16, [m]) := by kernel_rfl
theorem tE6 (script x5 x6 x7 x8 x9 x10 x11 x12 x13 x14 x15 x4 : Dv) (m : MO) : vw (lw11 40 [script, .r 0, dI 6, .g (.list L6), x4, x5, x6, x7, x8, x9, x10, x11, x12, x13, x14, x15] [m]) = some (some (.r 0), some (dI 6), some (.g (.list L6)), some x4, un16, [m]) := by kernel_rfl
end K04
set_option Elab.async false
set_option linter.all false
set_option maxRecDepth 1000000
set_option maxHeartbeats 0
namespace K04
open Xt PySem
def in14 (script x2 x3 x4 x5 x6 x7 x8 x9 x10 x11 : Dv) (small : Int) (B : List PyData) (x14 x15 : Dv) : Slots := [script, .r 0, x2, x3, x4, x5, x6, x7, x8, x9, x10, x11, dI small, .g (.list B), x14, x15]
def hpE : Slots → Co Dv := cB (pureC (F_q_heaps 40)) (ac (sl 10) (ac (lrg2 (kk (.int 1)) (b2 addD (sl 12) (kk (.int 1)))) ac0))
def pkE : Slots → Co Dv := cB (trimC (F_q_pick 40)) (ac (sl 1) (ac hpE ac0))
def bd14 : Slots → Co Fl := (sq (asg (mdF ctF (sl 13) pkE) (tN 14))
    (sq (ifs (tnt (trV (cB (pureC (F_q_alike 40)) (ac (cB (pureC (F_q_two 40)) (ac (cB (pureC (F_shape_choices 40)) (ac (sl 10) ac0)) ac0)) (ac (sl 14) ac0))))) (sq (ret (kk (.bool false)))
    skp) skp)
    skp))
theorem lw14_eq : lw14 40 = forX (srcS (cB (pureC (F_q_shapes 40)) (ac (sl 12) ac0))) (tN 10) bd14 := rfl
def rgL (small : Int) : List PyData := (List.range small.toNat).map fun (i : Nat) => .int ((i : Int) + 1)
def hit (B : List PyData) (cnt : Nat) (h : PyData) : Bool := inOk h B && Nat.beq (B.countP fun z => PyData.eqv z h) cnt
def good (small : Int) (B : List PyData) (s : PyData) : Prop := ∃ HS : List PyData, ∃ ch : Int, ∃ cnt : Nat,
  F_q_heaps 40 [.g s, .g (.list (rgL small))] [] = .ok (.g (.list HS)) [] ∧ Nat.blt 0 HS.length = true ∧ Nat.ble HS.length 1000 = true ∧ HS.all (hit B cnt) = true ∧ F_shape_choices 40 [.g s] [] = .ok (dI ch) [] ∧ F_q_two 40 [dI ch] [] = .ok (dI cnt) [] ∧ F_q_alike 40 [dI cnt, dI cnt] [] = .ok (vB true) []
theorem ct_ok {B : List PyData} {cnt : Nat} {h : PyData} {g : Slots → Co Dv} {ρ : Slots} {M M' : Mem} (hB : sl 13 ρ M = .ok (.g (.list B)) M) (hg : g ρ M = .ok (.g h) M') (hh : hit B cnt h = true) : mdF ctF (sl 13) g ρ M = .ok (dI cnt) M' := by
  obtain ⟨h1, h2⟩ := Bool.and_eq_true_iff.mp hh
  have h3 : (B.countP fun z => PyData.eqv z h) = cnt := Nat.eq_of_beq_eq_true h2
  refine (bnd_ok2 hB).trans ((bnd_ok2 (x := PyData.list B) (M' := M) rfl).trans ((bnd_ok2 (x := B) (M' := M) rfl).trans ((bnd_ok2 hg).trans ((bnd_ok2 (x := PyData.list B) (M' := M') rfl).trans ((bnd_ok2 (x := h) (M' := M') rfl).trans ((bnd_ok2 (x := B) (M' := M') rfl).trans ?_))))))
  unfold chk
  rw [h1]
  show rt (dI ((B.countP fun z => PyData.eqv z h : Nat) : Int)) M' = _
  rw [h3]
  rfl
theorem bd14_ok {ns : List Int} {m : MO} (hm : Row ns m) (script x2 x3 x4 x5 x6 x7 x8 x9 x11 x14 x15 : Dv) (small : Int) (B : List PyData) (s : PyData) (hg : good small B s)
    (hR : ∀ x10, lrg2 (kk (.int 1)) (b2 addD (sl 12) (kk (.int 1))) (in14 script x2 x3 x4 x5 x6 x7 x8 x9 x10 x11 small B x14 x15) [m] = .ok (.g (.list (rgL small))) [m]) :
    ∃ y14 m', Row ns m' ∧ bd14 (in14 script x2 x3 x4 x5 x6 x7 x8 x9 (.g s) x11 small B x14 x15) [m] = .ok (.nx (in14 script x2 x3 x4 x5 x6 x7 x8 x9 (.g s) x11 small B y14 x15)) [m'] := by
  obtain ⟨HS, ch, cnt, g1, g2, g3, g4, g5, g6, g7⟩ := hg
  obtain ⟨h, m', hx, r', e⟩ := pkR 38 HS [] rfl (by simpa using g2) (by simpa using g3) hm
  have q1 : hpE (in14 script x2 x3 x4 x5 x6 x7 x8 x9 (.g s) x11 small B x14 x15) [m] = .ok (.g (.list HS)) [m] :=
by
    have q : ac (sl 10) (ac (lrg2 (kk (.int 1)) (b2 addD (sl 12) (kk (.int 1)))) ac0) (in14 script x2 x3 x4 x5 x6 x7 x8 x9 (.g s) x11 small B x14 x15) [m] = .ok [.g s, .g (.list (rgL small))] [m] := ac_ok (M1 := [m]) rfl (ac_ok (hR (.g s)) rfl)
    exact (bnd_ok2 q).trans (pure_ok (xs := [s, .list (rgL small)]) [m] g1)
  have q2 : pkE (in14 script x2 x3 x4 x5 x6 x7 x8 x9 (.g s) x11 small B x14 x15) [m] = .ok (.g h) [m'] :=
by
    have q : ac (sl 1) (ac hpE ac0) (in14 script x2 x3 x4 x5 x6 x7 x8 x9 (.g s) x11 small B x14 x15) [m] = .ok [.r 0, .g (.list HS)] [m] := ac_ok (M1 := [m]) rfl (ac_ok q1 rfl)
    exact (bnd_ok2 q).trans e
  have q3 := ct_ok (cnt := cnt) (B := B) (M := [m]) (ρ := in14 script x2 x3 x4 x5 x6 x7 x8 x9 (.g s) x11 small B x14 x15) rfl q2 (List.all_eq_true.mp g4 h hx)
  have q4 : (cB (pureC (F_q_two 40)) (ac (cB (pureC (F_shape_choices 40)) (ac (sl 10) ac0)) ac0)) (in14 script x2 x3 x4 x5 x6 x7 x8 x9 (.g s) x11 small B (dI cnt) x15) [m'] = .ok (dI cnt) [m'] :=
by
    have q0 : (cB (pureC (F_shape_choices 40)) (ac (sl 10) ac0)) (in14 script x2 x3 x4 x5 x6 x7 x8 x9 (.g s) x11 small B (dI cnt) x15) [m'] = .ok (dI ch) [m'] := pure_ok (xs := [s]) [m'] g5
    have q : ac (cB (pureC (F_shape_choices 40)) (ac (sl 10) ac0)) ac0 (in14 script x2 x3 x4 x5 x6 x7 x8 x9 (.g s) x11 small B (dI cnt) x15) [m'] = .ok [dI ch] [m'] := ac_ok q0 rfl
    exact (bnd_ok2 q).trans (pure_ok (xs := [.int ch]) [m'] g6)
  have q5 : (cB (pureC (F_q_alike 40)) (ac (cB (pureC (F_q_two 40)) (ac (cB (pureC (F_shape_choices 40)) (ac (sl 10) ac0)) ac0)) (ac (sl 14) ac0))) (in14 script x2 x3 x4 x5 x6 x7 x8 x9 (.g s) x11 small B (dI cnt) x15) [m'] = .ok (vB true) [m'] :=
by
    have q : ac (cB (pureC (F_q_two 40)) (ac (cB (pureC (F_shape_choices 40)) (ac (sl 10) ac0)) ac0)) (ac (sl 14) ac0) (in14 script x2 x3 x4 x5 x6 x7 x8 x9 (.g s) x11 small B (dI cnt) x15) [m'] = .ok [dI cnt, dI cnt] [m'] := ac_ok q4 (ac_ok (M1 := [m']) rfl rfl)
    exact (bnd_ok2 q).trans (pure_ok (xs := [.int cnt, .int cnt]) [m'] g7)
  refine ⟨dI cnt, m', r', ?_⟩
  refine (sq_nx (ρ' := in14 script x2 x3 x4 x5 x6 x7 x8 x9 (.g s) x11 small B (dI cnt) x15) (M' := [m']) ((bnd_ok2 q3).trans rfl)).trans ?_
  exact (sq_nx (ρ' := in14 script x2 x3 x4 x5 x6 x7 x8 x9 (.g s) x11 small B (dI cnt) x15) (M' := [m']) ((ifs_f (tnt_b (trV_b q5))).trans rfl)).trans rfl
theorem loop14 {ns : List Int} (script x2 x3 x4 x5 x6 x7 x8 x9 x11 x15 : Dv) (small : Int) (B : List PyData)
    (hR : ∀ x10 x14 m, lrg2 (kk (.int 1)) (b2 addD (sl 12) (kk (.int 1))) (in14 script x2 x3 x4 x5 x6 x7 x8 x9 x10 x11 small B x14 x15) [m] = .ok (.g (.list (rgL small))) [m]) :
    ∀ (l : List PyData) (x10 x14 : Dv) (m : MO), (∀ s ∈ l, good small B s) → Row ns m →
    ∃ y10 y14 m', Row ns m' ∧ forL (tN 10) bd14 (l.map Dv.g) (in14 script x2 x3 x4 x5 x6 x7 x8 x9 x10 x11 small B x14 x15) [m] = .ok (.nx (in14 script x2 x3 x4 x5 x6 x7 x8 x9 y10 x11 small B y14 x15)) [m']
  | [], x10, x14, m, _, hm => ⟨x10, x14, m, hm, rfl⟩
  | s :: l, x10, x14, m, hg, hm => by
    obtain ⟨y, m1, r1, e1⟩ := bd14_ok hm script x2 x3 x4 x5 x6 x7 x8 x9 x11 x14 x15 small B s (hg s (List.mem_cons_self ..)) (fun _ => hR _ _ _)
    obtain ⟨y5, y6, m2, r2, e2⟩ := loop14 script x2 x3 x4 x5 x6 x7 x8 x9 x11 x15 small B hR l (.g s) y m1 (fun s h => hg s (List.mem_cons_of_mem _ h)) r1
    exact ⟨y5, y6, m2, r2, (bnd_ok2 (x := in14 script x2 x3 x4 x5 x6 x7 x8 x9 (.g s) x11 small B x14 x15) (M' := [m]) rfl).trans ((bnd_ok2 e1).trans e2)⟩
theorem lw14_ok {ns : List Int} (script x2 x3 x4 x5 x6 x7 x8 x9 x10 x11 x14 x15 : Dv) (small : Int) (B L : List PyData) (m : MO) (hm : Row ns m)
    (hR : ∀ x10 x14 m, lrg2 (kk (.int 1)) (b2 addD (sl 12) (kk (.int 1))) (in14 script x2 x3 x4 x5 x6 x7 x8 x9 x10 x11 small B x14 x15) [m] = .ok (.g (.list (rgL small))) [m])
    (hL : F_q_shapes 40 [dI small] [] = .ok (.g (.list L)) []) (hg : ∀ s ∈ L, good small B s) :
    ∃ y10 y14 m', Row ns m' ∧ lw14 40 (in14 script x2 x3 x4 x5 x6 x7 x8 x9 x10 x11 small B x14 x15) [m] = .ok (.nx (in14 script x2 x3 x4 x5 x6 x7 x8 x9 y10 x11 small B y14 x15)) [m'] := by
  obtain ⟨y10, y14, m', r, e⟩ := loop14 script x2 x3 x4 x5 x6 x7 x8 x9 x11 x15 small B hR L x10 x14 m hg hm
  refine ⟨y10, y14, m', r, ?_⟩
  rw [lw14_eq]
  have q0 : (cB (pureC (F_q_shapes 40)) (ac (sl 12) ac0)) (in14 script x2 x3 x4 x5 x6 x7 x8 x9 x10 x11 small B x14 x15) [m] = .ok (.g (.list L)) [m] := pure_ok (xs := [.int small]) [m] hL
  have q : srcS (cB (pureC (F_q_shapes 40)) (ac (sl 12) ac0)) (in14 script x2 x3 x4 x5 x6 x7 x8 x9 x10 x11 small B x14 x15) [m] = .ok (L.map Dv.g) [m] := (bnd_ok2 q0).trans rfl
  show bnd (srcS (cB (pureC (F_q_shapes 40)) (ac (sl 12) ac0)) (in14 script x2 x3 x4 x5 x6 x7 x8 x9 x10 x11 small B x14 x15)) (fun ds => forL (tN 10) bd14 ds (in14 script x2 x3 x4 x5 x6 x7 x8 x9 x10 x11 small B x14 x15)) [m] = _
  exact (bnd_ok2 q).trans e
end K04
set_option Elab.async false
set_option linter.all false
set_option maxRecDepth 1000000
set_option maxHeartbeats 0
namespace K04
open Xt PySem
def B0 : List PyData := [.none]
theorem tB0 (script x2 x3 x4 x5 x6 x7 x8 x9 x10 x11 x13 x14 x15 : Dv) (m : MO) : lw13 40 [script, .r 0, x2, x3, x4, x5, x6, x7, x8, x9, x10, x11, dI 0, x13, x14, x15] [m] = .ok (.nx (in14 script x2 x3 x4 x5 x6 x7 x8 x9 x10 x11 0 B0 x14 x15)) [m] := by kernel_rfl
theorem rg0 (script x2 x3 x4 x5 x6 x7 x8 x9 x10 x11 x14 x15 : Dv) (m : MO) : lrg2 (kk (.int 1)) (b2 addD (sl 12) (kk (.int 1))) (in14 script x2 x3 x4 x5 x6 x7 x8 x9 x10 x11 0 B0 x14 x15) [m] = .ok (.g (.list (rgL 0))) [m] := by kernel_rfl
def H0_0 : List PyData := [.none]
theorem g0_0 : good 0 B0 (.none) := ⟨H0_0, 0, 1, by kernel_rfl, by kernel_rfl, by kernel_rfl, by kernel_rfl, by kernel_rfl, by kernel_rfl, by kernel_rfl⟩
theorem gl0 : ∀ s ∈ L0, good 0 B0 s := by
  intro s hs
  have c : s = .none := by simpa [L0] using hs
  rcases c with rfl
  · exact g0_0
def B1 : List PyData := [.tuple [.int 1, .none, .none]]
theorem tB1 (script x2 x3 x4 x5 x6 x7 x8 x9 x10 x11 x13 x14 x15 : Dv) (m : MO) : lw13 40 [script, .r 0, x2, x3, x4, x5, x6, x7, x8, x9, x10, x11, dI 1, x13, x14, x15] [m] = .ok (.nx (in14 script x2 x3 x4 x5 x6 x7 x8 x9 x10 x11 1 B1 x14 x15)) [m] := by kernel_rfl
theorem rg1 (script x2 x3 x4 x5 x6 x7 x8 x9 x10 x11 x14 x15 : Dv) (m : MO) : lrg2 (kk (.int 1)) (b2 addD (sl 12) (kk (.int 1))) (in14 script x2 x3 x4 x5 x6 x7 x8 x9 x10 x11 1 B1 x14 x15) [m] = .ok (.g (.list (rgL 1))) [m] := by kernel_rfl
def H1_0 : List PyData := [.tuple [.int 1, .none, .none]]
theorem g1_0 : good 1 B1 (.tuple [.none, .none]) := ⟨H1_0, 0, 1, by kernel_rfl, by kernel_rfl, by kernel_rfl, by kernel_rfl, by kernel_rfl, by kernel_rfl, by kernel_rfl⟩
theorem gl1 : ∀ s ∈ L1, good 1 B1 s := by
  intro s hs
  have c : s = .tuple [.none, .none] := by simpa [L1] using hs
  rcases c with rfl
  · exact g1_0
def B2 : List PyData := [.tuple [.int 1, .tuple [.int 2, .none, .none], .none], .tuple [.int 1, .tuple [.int 2, .none, .none], .none]]
theorem tB2 (script x2 x3 x4 x5 x6 x7 x8 x9 x10 x11 x13 x14 x15 : Dv) (m : MO) : lw13 40 [script, .r 0, x2, x3, x4, x5, x6, x7, x8, x9, x10, x11, dI 2, x13, x14, x15] [m] = .ok (.nx (in14 script x2 x3 x4 x5 x6 x7 x8 x9 x10 x11 2 B2 x14 x15)) [m] := by kernel_rfl
theorem rg2 (script x2 x3 x4 x5 x6 x7 x8 x9 x10 x11 x14 x15 : Dv) (m : MO) : lrg2 (kk (.int 1)) (b2 addD (sl 12) (kk (.int 1))) (in14 script x2 x3 x4 x5 x6 x7 x8 x9 x10 x11 2 B2 x14 x15) [m] = .ok (.g (.list (rgL 2))) [m] := by kernel_rfl
def H2_0 : List PyData := [.tuple [.int 1, .tuple [.int 2, .none, .none], .none]]
theorem g2_0 : good 2 B2 (.tuple [.tuple [.none, .none], .none]) := ⟨H2_0, 1, 2, by kernel_rfl, by kernel_rfl, by kernel_rfl, by kernel_rfl, by kernel_rfl, by kernel_rfl, by kernel_rfl⟩
theorem gl2 : ∀ s ∈ L2, good 2 B2 s := by
  intro s hs
  have c : s = .tuple [.tuple [.none, .none], .none] := by simpa [L2] using hs
  rcases c with rfl
  · exact g2_0
def B3 : List PyData := [.tuple [.int 1, .tuple [.int 3, .none, .none], .tuple [.int 2, .none, .none]], .tuple [.int 1, .tuple [.int 2, .none, .none], .tuple [.int 3, .none, .none]], .tuple [.int 1, .tuple [.int 3, .none, .none], .tuple [.int 2, .none, .none]], .tuple [.int 1, .tuple [.int 2, .tuple [.int 3, .none, .none], .none], .none], .tuple [.int 1, .tuple [.int 2, .none, .none], .tuple [.int 3, .none, .none]], .tuple [.int 1, .tuple [.int 2, .tuple [.int 3, .none, .none], .none], .none]]
theorem tB3 (script x2 x3 x4 x5 x6 x7 x8 x9 x10 x11 x13 x14 x15 : Dv) (m : MO) : lw13 40 [script, .r 0, x2, x3, x4, x5, x6, x7, x8, x9, x10, x11, dI 3, x13, x14, x15] [m] = .ok (.nx (in14 script x2 x3 x4 x5 x6 x7 x8 x9 x10 x11 3 B3 x14 x15)) [m] := by kernel_rfl
theorem rg3 (script x2 x3 x4 x5 x6 x7 x8 x9 x10 x11 x14 x15 : Dv) (m : MO) : lrg2 (kk (.int 1)) (b2 addD (sl 12) (kk (.int 1))) (in14 script x2 x3 x4 x5 x6 x7 x8 x9 x10 x11 3 B3 x14 x15) [m] = .ok (.g (.list (rgL 3))) [m] := by kernel_rfl
def H3_0 : List PyData := [.tuple [.int 1, .tuple [.int 2, .tuple [.int 3, .none, .none], .none], .none]]
theorem g3_0 : good 3 B3 (.tuple [.tuple [.tuple [.none, .none], .none], .none]) := ⟨H3_0, 1, 2, by kernel_rfl, by kernel_rfl, by kernel_rfl, by kernel_rfl, by kernel_rfl, by kernel_rfl, by kernel_rfl⟩
def H3_1 : List PyData := [.tuple [.int 1, .tuple [.int 2, .none, .none], .tuple [.int 3, .none, .none]], .tuple [.int 1, .tuple [.int 3, .none, .none], .tuple [.int 2, .none, .none]]]
theorem g3_1 : good 3 B3 (.tuple [.tuple [.none, .none], .tuple [.none, .none]]) := ⟨H3_1, 1, 2, by kernel_rfl, by kernel_rfl, by kernel_rfl, by kernel_rfl, by kernel_rfl, by kernel_rfl, by kernel_rfl⟩
theorem gl3 : ∀ s ∈ L3, good 3 B3 s := by
  intro s hs
  have c : s = .tuple [.tuple [.tuple [.none, .none], .none], .none] ∨ s = .tuple [.tuple [.none, .none], .tuple [.none, .none]] := by simpa [L3] using hs
  rcases c with rfl | rfl
  · exact g3_0
  · exact g3_1
def B4 : List PyData := [.tuple [.int 1, .tuple [.int 2, .tuple [.int 4, .none, .none], .none], .tuple [.int 3, .none, .none]], .tuple [.int 1, .tuple [.int 2, .tuple [.int 3, .none, .none], .none], .tuple [.int 4, .none, .none]], .tuple [.int 1, .tuple [.int 3, .tuple [.int 4, .none, .none], .none], .tuple [.int 2, .none, .none]], .tuple [.int 1, .tuple [.int 2, .tuple [.int 3, .none, .none], .none], .tuple [.int 4, .none, .none]], .tuple [.int 1, .tuple [.int 3, .tuple [.int 4, .none, .none], .none], .tuple [.int 2, .none, .none]], .tuple [.int 1, .tuple [.int 2, .tuple [.int 4, .none, .none], .none], .tuple [.int 3, .none, .none]], .tuple [.int 1, .tuple [.int 2, .tuple [.int 4, .none, .none], .none], .tuple [.int 3, .none, .none]], .tuple [.int 1, .tuple [.int 2, .tuple [.int 3, .none, .none], .none], .tuple [.int 4, .none, .none]], .tuple [.int 1, .tuple [.int 4, .none, .none], .tuple [.int 2, .tuple [.int 3, .none, .none], .none]], .tuple [.int 1, .tuple [.int 2, .tuple [.int 4, .none, .none], .tuple [.int 3, .none, .none]], .none], .tuple [.int 1, .tuple [.int 3, .none, .none], .tuple [.int 2, .tuple [.int 4, .none, .none], .none]], .tuple [.int 1, .tuple [.int 2, .tuple [.int 3, .none, .none], .tuple [.int 4, .none, .none]], .none], .tuple [.int 1, .tuple [.int 3, .tuple [.int 4, .none, .none], .none], .tuple [.int 2, .none, .none]], .tuple [.int 1, .tuple [.int 2, .tuple [.int 3, .none, .none], .none], .tuple [.int 4, .none, .none]], .tuple [.int 1, .tuple [.int 4, .none, .none], .tuple [.int 2, .tuple [.int 3, .none, .none], .none]], .tuple [.int 1, .tuple [.int 2, .tuple [.int 4, .none, .none], .tuple [.int 3, .none, .none]], .none], .tuple [.int 1, .tuple [.int 2, .none, .none], .tuple [.int 3, .tuple [.int 4, .none, .none], .none]], .tuple [.int 1, .tuple [.int 2, .tuple [.int 3, .tuple [.int 4, .none, .none], .none], .none], .none], .tuple [.int 1, .tuple [.int 3, .tuple [.int 4, .none, .none], .none], .tuple [.int 2, .none, .none]], .tuple [.int 1, .tuple [.int 2, .tuple [.int 4, .none, .none], .none], .tuple [.int 3, .none, .none]], .tuple [.int 1, .tuple [.int 3, .none, .none], .tuple [.int 2, .tuple [.int 4, .none, .none], .none]], .tuple [.int 1, .tuple [.int 2, .tuple [.int 3, .none, .none], .tuple [.int 4, .none, .none]], .none], .tuple [.int 1, .tuple [.int 2, .none, .none], .tuple [.int 3, .tuple [.int 4, .none, .none], .none]], .tuple [.int 1, .tuple [.int 2, .tuple [.int 3, .tuple [.int 4, .none, .none], .none], .none], .none]]
theorem tB4 (script x2 x3 x4 x5 x6 x7 x8 x9 x10 x11 x13 x14 x15 : Dv) (m : MO) : lw13 40 [script, .r 0, x2, x3, x4, x5, x6, x7, x8, x9, x10, x11, dI 4, x13, x14, x15] [m] = .ok (.nx (in14 script x2 x3 x4 x5 x6 x7 x8 x9 x10 x11 4 B4 x14 x15)) [m] := by kernel_rfl
theorem rg4 (script x2 x3 x4 x5 x6 x7 x8 x9 x10 x11 x14 x15 : Dv) (m : MO) : lrg2 (kk (.int 1)) (b2 addD (sl 12) (kk (.int 1))) (in14 script x2 x3 x4 x5 x6 x7 x8 x9 x10 x11 4 B4 x14 x15) [m] = .ok (.g (.list (rgL 4))) [m] := by kernel_rfl
def H4_0 : List PyData := [.tuple [.int 1, .tuple [.int 2, .tuple [.int 3, .tuple [.int 4, .none, .none], .none], .none], .none]]
theorem g4_0 : good 4 B4 (.tuple [.tuple [.tuple [.tuple [.none, .none], .none], .none], .none]) := ⟨H4_0, 1, 2, by kernel_rfl, by kernel_rfl, by kernel_rfl, by kernel_rfl, by kernel_rfl, by kernel_rfl, by kernel_rfl⟩
def H4_1 : List PyData := [.tuple [.int 1, .tuple [.int 2, .tuple [.int 3, .none, .none], .tuple [.int 4, .none, .none]], .none], .tuple [.int 1, .tuple [.int 2, .tuple [.int 4, .none, .none], .tuple [.int 3, .none, .none]], .none]]
theorem g4_1 : good 4 B4 (.tuple [.tuple [.tuple [.none, .none], .tuple [.none, .none]], .none]) := ⟨H4_1, 1, 2, by kernel_rfl, by kernel_rfl, by kernel_rfl, by kernel_rfl, by kernel_rfl, by kernel_rfl, by kernel_rfl⟩
def H4_2 : List PyData := [.tuple [.int 1, .tuple [.int 2, .tuple [.int 3, .none, .none], .none], .tuple [.int 4, .none, .none]], .tuple [.int 1, .tuple [.int 2, .tuple [.int 4, .none, .none], .none], .tuple [.int 3, .none, .none]], .tuple [.int 1, .tuple [.int 3, .tuple [.int 4, .none, .none], .none], .tuple [.int 2, .none, .none]]]
theorem g4_2 : good 4 B4 (.tuple [.tuple [.tuple [.none, .none], .none], .tuple [.none, .none]]) := ⟨H4_2, 2, 4, by kernel_rfl, by kernel_rfl, by kernel_rfl, by kernel_rfl, by kernel_rfl, by kernel_rfl, by kernel_rfl⟩
def H4_3 : List PyData := [.tuple [.int 1, .tuple [.int 2, .none, .none], .tuple [.int 3, .tuple [.int 4, .none, .none], .none]], .tuple [.int 1, .tuple [.int 3, .none, .none], .tuple [.int 2, .tuple [.int 4, .none, .none], .none]], .tuple [.int 1, .tuple [.int 4, .none, .none], .tuple [.int 2, .tuple [.int 3, .none, .none], .none]]]
theorem g4_3 : good 4 B4 (.tuple [.tuple [.none, .none], .tuple [.tuple [.none, .none], .none]]) := ⟨H4_3, 1, 2, by kernel_rfl, by kernel_rfl, by kernel_rfl, by kernel_rfl, by kernel_rfl, by kernel_rfl, by kernel_rfl⟩
theorem gl4 : ∀ s ∈ L4, good 4 B4 s := by
  intro s hs
  have c : s = .tuple [.tuple [.tuple [.tuple [.none, .none], .none], .none], .none] ∨ s = .tuple [.tuple [.tuple [.none, .none], .tuple [.none, .none]], .none] ∨ s = .tuple [.tuple [.tuple [.none, .none], .none], .tuple [.none, .none]] ∨ s = .tuple [.tuple [.none, .none], .tuple [.tuple [.none, .none], .none]] := by simpa [L4] using hs
  rcases c with rfl | rfl | rfl | rfl
  · exact g4_0
  · exact g4_1
  · exact g4_2
  · exact g4_3
def B5 : List PyData := [.tuple [.int 1, .tuple [.int 3, .tuple [.int 5, .none, .none], .none], .tuple [.int 2, .tuple [.int 4, .none, .none], .none]], .tuple [.int 1, .tuple [.int 3, .tuple [.int 4, .none, .none], .none], .tuple [.int 2, .tuple [.int 5, .none, .none], .none]], .tuple [.int 1, .tuple [.int 4, .tuple [.int 5, .none, .none], .none], .tuple [.int 2, .tuple [.int 3, .none, .none], .none]], .tuple [.int 1, .tuple [.int 3, .tuple [.int 4, .none, .none], .none], .tuple [.int 2, .tuple [.int 5, .none, .none], .none]], .tuple [.int 1, .tuple [.int 4, .tuple [.int 5, .none, .none], .none], .tuple [.int 2, .tuple [.int 3, .none, .none], .none]], .tuple [.int 1, .tuple [.int 3, .tuple [.int 5, .none, .none], .none], .tuple [.int 2, .tuple [.int 4, .none, .none], .none]], .tuple [.int 1, .tuple [.int 2, .tuple [.int 5, .none, .none], .none], .tuple [.int 3, .tuple [.int 4, .none, .none], .none]], .tuple [.int 1, .tuple [.int 2, .tuple [.int 4, .none, .none], .none], .tuple [.int 3, .tuple [.int 5, .none, .none], .none]], .tuple [.int 1, .tuple [.int 4, .tuple [.int 5, .none, .none], .none], .tuple [.int 2, .tuple [.int 3, .none, .none], .none]], .tuple [.int 1, .tuple [.int 2, .tuple [.int 4, .none, .none], .none], .tuple [.int 3, .tuple [.int 5, .none, .none], .none]], .tuple [.int 1, .tuple [.int 4, .tuple [.int 5, .none, .none], .none], .tuple [.int 2, .tuple [.int 3, .none, .none], .none]], .tuple [.int 1, .tuple [.int 2, .tuple [.int 5, .none, .none], .none], .tuple [.int 3, .tuple [.int 4, .none, .none], .none]], .tuple [.int 1, .tuple [.int 2, .tuple [.int 5, .none, .none], .none], .tuple [.int 3, .tuple [.int 4, .none, .none], .none]], .tuple [.int 1, .tuple [.int 2, .tuple [.int 3, .none, .none], .none], .tuple [.int 4, .tuple [.int 5, .none, .none], .none]], .tuple [.int 1, .tuple [.int 3, .tuple [.int 5, .none, .none], .none], .tuple [.int 2, .tuple [.int 4, .none, .none], .none]], .tuple [.int 1, .tuple [.int 2, .tuple [.int 3, .none, .none], .none], .tuple [.int 4, .tuple [.int 5, .none, .none], .none]], .tuple [.int 1, .tuple [.int 3, .tuple [.int 5, .none, .none], .none], .tuple [.int 2, .tuple [.int 4, .none, .none], .none]], .tuple [.int 1, .tuple [.int 2, .tuple [.int 5, .none, .none], .none], .tuple [.int 3, .tuple [.int 4, .none, .none], .none]], .tuple [.int 1, .tuple [.int 2, .tuple [.int 4, .none, .none], .none], .tuple [.int 3, .tuple [.int 5, .none, .none], .none]], .tuple [.int 1, .tuple [.int 2, .tuple [.int 3, .none, .none], .none], .tuple [.int 4, .tuple [.int 5, .none, .none], .none]], .tuple [.int 1, .tuple [.int 3, .tuple [.int 4, .none, .none], .none], .tuple [.int 2, .tuple [.int 5, .none, .none], .none]], .tuple [.int 1, .tuple [.int 2, .tuple [.int 3, .none, .none], .none], .tuple [.int 4, .tuple [.int 5, .none, .none], .none]], .tuple [.int 1, .tuple [.int 3, .tuple [.int 4, .none, .none], .none], .tuple [.int 2, .tuple [.int 5, .none, .none], .none]], .tuple [.int 1, .tuple [.int 2, .tuple [.int 4, .none, .none], .none], .tuple [.int 3, .tuple [.int 5, .none, .none], .none]], .tuple [.int 1, .tuple [.int 3, .tuple [.int 5, .none, .none], .none], .tuple [.int 2, .tuple [.int 4, .none, .none], .none]], .tuple [.int 1, .tuple [.int 3, .tuple [.int 4, .none, .none], .none], .tuple [.int 2, .tuple [.int 5, .none, .none], .none]], .tuple [.int 1, .tuple [.int 4, .tuple [.int 5, .none, .none], .none], .tuple [.int 2, .tuple [.int 3, .none, .none], .none]], .tuple [.int 1, .tuple [.int 3, .tuple [.int 4, .none, .none], .none], .tuple [.int 2, .tuple [.int 5, .none, .none], .none]], .tuple [.int 1, .tuple [.int 4, .tuple [.int 5, .none, .none], .none], .tuple [.int 2, .tuple [.int 3, .none, .none], .none]], .tuple [.int 1, .tuple [.int 3, .tuple [.int 5, .none, .none], .none], .tuple [.int 2, .tuple [.int 4, .none, .none], .none]], .tuple [.int 1, .tuple [.int 2, .tuple [.int 5, .none, .none], .tuple [.int 3, .none, .none]], .tuple [.int 4, .none, .none]], .tuple [.int 1, .tuple [.int 2, .tuple [.int 4, .none, .none], .tuple [.int 3, .none, .none]], .tuple [.int 5, .none, .none]], .tuple [.int 1, .tuple [.int 5, .none, .none], .tuple [.int 2, .tuple [.int 4, .none, .none], .tuple [.int 3, .none, .none]]], .tuple [.int 1, .tuple [.int 2, .tuple [.int 3, .tuple [.int 5, .none, .none], .none], .tuple [.int 4, .none, .none]], .none], .tuple [.int 1, .tuple [.int 4, .none, .none], .tuple [.int 2, .tuple [.int 5, .none, .none], .tuple [.int 3, .none, .none]]], .tuple [.int 1, .tuple [.int 2, .tuple [.int 3, .tuple [.int 4, .none, .none], .none], .tuple [.int 5, .none, .none]], .none], .tuple [.int 1, .tuple [.int 2, .tuple [.int 5, .none, .none], .tuple [.int 4, .none, .none]], .tuple [.int 3, .none, .none]], .tuple [.int 1, .tuple [.int 2, .tuple [.int 3, .none, .none], .tuple [.int 4, .none, .none]], .tuple [.int 5, .none, .none]], .tuple [.int 1, .tuple [.int 5, .none, .none], .tuple [.int 2, .tuple [.int 3, .none, .none], .tuple [.int 4, .none, .none]]], .tuple [.int 1, .tuple [.int 2, .tuple [.int 4, .tuple [.int 5, .none, .none], .none], .tuple [.int 3, .none, .none]], .none], .tuple [.int 1, .tuple [.int 3, .none, .none], .tuple [.int 2, .tuple [.int 5, .none, .none], .tuple [.int 4, .none, .none]]], .tuple [.int 1, .tuple [.int 2, .tuple [.int 3, .tuple [.int 4, .none, .none], .none], .tuple [.int 5, .none, .none]], .none], .tuple [.int 1, .tuple [.int 2, .tuple [.int 4, .none, .none], .tuple [.int 5, .none, .none]], .tuple [.int 3, .none, .none]], .tuple [.int 1, .tuple [.int 2, .tuple [.int 3, .none, .none], .tuple [.int 5, .none, .none]], .tuple [.int 4, .none, .none]], .tuple [.int 1, .tuple [.int 4, .none, .none], .tuple [.int 2, .tuple [.int 3, .none, .none], .tuple [.int 5, .none, .none]]], .tuple [.int 1, .tuple [.int 2, .tuple [.int 4, .tuple [.int 5, .none, .none], .none], .tuple [.int 3, .none, .none]], .none], .tuple [.int 1, .tuple [.int 3, .none, .none], .tuple [.int 2, .tuple [.int 4, .none, .none], .tuple [.int 5, .none, .none]]], .tuple [.int 1, .tuple [.int 2, .tuple [.int 3, .tuple [.int 5, .none, .none], .none], .tuple [.int 4, .none, .none]], .none], .tuple [.int 1, .tuple [.int 2, .tuple [.int 5, .none, .none], .none], .tuple [.int 3, .tuple [.int 4, .none, .none], .none]], .tuple [.int 1, .tuple [.int 2, .tuple [.int 4, .none, .none], .none], .tuple [.int 3, .tuple [.int 5, .none, .none], .none]], .tuple [.int 1, .tuple [.int 4, .tuple [.int 5, .none, .none], .none], .tuple [.int 2, .tuple [.int 3, .none, .none], .none]], .tuple [.int 1, .tuple [.int 2, .tuple [.int 4, .none, .none], .none], .tuple [.int 3, .tuple [.int 5, .none, .none], .none]], .tuple [.int 1, .tuple [.int 4, .tuple [.int 5, .none, .none], .none], .tuple [.int 2, .tuple [.int 3, .none, .none], .none]], .tuple [.int 1, .tuple [.int 2, .tuple [.int 5, .none, .none], .none], .tuple [.int 3, .tuple [.int 4, .none, .none], .none]], .tuple [.int 1, .tuple [.int 2, .tuple [.int 5, .none, .none], .tuple [.int 3, .none, .none]], .tuple [.int 4, .none, .none]], .tuple [.int 1, .tuple [.int 2, .tuple [.int 4, .none, .none], .tuple [.int 3, .none, .none]], .tuple [.int 5, .none, .none]], .tuple [.int 1, .tuple [.int 5, .none, .none], .tuple [.int 2, .tuple [.int 4, .none, .none], .tuple [.int 3, .none, .none]]], .tuple [.int 1, .tuple [.int 2, .tuple [.int 3, .tuple [.int 5, .none, .none], .none], .tuple [.int 4, .none, .none]], .none], .tuple [.int 1, .tuple [.int 4, .none, .none], .tuple [.int 2, .tuple [.int 5, .none, .none], .tuple [.int 3, .none, .none]]], .tuple [.int 1, .tuple [.int 2, .tuple [.int 3, .tuple [.int 4, .none, .none], .none], .tuple [.int 5, .none, .none]], .none], .tuple [.int 1, .tuple [.int 3, .tuple [.int 5, .none, .none], .tuple [.int 4, .none, .none]], .tuple [.int 2, .none, .none]], .tuple [.int 1, .tuple [.int 2, .tuple [.int 3, .tuple [.int 4, .none, .none], .none], .none], .tuple [.int 5, .none, .none]], .tuple [.int 1, .tuple [.int 5, .none, .none], .tuple [.int 2, .tuple [.int 3, .tuple [.int 4, .none, .none], .none], .none]], .tuple [.int 1, .tuple [.int 2, .tuple [.int 5, .none, .none], .tuple [.int 3, .tuple [.int 4, .none, .none], .none]], .none], .tuple [.int 1, .tuple [.int 2, .none, .none], .tuple [.int 3, .tuple [.int 5, .none, .none], .tuple [.int 4, .none, .none]]], .tuple [.int 1, .tuple [.int 2, .tuple [.int 3, .tuple [.int 5, .none, .none], .tuple [.int 4, .none, .none]], .none], .none], .tuple [.int 1, .tuple [.int 3, .tuple [.int 4, .none, .none], .tuple [.int 5, .none, .none]], .tuple [.int 2, .none, .none]], .tuple [.int 1, .tuple [.int 2, .tuple [.int 3, .tuple [.int 5, .none, .none], .none], .none], .tuple [.int 4, .none, .none]], .tuple [.int 1, .tuple [.int 4, .none, .none], .tuple [.int 2, .tuple [.int 3, .tuple [.int 5, .none, .none], .none], .none]], .tuple [.int 1, .tuple [.int 2, .tuple [.int 4, .none, .none], .tuple [.int 3, .tuple [.int 5, .none, .none], .none]], .none], .tuple [.int 1, .tuple [.int 2, .none, .none], .tuple [.int 3, .tuple [.int 4, .none, .none], .tuple [.int 5, .none, .none]]], .tuple [.int 1, .tuple [.int 2, .tuple [.int 3, .tuple [.int 4, .none, .none], .tuple [.int 5, .none, .none]], .none], .none], .tuple [.int 1, .tuple [.int 2, .tuple [.int 5, .none, .none], .none], .tuple [.int 3, .tuple [.int 4, .none, .none], .none]], .tuple [.int 1, .tuple [.int 2, .tuple [.int 3, .none, .none], .none], .tuple [.int 4, .tuple [.int 5, .none, .none], .none]], .tuple [.int 1, .tuple [.int 3, .tuple [.int 5, .none, .none], .none], .tuple [.int 2, .tuple [.int 4, .none, .none], .none]], .tuple [.int 1, .tuple [.int 2, .tuple [.int 3, .none, .none], .none], .tuple [.int 4, .tuple [.int 5, .none, .none], .none]], .tuple [.int 1, .tuple [.int 3, .tuple [.int 5, .none, .none], .none], .tuple [.int 2, .tuple [.int 4, .none, .none], .none]], .tuple [.int 1, .tuple [.int 2, .tuple [.int 5, .none, .none], .none], .tuple [.int 3, .tuple [.int 4, .none, .none], .none]], .tuple [.int 1, .tuple [.int 2, .tuple [.int 5, .none, .none], .tuple [.int 4, .none, .none]], .tuple [.int 3, .none, .none]], .tuple [.int 1, .tuple [.int 2, .tuple [.int 3, .none, .none], .tuple [.int 4, .none, .none]], .tuple [.int 5, .none, .none]], .tuple [.int 1, .tuple [.int 5, .none, .none], .tuple [.int 2, .tuple [.int 3, .none, .none], .tuple [.int 4, .none, .none]]], .tuple [.int 1, .tuple [.int 2, .tuple [.int 4, .tuple [.int 5, .none, .none], .none], .tuple [.int 3, .none, .none]], .none], .tuple [.int 1, .tuple [.int 3, .none, .none], .tuple [.int 2, .tuple [.int 5, .none, .none], .tuple [.int 4, .none, .none]]], .tuple [.int 1, .tuple [.int 2, .tuple [.int 3, .tuple [.int 4, .none, .none], .none], .tuple [.int 5, .none, .none]], .none], .tuple [.int 1, .tuple [.int 3, .tuple [.int 5, .none, .none], .tuple [.int 4, .none, .none]], .tuple [.int 2, .none, .none]], .tuple [.int 1, .tuple [.int 2, .tuple [.int 3, .tuple [.int 4, .none, .none], .none], .none], .tuple [.int 5, .none, .none]], .tuple [.int 1, .tuple [.int 5, .none, .none], .tuple [.int 2, .tuple [.int 3, .tuple [.int 4, .none, .none], .none], .none]], .tuple [.int 1, .tuple [.int 2, .tuple [.int 5, .none, .none], .tuple [.int 3, .tuple [.int 4, .none, .none], .none]], .none], .tuple [.int 1, .tuple [.int 2, .none, .none], .tuple [.int 3, .tuple [.int 5, .none, .none], .tuple [.int 4, .none, .none]]], .tuple [.int 1, .tuple [.int 2, .tuple [.int 3, .tuple [.int 5, .none, .none], .tuple [.int 4, .none, .none]], .none], .none], .tuple [.int 1, .tuple [.int 3, .tuple [.int 4, .tuple [.int 5, .none, .none], .none], .none], .tuple [.int 2, .none, .none]], .tuple [.int 1, .tuple [.int 2, .tuple [.int 4, .tuple [.int 5, .none, .none], .none], .none], .tuple [.int 3, .none, .none]], .tuple [.int 1, .tuple [.int 3, .none, .none], .tuple [.int 2, .tuple [.int 4, .tuple [.int 5, .none, .none], .none], .none]], .tuple [.int 1, .tuple [.int 2, .tuple [.int 3, .none, .none], .tuple [.int 4, .tuple [.int 5, .none, .none], .none]], .none], .tuple [.int 1, .tuple [.int 2, .none, .none], .tuple [.int 3, .tuple [.int 4, .tuple [.int 5, .none, .none], .none], .none]], .tuple [.int 1, .tuple [.int 2, .tuple [.int 3, .tuple [.int 4, .tuple [.int 5, .none, .none], .none], .none], .none], .none], .tuple [.int 1, .tuple [.int 2, .tuple [.int 4, .none, .none], .none], .tuple [.int 3, .tuple [.int 5, .none, .none], .none]], .tuple [.int 1, .tuple [.int 2, .tuple [.int 3, .none, .none], .none], .tuple [.int 4, .tuple [.int 5, .none, .none], .none]], .tuple [.int 1, .tuple [.int 3, .tuple [.int 4, .none, .none], .none], .tuple [.int 2, .tuple [.int 5, .none, .none], .none]], .tuple [.int 1, .tuple [.int 2, .tuple [.int 3, .none, .none], .none], .tuple [.int 4, .tuple [.int 5, .none, .none], .none]], .tuple [.int 1, .tuple [.int 3, .tuple [.int 4, .none, .none], .none], .tuple [.int 2, .tuple [.int 5, .none, .none], .none]], .tuple [.int 1, .tuple [.int 2, .tuple [.int 4, .none, .none], .none], .tuple [.int 3, .tuple [.int 5, .none, .none], .none]], .tuple [.int 1, .tuple [.int 2, .tuple [.int 4, .none, .none], .tuple [.int 5, .none, .none]], .tuple [.int 3, .none, .none]], .tuple [.int 1, .tuple [.int 2, .tuple [.int 3, .none, .none], .tuple [.int 5, .none, .none]], .tuple [.int 4, .none, .none]], .tuple [.int 1, .tuple [.int 4, .none, .none], .tuple [.int 2, .tuple [.int 3, .none, .none], .tuple [.int 5, .none, .none]]], .tuple [.int 1, .tuple [.int 2, .tuple [.int 4, .tuple [.int 5, .none, .none], .none], .tuple [.int 3, .none, .none]], .none], .tuple [.int 1, .tuple [.int 3, .none, .none], .tuple [.int 2, .tuple [.int 4, .none, .none], .tuple [.int 5, .none, .none]]], .tuple [.int 1, .tuple [.int 2, .tuple [.int 3, .tuple [.int 5, .none, .none], .none], .tuple [.int 4, .none, .none]], .none], .tuple [.int 1, .tuple [.int 3, .tuple [.int 4, .none, .none], .tuple [.int 5, .none, .none]], .tuple [.int 2, .none, .none]], .tuple [.int 1, .tuple [.int 2, .tuple [.int 3, .tuple [.int 5, .none, .none], .none], .none], .tuple [.int 4, .none, .none]], .tuple [.int 1, .tuple [.int 4, .none, .none], .tuple [.int 2, .tuple [.int 3, .tuple [.int 5, .none, .none], .none], .none]], .tuple [.int 1, .tuple [.int 2, .tuple [.int 4, .none, .none], .tuple [.int 3, .tuple [.int 5, .none, .none], .none]], .none], .tuple [.int 1, .tuple [.int 2, .none, .none], .tuple [.int 3, .tuple [.int 4, .none, .none], .tuple [.int 5, .none, .none]]], .tuple [.int 1, .tuple [.int 2, .tuple [.int 3, .tuple [.int 4, .none, .none], .tuple [.int 5, .none, .none]], .none], .none], .tuple [.int 1, .tuple [.int 3, .tuple [.int 4, .tuple [.int 5, .none, .none], .none], .none], .tuple [.int 2, .none, .none]], .tuple [.int 1, .tuple [.int 2, .tuple [.int 4, .tuple [.int 5, .none, .none], .none], .none], .tuple [.int 3, .none, .none]], .tuple [.int 1, .tuple [.int 3, .none, .none], .tuple [.int 2, .tuple [.int 4, .tuple [.int 5, .none, .none], .none], .none]], .tuple [.int 1, .tuple [.int 2, .tuple [.int 3, .none, .none], .tuple [.int 4, .tuple [.int 5, .none, .none], .none]], .none], .tuple [.int 1, .tuple [.int 2, .none, .none], .tuple [.int 3, .tuple [.int 4, .tuple [.int 5, .none, .none], .none], .none]], .tuple [.int 1, .tuple [.int 2, .tuple [.int 3, .tuple [.int 4, .tuple [.int 5, .none, .none], .none], .none], .none], .none]]
theorem tB5 (script x2 x3 x4 x5 x6 x7 x8 x9 x10 x11 x13 x14 x15 : Dv) (m : MO) : lw13 40 [script, .r 0, x2, x3, x4, x5, x6, x7, x8, x9, x10, x11, dI 5, x13, x14, x15] [m] = .ok (.nx (in14 script x2 x3 x4 x5 x6 x7 x8 x9 x10 x11 5 B5 x14 x15)) [m] := by kernel_rfl
theorem rg5 (script x2 x3 x4 x5 x6 x7 x8 x9 x10 x11 x14 x15 : Dv) (m : MO) : lrg2 (kk (.int 1)) (b2 addD (sl 12) (kk (.int 1))) (in14 script x2 x3 x4 x5 x6 x7 x8 x9 x10 x11 5 B5 x14 x15) [m] = .ok (.g (.list (rgL 5))) [m] := by kernel_rfl
def H5_0 : List PyData := [.tuple [.int 1, .tuple [.int 2, .tuple [.int 3, .tuple [.int 4, .tuple [.int 5, .none, .none], .none], .none], .none], .none]]
theorem g5_0 : good 5 B5 (.tuple [.tuple [.tuple [.tuple [.tuple [.none, .none], .none], .none], .none], .none]) := ⟨H5_0, 1, 2, by kernel_rfl, by kernel_rfl, by kernel_rfl, by kernel_rfl, by kernel_rfl, by kernel_rfl, by kernel_rfl⟩
def H5_1 : List PyData := [.tuple [.int 1, .tuple [.int 2, .tuple [.int 3, .tuple [.int 4, .none, .none], .tuple [.int 5, .none, .none]], .none], .none], .tuple [.int 1, .tuple [.int 2, .tuple [.int 3, .tuple [.int 5, .none, .none], .tuple [.int 4, .none, .none]], .none], .none]]
theorem g5_1 : good 5 B5 (.tuple [.tuple [.tuple [.tuple [.none, .none], .tuple [.none, .none]], .none], .none]) := ⟨H5_1, 1, 2, by kernel_rfl, by kernel_rfl, by kernel_rfl, by kernel_rfl, by kernel_rfl, by kernel_rfl, by kernel_rfl⟩
def H5_2 : List PyData := [.tuple [.int 1, .tuple [.int 2, .tuple [.int 3, .tuple [.int 4, .none, .none], .none], .tuple [.int 5, .none, .none]], .none], .tuple [.int 1, .tuple [.int 2, .tuple [.int 3, .tuple [.int 5, .none, .none], .none], .tuple [.int 4, .none, .none]], .none], .tuple [.int 1, .tuple [.int 2, .tuple [.int 4, .tuple [.int 5, .none, .none], .none], .tuple [.int 3, .none, .none]], .none]]
theorem g5_2 : good 5 B5 (.tuple [.tuple [.tuple [.tuple [.none, .none], .none], .tuple [.none, .none]], .none]) := ⟨H5_2, 2, 4, by kernel_rfl, by kernel_rfl, by kernel_rfl, by kernel_rfl, by kernel_rfl, by kernel_rfl, by kernel_rfl⟩
def H5_3 : List PyData := [.tuple [.int 1, .tuple [.int 2, .tuple [.int 3, .none, .none], .tuple [.int 4, .tuple [.int 5, .none, .none], .none]], .none], .tuple [.int 1, .tuple [.int 2, .tuple [.int 4, .none, .none], .tuple [.int 3, .tuple [.int 5, .none, .none], .none]], .none], .tuple [.int 1, .tuple [.int 2, .tuple [.int 5, .none, .none], .tuple [.int 3, .tuple [.int 4, .none, .none], .none]], .none]]
theorem g5_3 : good 5 B5 (.tuple [.tuple [.tuple [.none, .none], .tuple [.tuple [.none, .none], .none]], .none]) := ⟨H5_3, 1, 2, by kernel_rfl, by kernel_rfl, by kernel_rfl, by kernel_rfl, by kernel_rfl, by kernel_rfl, by kernel_rfl⟩
def H5_4 : List PyData := [.tuple [.int 1, .tuple [.int 2, .tuple [.int 3, .tuple [.int 4, .none, .none], .none], .none], .tuple [.int 5, .none, .none]], .tuple [.int 1, .tuple [.int 2, .tuple [.int 3, .tuple [.int 5, .none, .none], .none], .none], .tuple [.int 4, .none, .none]], .tuple [.int 1, .tuple [.int 2, .tuple [.int 4, .tuple [.int 5, .none, .none], .none], .none], .tuple [.int 3, .none, .none]], .tuple [.int 1, .tuple [.int 3, .tuple [.int 4, .tuple [.int 5, .none, .none], .none], .none], .tuple [.int 2, .none, .none]]]
theorem g5_4 : good 5 B5 (.tuple [.tuple [.tuple [.tuple [.none, .none], .none], .none], .tuple [.none, .none]]) := ⟨H5_4, 1, 2, by kernel_rfl, by kernel_rfl, by kernel_rfl, by kernel_rfl, by kernel_rfl, by kernel_rfl, by kernel_rfl⟩
def H5_5 : List PyData := [.tuple [.int 1, .tuple [.int 2, .tuple [.int 3, .none, .none], .tuple [.int 4, .none, .none]], .tuple [.int 5, .none, .none]], .tuple [.int 1, .tuple [.int 2, .tuple [.int 4, .none, .none], .tuple [.int 3, .none, .none]], .tuple [.int 5, .none, .none]], .tuple [.int 1, .tuple [.int 2, .tuple [.int 3, .none, .none], .tuple [.int 5, .none, .none]], .tuple [.int 4, .none, .none]], .tuple [.int 1, .tuple [.int 2, .tuple [.int 5, .none, .none], .tuple [.int 3, .none, .none]], .tuple [.int 4, .none, .none]], .tuple [.int 1, .tuple [.int 2, .tuple [.int 4, .none, .none], .tuple [.int 5, .none, .none]], .tuple [.int 3, .none, .none]], .tuple [.int 1, .tuple [.int 2, .tuple [.int 5, .none, .none], .tuple [.int 4, .none, .none]], .tuple [.int 3, .none, .none]], .tuple [.int 1, .tuple [.int 3, .tuple [.int 4, .none, .none], .tuple [.int 5, .none, .none]], .tuple [.int 2, .none, .none]], .tuple [.int 1, .tuple [.int 3, .tuple [.int 5, .none, .none], .tuple [.int 4, .none, .none]], .tuple [.int 2, .none, .none]]]
theorem g5_5 : good 5 B5 (.tuple [.tuple [.tuple [.none, .none], .tuple [.none, .none]], .tuple [.none, .none]]) := ⟨H5_5, 1, 2, by kernel_rfl, by kernel_rfl, by kernel_rfl, by kernel_rfl, by kernel_rfl, by kernel_rfl, by kernel_rfl⟩
def H5_6 : List PyData := [.tuple [.int 1, .tuple [.int 2, .tuple [.int 3, .none, .none], .none], .tuple [.int 4, .tuple [.int 5, .none, .none], .none]], .tuple [.int 1, .tuple [.int 2, .tuple [.int 4, .none, .none], .none], .tuple [.int 3, .tuple [.int 5, .none, .none], .none]], .tuple [.int 1, .tuple [.int 2, .tuple [.int 5, .none, .none], .none], .tuple [.int 3, .tuple [.int 4, .none, .none], .none]], .tuple [.int 1, .tuple [.int 3, .tuple [.int 4, .none, .none], .none], .tuple [.int 2, .tuple [.int 5, .none, .none], .none]], .tuple [.int 1, .tuple [.int 3, .tuple [.int 5, .none, .none], .none], .tuple [.int 2, .tuple [.int 4, .none, .none], .none]], .tuple [.int 1, .tuple [.int 4, .tuple [.int 5, .none, .none], .none], .tuple [.int 2, .tuple [.int 3, .none, .none], .none]]]
theorem g5_6 : good 5 B5 (.tuple [.tuple [.tuple [.none, .none], .none], .tuple [.tuple [.none, .none], .none]]) := ⟨H5_6, 3, 8, by kernel_rfl, by kernel_rfl, by kernel_rfl, by kernel_rfl, by kernel_rfl, by kernel_rfl, by kernel_rfl⟩
def H5_7 : List PyData := [.tuple [.int 1, .tuple [.int 2, .none, .none], .tuple [.int 3, .tuple [.int 4, .tuple [.int 5, .none, .none], .none], .none]], .tuple [.int 1, .tuple [.int 3, .none, .none], .tuple [.int 2, .tuple [.int 4, .tuple [.int 5, .none, .none], .none], .none]], .tuple [.int 1, .tuple [.int 4, .none, .none], .tuple [.int 2, .tuple [.int 3, .tuple [.int 5, .none, .none], .none], .none]], .tuple [.int 1, .tuple [.int 5, .none, .none], .tuple [.int 2, .tuple [.int 3, .tuple [.int 4, .none, .none], .none], .none]]]
theorem g5_7 : good 5 B5 (.tuple [.tuple [.none, .none], .tuple [.tuple [.tuple [.none, .none], .none], .none]]) := ⟨H5_7, 1, 2, by kernel_rfl, by kernel_rfl, by kernel_rfl, by kernel_rfl, by kernel_rfl, by kernel_rfl, by kernel_rfl⟩
def H5_8 : List PyData := [.tuple [.int 1, .tuple [.int 2, .none, .none], .tuple [.int 3, .tuple [.int 4, .none, .none], .tuple [.int 5, .none, .none]]], .tuple [.int 1, .tuple [.int 2, .none, .none], .tuple [.int 3, .tuple [.int 5, .none, .none], .tuple [.int 4, .none, .none]]], .tuple [.int 1, .tuple [.int 3, .none, .none], .tuple [.int 2, .tuple [.int 4, .none, .none], .tuple [.int 5, .none, .none]]], .tuple [.int 1, .tuple [.int 3, .none, .none], .tuple [.int 2, .tuple [.int 5, .none, .none], .tuple [.int 4, .none, .none]]], .tuple [.int 1, .tuple [.int 4, .none, .none], .tuple [.int 2, .tuple [.int 3, .none, .none], .tuple [.int 5, .none, .none]]], .tuple [.int 1, .tuple [.int 4, .none, .none], .tuple [.int 2, .tuple [.int 5, .none, .none], .tuple [.int 3, .none, .none]]], .tuple [.int 1, .tuple [.int 5, .none, .none], .tuple [.int 2, .tuple [.int 3, .none, .none], .tuple [.int 4, .none, .none]]], .tuple [.int 1, .tuple [.int 5, .none, .none], .tuple [.int 2, .tuple [.int 4, .none, .none], .tuple [.int 3, .none, .none]]]]
theorem g5_8 : good 5 B5 (.tuple [.tuple [.none, .none], .tuple [.tuple [.none, .none], .tuple [.none, .none]]]) := ⟨H5_8, 1, 2, by kernel_rfl, by kernel_rfl, by kernel_rfl, by kernel_rfl, by kernel_rfl, by kernel_rfl, by kernel_rfl⟩
theorem gl5 : ∀ s ∈ L5, good 5 B5 s := by
  intro s hs
  have c : s = .tuple [.tuple [.tuple [.tuple [.tuple [.none, .none], .none], .none], .none], .none] ∨ s = .tuple [.tuple [.tuple [.tuple [.none, .none], .tuple [.none, .none]], .none], .none] ∨ s = .tuple [.tuple [.tuple [.tuple [.none, .none], .none], .tuple [.none, .none]], .none] ∨ s = .tuple [.tuple [.tuple [.none, .none], .tuple [.tuple [.none, .none], .none]], .none] ∨ s = .tuple [.tuple [.tuple [.tuple [.none, .none], .none], .none], .tuple [.none, .none]] ∨ s = .tuple [.tuple [.tuple [.none, .none], .tuple [.none, .none]], .tuple [.none, .none]] ∨ s = .tuple [.tuple [.tuple [.none, .none], .none], .tuple [.tuple [.none, .none], .none]] ∨ s = .tuple [.tuple [.none, .none], .tuple [.tuple [.tuple [.none, .none], .none], .none]] ∨ s = .tuple [.tuple [.none, .none], .tuple [.tuple [.none, .none], .tuple [.none, .none]]] := by simpa [L5] using hs
  rcases c with rfl | rfl | rfl | rfl | rfl | rfl | rfl | rfl | rfl
  · exact g5_0
  · exact g5_1
  · exact g5_2
  · exact g5_3
  · exact g5_4
  · exact g5_5
  · exact g5_6
  · exact g5_7
  · exact g5_8
end K04
set_option Elab.async false
set_option linter.all false
set_option maxRecDepth 1000000
set_option maxHeartbeats 0
namespace K04
open Xt PySem
theorem sq_assoc (a b c : Slots → Co Fl) : sq (sq a b) c = sq a (sq b c) := by
  funext ρ M
  show bnd (bnd (a ρ) _) _ M = bnd (a ρ) _ M
  unfold bnd
  cases e : a ρ M with
  | fail => rfl
  | ex x M' => rfl
  | ok f M' => cases f <;> rfl
theorem skp_sq (c : Slots → Co Fl) : sq skp c = c := rfl
theorem len16 {ρ : Slots} (h : ρ.map (fun _ => ()) = un16) : ∃ x0 x1 x2 x3 x4 x5 x6 x7 x8 x9 x10 x11 x12 x13 x14 x15, ρ = [x0, x1, x2, x3, x4, x5, x6, x7, x8, x9, x10, x11, x12, x13, x14, x15] := by
  have hl : ρ.length = 16 := by
    have := congrArg List.length h
    rw [List.length_map] at this
    exact this
  match ρ, hl with
  | [x0, x1, x2, x3, x4, x5, x6, x7, x8, x9, x10, x11, x12, x13, x14, x15], _ => exact ⟨x0, x1, x2, x3, x4, x5, x6, x7, x8, x9, x10, x11, x12, x13, x14, x15, rfl⟩
theorem vw_ok {r : RE Fl} {a b c d : Dv} {M : Mem} (h : vw r = some (some a, some b, some c, some d, un16, M)) : ∃ x0 x5 x6 x7 x8 x9 x10 x11 x12 x13 x14 x15, r = .ok (.nx [x0, a, b, c, d, x5, x6, x7, x8, x9, x10, x11, x12, x13, x14, x15]) M := by
  unfold vw at h
  split at h
  · rename_i ρ M'
    have h2 := Option.some.inj h
    simp only [Prod.mk.injEq] at h2
    obtain ⟨h3, h4, h5, h6, h7, rfl⟩ := h2
    obtain ⟨x0, x1, x2, x3, x4, x5, x6, x7, x8, x9, x10, x11, x12, x13, x14, x15, rfl⟩ := len16 h7
    have e1 : x1 = a := by simpa using h3
    have e2 : x2 = b := by simpa using h4
    have e3 : x3 = c := by simpa using h5
    have e4 : x4 = d := by simpa using h6
    subst e1 e2 e3 e4
    exact ⟨x0, x5, x6, x7, x8, x9, x10, x11, x12, x13, x14, x15, rfl⟩
  · cases h
def okA (n : Int) (L : List PyData) (s : PyData) : Prop :=
  (∀ (script x5 x6 x7 x8 x9 x10 x11 x12 x13 x14 x15 : Dv) (m : MO), vw (blkA (in8 script (dI n) (.g (.list L)) x5 x6 x7 x8 x9 x10 x11 x12 x13 x14 x15 s) [m]) = some (some (.r 0), some (dI n), some (.g (.list L)), some (.g s), un16, [m])) ∧
  (∀ (script x5 x6 x7 x8 x9 x10 x11 x12 x13 x14 x15 : Dv) (m : MO), vw (blkC (in8 script (dI n) (.g (.list L)) x5 x6 x7 x8 x9 x10 x11 x12 x13 x14 x15 s) [m]) = some (some (.r 0), some (dI n), some (.g (.list L)), some (.g s), un16, [m])) ∧
  full s = true ∧ mz s < 20
def okN (n : Int) : Prop := ∃ L, F_q_shapes 40 [dI n] [] = .ok (.g (.list L)) [] ∧ 0 < L.length ∧ L.length ≤ 1000 ∧ (∀ s ∈ L, okA n L s) ∧
  ∀ (script x5 x6 x7 x8 x9 x10 x11 x12 x13 x14 x15 x4 : Dv) (m : MO), vw (lw11 40 [script, .r 0, dI n, .g (.list L), x4, x5, x6, x7, x8, x9, x10, x11, x12, x13, x14, x15] [m]) = some (some (.r 0), some (dI n), some (.g (.list L)), some x4, un16, [m])
theorem okN0 : okN 0 := by
  refine ⟨L0, sh0, by decide, by decide, fun s hs => ?_, tE0⟩
  have c : s = .none := by simpa [L0] using hs
  rcases c with rfl
  · exact ⟨tA0_0, tC0_0, by decide +kernel, by decide +kernel⟩
theorem okN1 : okN 1 := by
  refine ⟨L1, sh1, by decide, by decide, fun s hs => ?_, tE1⟩
  have c : s = .tuple [.none, .none] := by simpa [L1] using hs
  rcases c with rfl
  · exact ⟨tA1_0, tC1_0, by decide +kernel, by decide +kernel⟩
theorem okN2 : okN 2 := by
  refine ⟨L2, sh2, by decide, by decide, fun s hs => ?_, tE2⟩
  have c : s = .tuple [.tuple [.none, .none], .none] := by simpa [L2] using hs
  rcases c with rfl
  · exact ⟨tA2_0, tC2_0, by decide +kernel, by decide +kernel⟩
theorem okN3 : okN 3 := by
  refine ⟨L3, sh3, by decide, by decide, fun s hs => ?_, tE3⟩
  have c : s = .tuple [.tuple [.tuple [.none, .none], .none], .none] ∨ s = .tuple [.tuple [.none, .none], .tuple [.none, .none]] := by simpa [L3] using hs
  rcases c with rfl | rfl
  · exact ⟨tA3_0, tC3_0, by decide +kernel, by decide +kernel⟩
  · exact ⟨tA3_1, tC3_1, by decide +kernel, by decide +kernel⟩
theorem okN4 : okN 4 := by
  refine ⟨L4, sh4, by decide, by decide, fun s hs => ?_, tE4⟩
  have c : s = .tuple [.tuple [.tuple [.tuple [.none, .none], .none], .none], .none] ∨ s = .tuple [.tuple [.tuple [.none, .none], .tuple [.none, .none]], .none] ∨ s = .tuple [.tuple [.tuple [.none, .none], .none], .tuple [.none, .none]] ∨ s = .tuple [.tuple [.none, .none], .tuple [.tuple [.none, .none], .none]] := by simpa [L4] using hs
  rcases c with rfl | rfl | rfl | rfl
  · exact ⟨tA4_0, tC4_0, by decide +kernel, by decide +kernel⟩
  · exact ⟨tA4_1, tC4_1, by decide +kernel, by decide +kernel⟩
  · exact ⟨tA4_2, tC4_2, by decide +kernel, by decide +kernel⟩
  · exact ⟨tA4_3, tC4_3, by decide +kernel, by decide +kernel⟩
theorem okN5 : okN 5 := by
  refine ⟨L5, sh5, by decide, by decide, fun s hs => ?_, tE5⟩
  have c : s = .tuple [.tuple [.tuple [.tuple [.tuple [.none, .none], .none], .none], .none], .none] ∨ s = .tuple [.tuple [.tuple [.tuple [.none, .none], .tuple [.none, .none]], .none], .none] ∨ s = .tuple [.tuple [.tuple [.tuple [.none, .none], .none], .tuple [.none, .none]], .none] ∨ s = .tuple [.tuple [.tuple [.none, .none], .tuple [.tuple [.none, .none], .none]], .none] ∨ s = .tuple [.tuple [.tuple [.tuple [.none, .none], .none], .none], .tuple [.none, .none]] ∨ s = .tuple [.tuple [.tuple [.none, .none], .tuple [.none, .none]], .tuple [.none, .none]] ∨ s = .tuple [.tuple [.tuple [.none, .none], .none], .tuple [.tuple [.none, .none], .none]] ∨ s = .tuple [.tuple [.none, .none], .tuple [.tuple [.tuple [.none, .none], .none], .none]] ∨ s = .tuple [.tuple [.none, .none], .tuple [.tuple [.none, .none], .tuple [.none, .none]]] := by simpa [L5] using hs
  rcases c with rfl | rfl | rfl | rfl | rfl | rfl | rfl | rfl | rfl
  · exact ⟨tA5_0, tC5_0, by decide +kernel, by decide +kernel⟩
  · exact ⟨tA5_1, tC5_1, by decide +kernel, by decide +kernel⟩
  · exact ⟨tA5_2, tC5_2, by decide +kernel, by decide +kernel⟩
  · exact ⟨tA5_3, tC5_3, by decide +kernel, by decide +kernel⟩
  · exact ⟨tA5_4, tC5_4, by decide +kernel, by decide +kernel⟩
  · exact ⟨tA5_5, tC5_5, by decide +kernel, by decide +kernel⟩
  · exact ⟨tA5_6, tC5_6, by decide +kernel, by decide +kernel⟩
  · exact ⟨tA5_7, tC5_7, by decide +kernel, by decide +kernel⟩
  · exact ⟨tA5_8, tC5_8, by decide +kernel, by decide +kernel⟩
theorem okN6 : okN 6 := by
  refine ⟨L6, sh6, by decide, by decide, fun s hs => ?_, tE6⟩
  have c : s = .tuple [.tuple [.tuple [.tuple [.tuple [.tuple [.none, .none], .none], .none], .none], .none], .none] ∨ s = .tuple [.tuple [.tuple [.tuple [.tuple [.none, .none], .tuple [.none, .none]], .none], .none], .none] ∨ s = .tuple [.tuple [.tuple [.tuple [.tuple [.none, .none], .none], .tuple [.none, .none]], .none], .none] ∨ s = .tuple [.tuple [.tuple [.tuple [.none, .none], .tuple [.tuple [.none, .none], .none]], .none], .none] ∨ s = .tuple [.tuple [.tuple [.tuple [.tuple [.none, .none], .none], .none], .tuple [.none, .none]], .none] ∨ s = .tuple [.tuple [.tuple [.tuple [.none, .none], .tuple [.none, .none]], .tuple [.none, .none]], .none] ∨ s = .tuple [.tuple [.tuple [.tuple [.none, .none], .none], .tuple [.tuple [.none, .none], .none]], .none] ∨ s = .tuple [.tuple [.tuple [.none, .none], .tuple [.tuple [.tuple [.none, .none], .none], .none]], .none] ∨ s = .tuple [.tuple [.tuple [.none, .none], .tuple [.tuple [.none, .none], .tuple [.none, .none]]], .none] ∨ s = .tuple [.tuple [.tuple [.tuple [.tuple [.none, .none], .none], .none], .none], .tuple [.none, .none]] ∨ s = .tuple [.tuple [.tuple [.tuple [.none, .none], .tuple [.none, .none]], .none], .tuple [.none, .none]] ∨ s = .tuple [.tuple [.tuple [.tuple [.none, .none], .none], .tuple [.none, .none]], .tuple [.none, .none]] ∨ s = .tuple [.tuple [.tuple [.none, .none], .tuple [.tuple [.none, .none], .none]], .tuple [.none, .none]] ∨ s = .tuple [.tuple [.tuple [.tuple [.none, .none], .none], .none], .tuple [.tuple [.none, .none], .none]] ∨ s = .tuple [.tuple [.tuple [.none, .none], .tuple [.none, .none]], .tuple [.tuple [.none, .none], .none]] ∨ s = .tuple [.tuple [.tuple [.none, .none], .none], .tuple [.tuple [.tuple [.none, .none], .none], .none]] ∨ s = .tuple [.tuple [.tuple [.none, .none], .none], .tuple [.tuple [.none, .none], .tuple [.none, .none]]] ∨ s = .tuple [.tuple [.none, .none], .tuple [.tuple [.tuple [.tuple [.none, .none], .none], .none], .none]] ∨ s = .tuple [.tuple [.none, .none], .tuple [.tuple [.tuple [.none, .none], .tuple [.none, .none]], .none]] ∨ s = .tuple [.tuple [.none, .none], .tuple [.tuple [.tuple [.none, .none], .none], .tuple [.none, .none]]] ∨ s = .tuple [.tuple [.none, .none], .tuple [.tuple [.none, .none], .tuple [.tuple [.none, .none], .none]]] := by simpa [L6] using hs
  rcases c with rfl | rfl | rfl | rfl | rfl | rfl | rfl | rfl | rfl | rfl | rfl | rfl | rfl | rfl | rfl | rfl | rfl | rfl | rfl | rfl | rfl
  · exact ⟨tA6_0, tC6_0, by decide +kernel, by decide +kernel⟩
  · exact ⟨tA6_1, tC6_1, by decide +kernel, by decide +kernel⟩
  · exact ⟨tA6_2, tC6_2, by decide +kernel, by decide +kernel⟩
  · exact ⟨tA6_3, tC6_3, by decide +kernel, by decide +kernel⟩
  · exact ⟨tA6_4, tC6_4, by decide +kernel, by decide +kernel⟩
  · exact ⟨tA6_5, tC6_5, by decide +kernel, by decide +kernel⟩
  · exact ⟨tA6_6, tC6_6, by decide +kernel, by decide +kernel⟩
  · exact ⟨tA6_7, tC6_7, by decide +kernel, by decide +kernel⟩
  · exact ⟨tA6_8, tC6_8, by decide +kernel, by decide +kernel⟩
  · exact ⟨tA6_9, tC6_9, by decide +kernel, by decide +kernel⟩
  · exact ⟨tA6_10, tC6_10, by decide +kernel, by decide +kernel⟩
  · exact ⟨tA6_11, tC6_11, by decide +kernel, by decide +kernel⟩
  · exact ⟨tA6_12, tC6_12, by decide +kernel, by decide +kernel⟩
  · exact ⟨tA6_13, tC6_13, by decide +kernel, by decide +kernel⟩
  · exact ⟨tA6_14, tC6_14, by decide +kernel, by decide +kernel⟩
  · exact ⟨tA6_15, tC6_15, by decide +kernel, by decide +kernel⟩
  · exact ⟨tA6_16, tC6_16, by decide +kernel, by decide +kernel⟩
  · exact ⟨tA6_17, tC6_17, by decide +kernel, by decide +kernel⟩
  · exact ⟨tA6_18, tC6_18, by decide +kernel, by decide +kernel⟩
  · exact ⟨tA6_19, tC6_19, by decide +kernel, by decide +kernel⟩
  · exact ⟨tA6_20, tC6_20, by decide +kernel, by decide +kernel⟩
theorem okNs (n : Int) (h0 : 0 ≤ n) (h1 : n < 7) : okN n := by
  have c : n = 0 ∨ n = 1 ∨ n = 2 ∨ n = 3 ∨ n = 4 ∨ n = 5 ∨ n = 6 := by omega
  rcases c with rfl | rfl | rfl | rfl | rfl | rfl | rfl
  · exact okN0
  · exact okN1
  · exact okN2
  · exact okN3
  · exact okN4
  · exact okN5
  · exact okN6
theorem mid {ns : List Int} (n : Int) (hn : okN n) (script x3 x4 x5 x6 x7 x8 x9 x10 x11 x12 x13 x14 x15 : Dv) (m : MO) (hm : Row ns m) : ∃ y0 y3 y4 y5 y6 y7 y8 y9 y10 y11 y12 y13 y14 y15 m', Row ns m' ∧ ∀ K,
    sq (lw2 40) (sq (lw3 40) (sq blkA (sq (lw8 40) (sq blkC (sq (lw11 40) K))))) [script, .r 0, dI n, x3, x4, x5, x6, x7, x8, x9, x10, x11, x12, x13, x14, x15] [m] = K [y0, .r 0, dI n, y3, y4, y5, y6, y7, y8, y9, y10, y11, y12, y13, y14, y15] [m'] := by
  obtain ⟨L, h1, h2, h3, h4, h5⟩ := hn
  obtain ⟨s, m1, hs, r1, e1⟩ := pkR 38 L [] rfl h2 h3 hm
  obtain ⟨hA, hC, hf, hz⟩ := h4 s hs
  have q2 : lw2 40 [script, .r 0, dI n, x3, x4, x5, x6, x7, x8, x9, x10, x11, x12, x13, x14, x15] [m] = .ok (.nx [script, .r 0, dI n, .g (.list L), x4, x5, x6, x7, x8, x9, x10, x11, x12, x13, x14, x15]) [m] := by
    have q : (cB (pureC (F_q_shapes 40)) (ac (sl 2) ac0)) [script, .r 0, dI n, x3, x4, x5, x6, x7, x8, x9, x10, x11, x12, x13, x14, x15] [m] = .ok (.g (.list L)) [m] := pure_ok (xs := [.int n]) [m] h1
    exact (bnd_ok2 q).trans rfl
  have q3 : lw3 40 [script, .r 0, dI n, .g (.list L), x4, x5, x6, x7, x8, x9, x10, x11, x12, x13, x14, x15] [m] = .ok (.nx (in8 script (dI n) (.g (.list L)) x5 x6 x7 x8 x9 x10 x11 x12 x13 x14 x15 s)) [m1] := by
    have q : (cB (trimC (F_q_pick 40)) (ac (sl 1) (ac (sl 3) ac0))) [script, .r 0, dI n, .g (.list L), x4, x5, x6, x7, x8, x9, x10, x11, x12, x13, x14, x15] [m] = .ok (.g s) [m1] := e1
    exact (bnd_ok2 q).trans rfl
  obtain ⟨a0, a5, a6, a7, a8, a9, a10, a11, a12, a13, a14, a15, eA⟩ := vw_ok (hA script x5 x6 x7 x8 x9 x10 x11 x12 x13 x14 x15 m1)
  obtain ⟨c5, c6, m2, r2, e8⟩ := lw8_ok a0 (dI n) (.g (.list L)) a5 a6 a7 a8 a9 a10 a11 a12 a13 a14 a15 s hf hz m1 r1
  obtain ⟨b0, b5, b6, b7, b8, b9, b10, b11, b12, b13, b14, b15, eC⟩ := vw_ok (hC a0 c5 c6 a7 a8 a9 a10 a11 a12 a13 a14 a15 m2)
  obtain ⟨d0, d5, d6, d7, d8, d9, d10, d11, d12, d13, d14, d15, eE⟩ := vw_ok (h5 b0 b5 b6 b7 b8 b9 b10 b11 b12 b13 b14 b15 (.g s) m2)
  refine ⟨d0, .g (.list L), .g s, d5, d6, d7, d8, d9, d10, d11, d12, d13, d14, d15, m2, r2, fun K => ?_⟩
  rw [sq_nx q2, sq_nx q3, sq_nx eA]
  refine (sq_nx (ρ' := in8 a0 (dI n) (.g (.list L)) c5 c6 a7 a8 a9 a10 a11 a12 a13 a14 a15 s) (M' := [m2]) e8).trans ?_
  rw [sq_nx eC, sq_nx eE]
def okS (small : Int) : Prop := ∃ B L, (∀ (script x2 x3 x4 x5 x6 x7 x8 x9 x10 x11 x13 x14 x15 : Dv) (m : MO), lw13 40 [script, .r 0, x2, x3, x4, x5, x6, x7, x8, x9, x10, x11, dI small, x13, x14, x15] [m] = .ok (.nx (in14 script x2 x3 x4 x5 x6 x7 x8 x9 x10 x11 small B x14 x15)) [m]) ∧
  (∀ (script x2 x3 x4 x5 x6 x7 x8 x9 x10 x11 x14 x15 : Dv) (m : MO), lrg2 (kk (.int 1)) (b2 addD (sl 12) (kk (.int 1))) (in14 script x2 x3 x4 x5 x6 x7 x8 x9 x10 x11 small B x14 x15) [m] = .ok (.g (.list (rgL small))) [m]) ∧
  F_q_shapes 40 [dI small] [] = .ok (.g (.list L)) [] ∧ ∀ s ∈ L, good small B s
theorem okSs (n : Int) (h0 : 0 ≤ n) (h1 : n < 6) : okS n := by
  have c : n = 0 ∨ n = 1 ∨ n = 2 ∨ n = 3 ∨ n = 4 ∨ n = 5 := by omega
  rcases c with rfl | rfl | rfl | rfl | rfl | rfl
  · exact ⟨B0, L0, tB0, rg0, sh0, gl0⟩
  · exact ⟨B1, L1, tB1, rg1, sh1, gl1⟩
  · exact ⟨B2, L2, tB2, rg2, sh2, gl2⟩
  · exact ⟨B3, L3, tB3, rg3, sh3, gl3⟩
  · exact ⟨B4, L4, tB4, rg4, sh4, gl4⟩
  · exact ⟨B5, L5, tB5, rg5, sh5, gl5⟩
theorem fin {ns : List Int} (script x2 x3 x4 x5 x6 x7 x8 x9 x10 x11 x12 x13 x14 x15 : Dv) (m : MO) (hm : Row ns m) : ∃ m',
    sq (lw12 40) (sq (lw13 40) (sq (lw14 40) (sq (lw15 40) skp))) [script, .r 0, x2, x3, x4, x5, x6, x7, x8, x9, x10, x11, x12, x13, x14, x15] [m] = .ok (.rt (vB true)) [m'] := by
  obtain ⟨small, m1, h0, h1, r1, e1⟩ := tkR 39 6 [] rfl (by decide) (by decide) hm
  obtain ⟨B, L, t13, tr, tL, tg⟩ := okSs small h0 h1
  have q12 : lw12 40 [script, .r 0, x2, x3, x4, x5, x6, x7, x8, x9, x10, x11, x12, x13, x14, x15] [m] = .ok (.nx [script, .r 0, x2, x3, x4, x5, x6, x7, x8, x9, x10, x11, dI small, x13, x14, x15]) [m1] := by
    have q : (cB (trimC (F_q_taken 40)) (ac (sl 1) (ac (kk (.int 6)) ac0))) [script, .r 0, x2, x3, x4, x5, x6, x7, x8, x9, x10, x11, x12, x13, x14, x15] [m] = .ok (dI small) [m1] := e1
    exact (bnd_ok2 q).trans rfl
  obtain ⟨y10, y14, m2, r2, e14⟩ := lw14_ok script x2 x3 x4 x5 x6 x7 x8 x9 x10 x11 x14 x15 small B L m1 r1 (fun x10 x14 m => tr script x2 x3 x4 x5 x6 x7 x8 x9 x10 x11 x14 x15 m) tL tg
  refine ⟨m2, ?_⟩
  rw [sq_nx q12, sq_nx (t13 script x2 x3 x4 x5 x6 x7 x8 x9 x10 x11 x13 x14 x15 m1), sq_nx e14]
  rfl
theorem law_true (ns : List Int) : ∃ M, F_law 41 [.g (.list (ns.map .int))] [] = .ok (vB true) M := by
  rw [F_law_eq]
  have e0 : lw0 40 ([.g (.list (ns.map .int))] ++ List.replicate 15 .u) [] = .ok (.nx [.g (.list (ns.map .int)), .r 0, .u, .u, .u, .u, .u, .u, .u, .u, .u, .u, .u, .u, .u, .u]) [RW ns 0 14504 0] := rfl
  obtain ⟨n, m1, h0, h1, r1, e1⟩ := tkR (ns := ns) (m := RW ns 0 14504 0) 39 7 [] rfl (by decide) (by decide) ⟨0, 14504, 0, by decide, by decide, by decide, rfl⟩
  have q1 : lw1 40 [.g (.list (ns.map .int)), .r 0, .u, .u, .u, .u, .u, .u, .u, .u, .u, .u, .u, .u, .u, .u] [RW ns 0 14504 0] = .ok (.nx [.g (.list (ns.map .int)), .r 0, dI n, .u, .u, .u, .u, .u, .u, .u, .u, .u, .u, .u, .u, .u]) [m1] := by
    have q : (cB (trimC (F_q_taken 40)) (ac (sl 1) (ac (kk (.int 7)) ac0))) [.g (.list (ns.map .int)), .r 0, .u, .u, .u, .u, .u, .u, .u, .u, .u, .u, .u, .u, .u, .u] [RW ns 0 14504 0] = .ok (dI n) [m1] := e1
    exact (bnd_ok2 q).trans rfl
  obtain ⟨y0, y3, y4, y5, y6, y7, y8, y9, y10, y11, y12, y13, y14, y15, m2, r2, e2⟩ := mid n (okNs n h0 h1) (.g (.list (ns.map .int))) .u .u .u .u .u .u .u .u .u .u .u .u .u m1 r1
  obtain ⟨m3, e3⟩ := fin y0 (dI n) y3 y4 y5 y6 y7 y8 y9 y10 y11 y12 y13 y14 y15 m2 r2
  refine ⟨[m3], ?_⟩
  have stepA : ∀ K, sq (lw4 40) (sq (lw5 40) (sq (lw6 40) (sq (lw7 40) K))) = sq blkA K := fun K => by
    unfold blkA
    simp only [sq_assoc, skp_sq]
  have stepC : ∀ K, sq (lw9 40) (sq (lw10 40) K) = sq blkC K := fun K => by
    unfold blkC
    simp only [sq_assoc, skp_sq]
  rw [stepC, stepA]
  refine def_rt rfl ?_
  refine (sq_nx (ρ' := [.g (.list (ns.map .int)), .r 0, .u, .u, .u, .u, .u, .u, .u, .u, .u, .u, .u, .u, .u, .u]) (M' := [RW ns 0 14504 0]) e0).trans ?_
  rw [sq_nx q1, e2, e3]
end K04
open PySem PySem.W PySem.Calls PyProof.Rows
theorem PySem.Challenge.cw_turnheaps_k04_whole_shapes_holds : PySem.Challenge.rw_turnheaps_k04_whole_shapes.Holds := by
  w_on; o_law
  refine Xt.head_imp (m := "math") (r := OpenLaw.row PySem.Challenge.rw_turnheaps_k04_whole_shapes) (q := view (OpenLaw.row PySem.Challenge.rw_turnheaps_k04_whole_shapes).prog [51]) (H := K04.hk) (ob := K04.ob) (M := 4000) (loose := K04.names) (d := HandSHeadRun.topDef (OpenLaw.row PySem.Challenge.rw_turnheaps_k04_whole_shapes).prog 51) (kwd := []) K04.ob_eq
    (by kernel_rfl) (by kernel_rfl) K04.run (by kernel_rfl) (by kernel_rfl) (by kernel_rfl) (by rfl) (by first | assumption | decide +kernel) (by decide +kernel) ⟨rfl, rfl, rfl, rfl, rfl, by decide +kernel⟩ ?hw ?hc
  case hw => w_witness2
  case hc =>
    refine LamX.walk_ofTsE (l := PySem.Challenge.rw_turnheaps_k04_whole_shapes) (n := 63) (k := 41) (x := "_law_script") (CX := fun _ => L2.CX0) rfl (by decide) (by kernel_rfl) ⟨rfl, by decide, by decide⟩ ?F (fun _ _ _ _ _ z => z)
    intro w mg fa h Y G hmg0
    obtain ⟨K, KX, c⟩ := Y
    have hmg : mg ("law" : PySem.Str) = some (.ref fa) := by
      have e : (HandSHeadRun.topDef (OpenLaw.row PySem.Challenge.rw_turnheaps_k04_whole_shapes).prog 51).name = ("law" : PySem.Str) := by kernel_rfl
      rw [← e]
      exact hmg0
    obtain ⟨fd, hb, hF⟩ := K04.facts (P := (PySem.Challenge.rw_turnheaps_k04_whole_shapes).prog) (w := w) KX G hmg c 40 K04.law_true
    refine ⟨K, KX, fd, K04.tf.map (He.cT K), Xt.spL ⟨K, mg, (K04.tf.map (He.cT K)).map (·.2)⟩, fun p hp => ?_, fun p hp => ?_, fun p hp => ?_, hb, fun H a ns hl _ hT hS => ⟨a, ns, rfl, hS, fun P hP => ?_, fun _ => rfl⟩, hF⟩
    · obtain ⟨q, hq, rfl⟩ := List.mem_map.mp hp
      exact c.empty q hq
    · obtain ⟨q, hq, rfl⟩ := List.mem_map.mp hp
      exact c.out q hq
    · obtain ⟨q, hq, rfl⟩ := List.mem_map.mp hp
      exact PySem.W.codeHd_of_K KX (c.hd q hq)
    · obtain ⟨p, hp, rfl⟩ := List.mem_map.mp hP
      exact ⟨#[], hT p hp, trivial⟩
