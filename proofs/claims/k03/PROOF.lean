import PyProof.Rows.All
import Wide.All
import OpenK.AllK
import Wide.FinOn
import HandS.ForMost
import HandS.ForExc
import HandS.Zip
import HandS.Gcd
import HandS.Wide
import HandS.SortInts
import HandS.IsInst
import HandS.TupAny
import HandS.TupMul
import HandS.Defaults
import HandS.CallSlots
import HandS.CallLocal
import HandS.TryMany
import HandS.Lambda
import HandS.Walk
import KE.GoesEnum
import HandS.Style
import HandS.ExcInit
import HandS.WordsExc
import KE.KExcSuper
import KE.KSuper
import HandS.ExcField
import HandS.Dict
import HandS.HeadHook4
import PySem.Challenge.RW_summedbounds_k03_whole_lots_put_shifted
import HandS.EndTab
import KE.KNestM
set_option Elab.async false
set_option linter.all false
set_option maxRecDepth 100000
set_option maxHeartbeats 4000000
set_option exponentiation.threshold 20000
/-! Pv: values without addresses over the hand layer. -/
namespace Pv
open PySem L2

abbrev D := PyData
/-- what a slot holds: a value that nobody changes, a list of our own, the draws' dict, a list of lambdas, one lambda -/
inductive Sl where
  | dat (d : D) | own (ds : List D) | mm | thk (ks : List Nat) | scr (ns : List Int)
/-- the state of the draws -/
structure G where
  cells : List Int
  great : List Int
  spot : Nat
structure Sg where
  ρ : List (Option Sl)
  g : G
inductive R (α : Type) where
  | ok (a : α) (s : Sg) | er (c : Nat) (d : D) (s : Sg) | no

/-- what owns its list -/
def Ow : Sl → Prop
  | .own _ => True
  | .thk _ => True
  | _ => False
inductive Fa2 {α β : Type} (r : α → β → Prop) : List α → List β → Prop
  | nil : Fa2 r [] []
  | cons {a : α} {b : β} {as : List α} {bs : List β} : r a b → Fa2 r as bs → Fa2 r (a :: as) (b :: bs)
theorem Fa2.imp {α β : Type} {r s : α → β → Prop} (i : ∀ a b, r a b → s a b) : ∀ {as : List α} {bs : List β}, Fa2 r as bs → Fa2 s as bs
  | [], [], .nil => .nil
  | _ :: _, _ :: _, .cons h t => .cons (i _ _ h) (Fa2.imp i t)
/-! ### heaps -/
def Nt (o : HO) : Prop := ∀ ps, o ≠ .tbl ps
/-- what may be owned: lists, dicts -/
inductive Ol : HO → Prop
  | lst (xs : List V) : Ol (.lst xs)
  | dK (kvs : List (Key × V)) : Ol (.dK kvs)
theorem Ol.nt {o : HO} (h : Ol o) : Nt o := by
  cases h <;> exact fun ps z => nomatch z
/-- nothing plain stands at a -/
def NP (H : Hp) (a : Addr) : Prop := ∀ o, Nt o → H a ≠ some o
open Classical in
/-- what values may lean on -/
noncomputable def vis (O : Addr → Prop) (H : Hp) : Hp := fun a => if O a ∨ ∃ ps, H a = some (.tbl ps) then none else H a
theorem vis_of {O : Addr → Prop} {H : Hp} {a : Addr} {o : HO} (h1 : ¬ O a) (h2 : Nt o) (h : H a = some o) : vis O H a = some o := by
  unfold vis
  rw [if_neg]
  · exact h
  · rintro (q | ⟨ps, q⟩)
    · exact h1 q
    · rw [h] at q
      exact h2 ps (Option.some.inj q)
theorem of_vis {O : Addr → Prop} {H : Hp} {a : Addr} {o : HO} (h : vis O H a = some o) : ¬ O a ∧ Nt o ∧ H a = some o := by
  unfold vis at h
  split at h
  · cases h
  · rename_i q
    refine ⟨fun z => q (.inl z), fun ps z => q (.inr ⟨ps, ?_⟩), h⟩
    rw [h, z]
def Sub (H H' : Hp) : Prop := ∀ b o, H b = some o → H' b = some o
theorem Sub.refl (H : Hp) : Sub H H := fun _ _ h => h
theorem Sub.trans {H H1 H2 : Hp} (a : Sub H H1) (b : Sub H1 H2) : Sub H H2 := fun c o h => b c o (a c o h)
theorem vis_sub {O : Addr → Prop} {H : Hp} : Sub (vis O H) H := fun _ _ h => (of_vis h).2.2
theorem Sub.vis {O O' : Addr → Prop} {H H' : Hp} (s : Sub H H') (ho : ∀ b, O' b → O b ∨ H b = none) : Sub (vis O H) (vis O' H') := fun b o h => by
  obtain ⟨h1, h2, h3⟩ := of_vis h
  refine vis_of (fun z => ?_) h2 (s b o h3)
  rcases ho b z with q | q
  · exact h1 q
  · rw [h3] at q; cases q
theorem Sub.upd {H : Hp} {p : Addr} {o : HO} (h : H p = none) : Sub H (upd H p o) := fun b u e => by rw [upd_ne (ne_of_none e h)]; exact e
theorem Rd.sub {H H' : Hp} {a : Addr} {u : HO} (s : Sub H H') (r : Rd H a u) : Rd H' a u := by
  rcases r with r | ⟨o, r⟩
  · exact .inl (s _ _ r)
  · exact .inr ⟨o, s _ _ r⟩
mutual
/-- a value as data: lists and tuples all the way down -/
inductive Rp (K : PySem.W.Frag) (H : Hp) : V → D → Prop
  | non : Rp K H .non .none
  | bl (b : Bool) : Rp K H (.bl b) (.bool b)
  | int (i : Int) : Rp K H (.int i) (.int i)
  | str (x : Str) : Rp K H (.str x) (.str x)
  | lst {a : Addr} {xs : List V} {ds : List D} : H a = some (.lst xs) → RpAll K H xs ds → Rp K H (.ref a) (.list ds)
  | tup {a : Addr} {xs : List V} {ds : List D} : SqT K H a xs → RpAll K H xs ds → Rp K H (.ref a) (.tuple ds)
inductive RpAll (K : PySem.W.Frag) (H : Hp) : List V → List D → Prop
  | nil : RpAll K H [] []
  | cons {v : V} {vs : List V} {d : D} {ds : List D} : Rp K H v d → RpAll K H vs ds → RpAll K H (v :: vs) (d :: ds)
end
section
variable {K : PySem.W.Frag} {H H' : Hp}
mutual
theorem rp_dp : ∀ (d : D) (v : V), Rp K H v d → L2.Dp K H v d
  | .none, _, h => by cases h; exact .non
  | .bool b, _, h => by cases h; exact .bl b
  | .int i, _, h => by cases h; exact .int i
  | .str x, _, h => by cases h; exact .str x
  | .list ds, _, h => by
    cases h with
    | lst hs ha => exact .lst (SqL.of hs) (rpAll_dp ds _ ha)
  | .tuple ds, _, h => by
    cases h with
    | tup hs ha => exact .tup hs (rpAll_dp ds _ ha)
  | .dict _, _, h => by cases h
theorem rpAll_dp : ∀ (ds : List D) (vs : List V), RpAll K H vs ds → L2.DpAll K H vs ds
  | [], _, h => by cases h; exact .nil
  | d :: ds, _, h => by
    cases h with
    | cons h1 h2 => exact .cons (rp_dp d _ h1) (rpAll_dp ds _ h2)
end
theorem sqL_sub {a : Addr} {xs : List V} (s : Sub H H') (h : SqL K H a xs) : SqL K H' a xs := by
  rcases h with h | h
  · exact .inl (Rd.sub s h)
  · exact .inr h
theorem sqT_sub {a : Addr} {xs : List V} (s : Sub H H') (h : SqT K H a xs) : SqT K H' a xs := by
  rcases h with h | h
  · exact .inl (Rd.sub s h)
  · exact .inr h
mutual
theorem rp_sub (s : Sub H H') : ∀ (d : D) (v : V), Rp K H v d → Rp K H' v d
  | .none, _, h => by cases h; exact .non
  | .bool b, _, h => by cases h; exact .bl b
  | .int i, _, h => by cases h; exact .int i
  | .str x, _, h => by cases h; exact .str x
  | .list ds, _, h => by
    cases h with
    | lst hs ha => exact .lst (s _ _ hs) (rpAll_sub s ds _ ha)
  | .tuple ds, _, h => by
    cases h with
    | tup hs ha => exact .tup (sqT_sub s hs) (rpAll_sub s ds _ ha)
  | .dict _, _, h => by cases h
theorem rpAll_sub (s : Sub H H') : ∀ (ds : List D) (vs : List V), RpAll K H vs ds → RpAll K H' vs ds
  | [], _, h => by cases h; exact .nil
  | d :: ds, _, h => by
    cases h with
    | cons h1 h2 => exact .cons (rp_sub s d _ h1) (rpAll_sub s ds _ h2)
end
theorem RpAll.len {vs : List V} {ds : List D} (h : RpAll K H vs ds) : vs.length = ds.length := by
  induction ds generalizing vs with
  | nil => cases h; rfl
  | cons d ds ih => cases h with | cons h1 h2 => simp [ih h2]
theorem RpAll.get {vs : List V} {ds : List D} (h : RpAll K H vs ds) {i : Nat} {d : D} (e : ds[i]? = some d) : ∃ v, vs[i]? = some v ∧ Rp K H v d := by
  induction ds generalizing vs i with
  | nil => simp at e
  | cons a ds ih =>
    cases h with
    | cons h1 h2 =>
      cases i with
      | zero => simp at e; subst e; exact ⟨_, rfl, h1⟩
      | succ i =>
        obtain ⟨v, e1, e2⟩ := ih h2 (by simpa using e)
        exact ⟨v, by simpa using e1, e2⟩
theorem RpAll.getV {vs : List V} {ds : List D} (h : RpAll K H vs ds) {i : Nat} {v : V} (e : vs[i]? = some v) : ∃ d, ds[i]? = some d ∧ Rp K H v d := by
  have hl := h.len
  obtain ⟨hi, _⟩ := List.getElem?_eq_some_iff.mp e
  obtain ⟨w, e1, e2⟩ := h.get (i := i) (d := ds[i]) (by simp)
  rw [e] at e1; cases e1
  exact ⟨_, by simp, e2⟩
theorem RpAll.app {vs ws : List V} {ds es : List D} (h : RpAll K H vs ds) (h' : RpAll K H ws es) : RpAll K H (vs ++ ws) (ds ++ es) := by
  induction ds generalizing vs with
  | nil => cases h; exact h'
  | cons d ds ih => cases h with | cons h1 h2 => exact .cons h1 (ih h2)
theorem RpAll.one {v : V} {d : D} (h : Rp K H v d) : RpAll K H [v] [d] := .cons h .nil
theorem RpAll.take {vs : List V} {ds : List D} (h : RpAll K H vs ds) (n : Nat) : RpAll K H (vs.take n) (ds.take n) := by
  induction ds generalizing vs n with
  | nil => cases h; simp; exact .nil
  | cons d ds ih =>
    cases h with
    | cons h1 h2 =>
      cases n with
      | zero => exact .nil
      | succ n => exact .cons h1 (ih h2 n)
theorem RpAll.drop {vs : List V} {ds : List D} (h : RpAll K H vs ds) (n : Nat) : RpAll K H (vs.drop n) (ds.drop n) := by
  induction ds generalizing vs n with
  | nil => cases h; simp; exact .nil
  | cons d ds ih =>
    cases h with
    | cons h1 h2 =>
      cases n with
      | zero => exact .cons h1 h2
      | succ n => exact ih h2 n
theorem RpAll.set {vs : List V} {ds : List D} (h : RpAll K H vs ds) {v : V} {d : D} (hv : Rp K H v d) (n : Nat) : RpAll K H (vs.set n v) (ds.set n d) := by
  induction ds generalizing vs n with
  | nil => cases h; simp; exact .nil
  | cons e ds ih =>
    cases h with
    | cons h1 h2 =>
      cases n with
      | zero => exact .cons hv h2
      | succ n => exact .cons h1 (ih h2 n)
theorem RpAll.erase {vs : List V} {ds : List D} (h : RpAll K H vs ds) (n : Nat) : RpAll K H (vs.eraseIdx n) (ds.eraseIdx n) := by
  induction ds generalizing vs n with
  | nil => cases h; simp; exact .nil
  | cons e ds ih =>
    cases h with
    | cons h1 h2 =>
      cases n with
      | zero => exact h2
      | succ n => exact .cons h1 (ih h2 n)
theorem RpAll.rep {vs : List V} {ds : List D} (h : RpAll K H vs ds) : ∀ n : Nat, RpAll K H (List.replicate n vs).flatten (List.replicate n ds).flatten
  | 0 => by simp; exact .nil
  | n + 1 => by
    simp only [List.replicate_succ, List.flatten_cons]
    exact h.app (RpAll.rep h n)
end

/-! ### the draws' dict -/
structure MA where
  A : Addr
  ac : Addr
  ag : Addr
def MA.on (m : MA) (b : Addr) : Prop := b = m.A ∨ b = m.ac ∨ b = m.ag
def Mw (W : Option MA) (b : Addr) : Prop := ∃ m, W = some m ∧ m.on b
def kCells : Key := .inr (PySem.Str.ofString "cells")
def kGreat : Key := .inr (PySem.Str.ofString "great")
def kSpot : Key := .inr (PySem.Str.ofString "spot")
def DrawAt (H : Hp) (m : MA) (g : G) : Prop :=
  H m.A = some (.dK [(kCells, .ref m.ac), (kGreat, .ref m.ag), (kSpot, .int g.spot)]) ∧ H m.ac = some (.lst (g.cells.map .int)) ∧ H m.ag = some (.lst (g.great.map .int)) ∧ m.ac ≠ m.ag
def DrawOk (H : Hp) (W : Option MA) (g : G) : Prop := ∀ m, W = some m → DrawAt H m g

/-! ### what a def's frame stands for -/
/-- the fixed part: the written part, the draws' dict, what the callers own, the heap at the entry -/
structure Cf where
  K : PySem.W.Frag
  W : Option MA
  O0 : Addr → Prop
  H0 : Hp
  tb : List (Addr × Str)
  lm : Nat → Addr → Hp → Prop
  lmS : ∀ k f H H', Sub H H' → lm k f H → lm k f H'
/-- a lambda of this def, by its number: the object at f -/
abbrev LamAt := Nat → Addr → Hp → Prop
def SlOk (C : Cf) (O : Addr → Prop) (v? : Option (Option V)) (H : Hp) : Sl → Prop
  | .dat d => ∃ v, v? = some (some v) ∧ Rp C.K (vis O H) v d
  | .own ds => ∃ a vs, v? = some (some (.ref a)) ∧ H a = some (.lst vs) ∧ O a ∧ ¬ C.O0 a ∧ NP C.H0 a ∧ RpAll C.K (vis O H) vs ds
  | .mm => ∃ m, C.W = some m ∧ v? = some (some (.ref m.A))
  | .thk ks => ∃ a fs, v? = some (some (.ref a)) ∧ H a = some (.lst (fs.map V.ref)) ∧ O a ∧ ¬ C.O0 a ∧ NP C.H0 a ∧ Fa2 (fun f k => C.lm k f (vis O H)) fs ks
  | .scr ns => ∃ a, v? = some (some (.ref a)) ∧ SqL C.K (vis O H) a (ns.map V.int)
theorem SlOk.at {C : Cf} {O : Addr → Prop} {v? : Option (Option V)} {H : Hp} {x : Sl} (h : SlOk C O v? H x) (o : Ow x) : ∃ a l, v? = some (some (.ref a)) ∧ H a = some (.lst l) ∧ O a ∧ ¬ C.O0 a ∧ NP C.H0 a := by
  cases x with
  | own ds => obtain ⟨a, vs, h1, h2, h3, h4, h5, _⟩ := h; exact ⟨a, vs, h1, h2, h3, h4, h5⟩
  | thk ks => obtain ⟨a, vs, h1, h2, h3, h4, h5, _⟩ := h; exact ⟨a, _, h1, h2, h3, h4, h5⟩
  | _ => exact o.elim
structure EOk (C : Cf) (O : Addr → Prop) (σ : L2.St) (H : Hp) (S : Sg) : Prop where
  sl : ∀ (i : Nat) (x : Sl), S.ρ[i]? = some (some x) → SlOk C O (σ[i]?) H x
  dis : ∀ (i j : Nat) (x y : Sl) (a : Addr), S.ρ[i]? = some (some x) → S.ρ[j]? = some (some y) → Ow x → Ow y → σ[i]? = some (some (.ref a)) → σ[j]? = some (some (.ref a)) → i = j
  trkP : ∀ b, O b → ∃ o, Ol o ∧ H b = some o
  o0 : ∀ b, C.O0 b → O b
  m0 : ∀ b, Mw C.W b → C.O0 b
  base : ∀ b o, C.H0 b = some o → ¬ Mw C.W b → Nt o → H b = some o
  tabs : LamX.Tabs C.tb H
  dok : DrawOk H C.W S.g
  len : σ.length = S.ρ.length
theorem EOk.trk {C : Cf} {O : Addr → Prop} {σ : L2.St} {H : Hp} {S : Sg} (E : EOk C O σ H S) : ∀ b, O b → H b ≠ none := fun b h => by
  obtain ⟨o, _, e⟩ := E.trkP b h
  rw [e]; simp
/-- what is not there stood not there -/
theorem EOk.np {C : Cf} {O : Addr → Prop} {σ : L2.St} {H : Hp} {S : Sg} (E : EOk C O σ H S) {b : Addr} (h : H b = none) : NP C.H0 b := fun o n e => by
  by_cases hw : Mw C.W b
  · obtain ⟨o, _, q⟩ := E.trkP b (E.o0 b (E.m0 b hw))
    rw [h] at q; cases q
  · rw [E.base b o e hw n] at h; cases h
/-- a plain object is written -/
theorem tabs_upd {T : List (Addr × Str)} {H : Hp} {a : Addr} {l l' : List V} (t : LamX.Tabs T H) (h : H a = some (.lst l)) : LamX.Tabs T (upd H a (.lst l')) := fun p hp => by
  obtain ⟨ps, h1, h2, h3⟩ := t p hp
  refine ⟨ps, by rw [upd_ne (ne_of h1 h fun z => by cases z)]; exact h1, h2, fun pos cv hc => ?_⟩
  obtain ⟨c, e1, e2⟩ := h3 pos cv hc
  exact ⟨c, e1, by rw [upd_ne (ne_of e2 h fun z => by unfold LamX.CodeO at z; cases z)]; exact e2⟩
/-- from H to H': all but what is owned stays -/
structure Ext (O : Addr → Prop) (H H' : Hp) : Prop where
  keep : ∀ b o, ¬ O b → Nt o → H b = some o → H' b = some o
theorem Ext.refl (O : Addr → Prop) (H : Hp) : Ext O H H := ⟨fun _ _ _ _ h => h⟩
theorem Ext.trans {O O1 : Addr → Prop} {H H1 H2 : Hp} (a : Ext O H H1) (b : Ext O1 H1 H2) (h : ∀ b, O1 b → O b) : Ext O H H2 :=
  ⟨fun c o n1 n2 e => b.keep c o (fun z => n1 (h c z)) n2 (a.keep c o n1 n2 e)⟩
theorem Ext.of_sub {O : Addr → Prop} {H H' : Hp} (s : Sub H H') : Ext O H H' := ⟨fun b o _ _ e => s b o e⟩
theorem Ext.vis {O O' : Addr → Prop} {H H' : Hp} (e : Ext O H H') (h : ∀ b, O' b → O b) : Sub (vis O H) (vis O' H') := fun b o q => by
  obtain ⟨h1, h2, h3⟩ := of_vis q
  exact vis_of (fun z => h1 (h b z)) h2 (e.keep b o h1 h2 h3)
/-- nothing but new objects -/
theorem EOk.grow {C : Cf} {O : Addr → Prop} {σ : L2.St} {H H' : Hp} {S : Sg} (E : EOk C O σ H S) (s : Sub H H') : EOk C O σ H' S where
  sl := fun i x h => by
    have q := E.sl i x h
    have sv : Sub (vis O H) (vis O H') := s.vis fun b z => .inl z
    cases x with
    | dat d => obtain ⟨v, e, p⟩ := q; exact ⟨v, e, rp_sub sv d v p⟩
    | own ds => obtain ⟨a, vs, e, h1, h2, h3, h4, h5⟩ := q; exact ⟨a, vs, e, s _ _ h1, h2, h3, h4, rpAll_sub sv ds vs h5⟩
    | mm => exact q
    | thk ks => obtain ⟨a, fs, e, h1, h2, h3, h4, h5⟩ := q; exact ⟨a, fs, e, s _ _ h1, h2, h3, h4, h5.imp fun f k z => C.lmS k f _ _ sv z⟩
    | scr ns => obtain ⟨a, e, p⟩ := q; exact ⟨a, e, sqL_sub sv p⟩
  dis := E.dis
  trkP := fun b h => let ⟨o, t, e⟩ := E.trkP b h; ⟨o, t, s b o e⟩
  o0 := E.o0
  m0 := E.m0
  base := fun b o h1 h2 h3 => s b o (E.base b o h1 h2 h3)
  tabs := E.tabs.ext s
  dok := fun m e => by
    obtain ⟨h1, h2, h3, h4⟩ := E.dok m e
    exact ⟨s _ _ h1, s _ _ h2, s _ _ h3, h4⟩
  len := E.len
end Pv

/-! Pv2: the small language and what it does. -/
namespace Pv
open PySem L2

/-! ### values' operators -/
inductive UnO where
  | neg | not | len | tuple | list | abs | int | isN | notN | all | any | sorted | lrange | isInt | isBool | isStr | isTup | isList
  deriving DecidableEq
inductive BinO where
  | add | sub | mul | fdiv | mod | pow | eq | ne | lt | le | gt | ge | mem | nmem | gcd | idx
  deriving DecidableEq

def boolsD : List D → Option (List Bool)
  | [] => some []
  | .bool b :: r => (boolsD r).map (b :: ·)
  | _ => none
def intsD : List D → Option (List Int)
  | [] => some []
  | .int b :: r => (intsD r).map (b :: ·)
  | _ => none
/-- insertion, the sorted list of some intsD -/
def insI (x : Int) : List Int → List Int
  | [] => [x]
  | y :: r => if x ≤ y then x :: y :: r else y :: insI x r
def sortI : List Int → List Int
  | [] => []
  | x :: r => insI x (sortI r)
def unD : UnO → D → Option D
  | .neg, .int i => some (.int (-i))
  | .not, .bool b => some (.bool (!b))
  | .len, .list ds => some (.int ds.length)
  | .len, .tuple ds => some (.int ds.length)
  | .tuple, .list ds => some (.tuple ds)
  | .tuple, .tuple ds => some (.tuple ds)
  | .list, .list ds => some (.list ds)
  | .list, .tuple ds => some (.list ds)
  | .abs, .int i => some (.int (if i < 0 then -i else i))
  | .int, .int i => some (.int i)
  | .int, .bool b => some (.int (if b then 1 else 0))
  | .isN, d => some (.bool (match d with | .none => true | _ => false))
  | .notN, d => some (.bool (match d with | .none => false | _ => true))
  | .all, .list ds => (boolsD ds).map fun bs => .bool (bs.all id)
  | .any, .list ds => (boolsD ds).map fun bs => .bool (bs.any id)
  | .sorted, .list ds => (intsD ds).map fun is => .list ((sortI is).map .int)
  | .sorted, .tuple ds => (intsD ds).map fun is => .list ((sortI is).map .int)
  | .lrange, .int n => if n ≤ 1000 ∧ -1000 ≤ n then some (.list ((List.range n.toNat).map fun (k : Nat) => .int k)) else none
  | .isInt, d => some (.bool (match d with | .int _ => true | .bool _ => true | _ => false))
  | .isBool, d => some (.bool (match d with | .bool _ => true | _ => false))
  | .isStr, d => some (.bool (match d with | .str _ => true | _ => false))
  | .isTup, d => some (.bool (match d with | .tuple _ => true | _ => false))
  | .isList, d => some (.bool (match d with | .list _ => true | _ => false))
  | _, _ => none
def seqOf : D → Option (List D)
  | .list ds => some ds
  | .tuple ds => some ds
  | _ => none
def flatD : D → Bool
  | .none => true | .bool _ => true | .int _ => true | .str _ => true | _ => false
def at_ (ds : List D) (i : Int) : Option D := (ixN ds.length i).bind fun j => ds[j]?
def binD : BinO → D → D → Option D
  | .add, .int i, .int j => some (.int (i + j))
  | .add, .tuple a, .tuple b => if a.length + b.length ≤ 1000000 then some (.tuple (a ++ b)) else none
  | .add, .list a, .list b => if a.length + b.length ≤ 1000000 then some (.list (a ++ b)) else none
  | .sub, .int i, .int j => some (.int (i - j))
  | .mul, .int i, .int j => if i.natAbs.log2 + j.natAbs.log2 < 1000000 then some (.int (i * j)) else none
  | .mul, .tuple a, .int k => if 0 ≤ k ∧ k ≤ 1000 ∧ a.length ≤ 1000 ∧ a ≠ [] then some (.tuple (List.replicate k.toNat a).flatten) else none
  | .mul, .list a, .int k => if 0 ≤ k ∧ k ≤ 1000 ∧ a.length ≤ 1000 then some (.list (List.replicate k.toNat a).flatten) else none
  | .fdiv, .int i, .int j => if 0 < j ∧ j.natAbs.log2 < 9000 then some (.int (i / j)) else none
  | .mod, .int i, .int j => if 0 < j then some (.int (i % j)) else none
  | .pow, .int i, .int j => if 0 ≤ j ∧ j ≤ 1000 ∧ i.natAbs < 2 ^ 64 then some (.int (i ^ j.toNat)) else none
  | .eq, d, e => if SeqAt.shaped d && SeqAt.shaped e then some (.bool (PyData.eqv d e)) else none
  | .ne, d, e => if SeqAt.shaped d && SeqAt.shaped e then some (.bool (!PyData.eqv d e)) else none
  | .lt, .int i, .int j => some (.bool (decide (i < j)))
  | .le, .int i, .int j => some (.bool (decide (i ≤ j)))
  | .gt, .int i, .int j => some (.bool (decide (j < i)))
  | .ge, .int i, .int j => some (.bool (decide (j ≤ i)))
  | .mem, x, s => (seqOf s).bind fun ds => if flatD x && ds.all flatD then some (.bool (ds.any fun y => PyData.eqv y x)) else none
  | .nmem, x, s => (seqOf s).bind fun ds => if flatD x && ds.all flatD then some (.bool (!(ds.any fun y => PyData.eqv y x))) else none
  | .gcd, .int i, .int j => some (.int (Nat.gcd i.natAbs j.natAbs : Nat))
  | .idx, s, .int i => (seqOf s).bind fun ds => at_ ds i
  | _, _, _ => none
def sliceD (s : D) (lo hi : Option Int) : Option D :=
  match s with
  | .list ds => some (.list ((ds.drop (HT.sIx ds.length 0 lo)).take (HT.sIx ds.length ds.length hi - HT.sIx ds.length 0 lo)))
  | .tuple ds => some (.tuple ((ds.drop (HT.sIx ds.length 0 lo)).take (HT.sIx ds.length ds.length hi - HT.sIx ds.length 0 lo)))
  | _ => none
def intOf : D → Option Int
  | .int i => some i
  | _ => none
/-- what bears no address -/
def atomD : D → Bool := flatD

/-! ### the language -/
/-- a target: a slot, or a tuple of slots -/
inductive Tg where
  | one (i : Nat) | many (is : List Nat)
mutual
inductive Ex where
  | var (i : Nat)
  | k (d : D)
  | gl (x : Str) (d : D)
  | tup (es : List Ex)
  | lst (es : List Ex)
  | un (o : UnO) (a : Ex)
  | bin (o : BinO) (a b : Ex)
  | and_ (a b : Ex)
  | or_ (a b : Ex)
  | chain (o o' : BinO) (a b c : Ex)
  | ite (c a b : Ex)
  | slice (a : Ex) (lo hi : Option Ex)
  | call (f nd : Nat) (args : List Ex)
  | callk (f : Nat) (perm : List Nat) (args : List Ex)
  | lc (own : List Nat) (tg : Tg) (it : It) (test : Option Ex) (elt : Ex)
  | bun (o : UnO) (i : Nat)
  | bnil (ne : Bool) (i : Nat)
  | btup (i : Nat)
  | bidx (i : Nat) (e : Ex)
  | pop (i : Nat) (e : Ex)
  | heard (k : Nat)
  | heardAll (i : Nat)
inductive It where
  | seq (e : Ex) | rng (e : Ex) | rng2 (a b : Ex) | zip (a b : Ex) | enum (e : Ex) | scr (i : Nat) | enumScr (i : Nat)
end
inductive Sx where
  | set (i : Nat) (e : Ex)
  | setOwn (i : Nat) (e : Ex)
  | setN (is : List Nat) (es : List Ex)
  | unp (is : List Nat) (e : Ex)
  | setIdx (i : Nat) (k v : Ex)
  | app (i : Nat) (e : Ex)
  | expr (e : Ex)
  | ret (e : Ex)
  | if_ (c : Ex) (a b : List Sx)
  | for_ (tg : Tg) (it : It) (b : List Sx)
  | while_ (c : Ex) (b : List Sx)
  | raise (c : Nat) (e : Ex)
  | brk | cnt | pass
  | lamInit (i : Nat) (ks : List Nat)
  | lamApp (i : Nat) (k : Nat)

/-! ### what it does -/
def R.bind {α β : Type} (r : R α) (f : α → Sg → R β) : R β :=
  match r with
  | .ok a s => f a s
  | .er c d s => .er c d s
  | .no => .no
def R.ofOpt {α : Type} (o : Option α) (s : Sg) : R α :=
  match o with
  | some a => .ok a s
  | none => .no
def Sg.put (s : Sg) (i : Nat) (x : Sl) : Sg := { s with ρ := s.ρ.set i (some x) }
/-- a slot that is read as a value: a list of our own is nobody's from now on -/
def Sg.read (s : Sg) (i : Nat) : R D :=
  match s.ρ[i]? with
  | some (some (.dat d)) => .ok d s
  | some (some (.own ds)) => .ok (.list ds) (s.put i (.dat (.list ds)))
  | _ => .no
def Sg.own (s : Sg) (i : Nat) : Option (List D) :=
  match s.ρ[i]? with
  | some (some (.own ds)) => some ds
  | _ => none
/-- a call's answer -/
inductive CR where
  | ok (d : D) (g : G) | er (c : Nat) (d : D) (g : G) | no
def CR.to (r : CR) (s : Sg) : R D :=
  match r with
  | .ok d g => .ok d { s with g := g }
  | .er c d g => .er c d { s with g := g }
  | .no => .no
/-- an argument: the draws' dict, the script, or a value -/
def isMM (e : Ex) (s : Sg) : Option Sl :=
  match e with
  | .var i => match s.ρ[i]? with
    | some (some .mm) => some .mm
    | some (some (.scr ns)) => some (.scr ns)
    | _ => none
  | _ => none
def argOf (e : Ex) (s : Sg) (r : R D) : R Sl := match isMM e s with
  | some x => .ok x s
  | none => r.bind fun d s1 => .ok (.dat d) s1
/-- a target takes a value -/
def Tg.put : Tg → D → Sg → Option Sg
  | .one i, d, s => some (s.put i (.dat d))
  | .many is, .tuple ds, s => if ds.length = is.length then some ((is.zip ds).foldl (fun s p => s.put p.1 (.dat p.2)) s) else none
  | .many _, _, _ => none
/-- the slots of a comprehension are emptied, and behind it as they were -/
def wipeS (ρ : List (Option Sl)) : List Nat → List (Option Sl)
  | [] => ρ
  | v :: vs => (wipeS ρ vs).set v none
def backS (old : List (Option Sl)) (ρ : List (Option Sl)) : List Nat → List (Option Sl)
  | [] => ρ
  | v :: vs => (backS old ρ vs).set v (match old[v]? with
    | some (some (.dat d)) => some (.dat d)
    | _ => none)
/-- nothing may be let out here -/
def R.quiet {α : Type} : R α → R α
  | .er _ _ _ => .no
  | r => r
/-- the turns of a comprehension -/
def lcLoop (put : D → Sg → Option Sg) (test : Sg → R Bool) (elt : Sg → R D) (own : List Nat) : List D → List D → Sg → R (List D)
  | [], acc, s => .ok acc s
  | d :: ds, acc, s =>
    match put d s with
    | none => .no
    | some s1 => (test s1).quiet.bind fun b s2 =>
      if b then (elt s2).quiet.bind fun y s3 => if acc.length < 1000000 then lcLoop put test elt own ds (acc ++ [y]) { s3 with ρ := wipeS s3.ρ own } else .no else lcLoop put test elt own ds acc { s2 with ρ := wipeS s2.ρ own }
def boolR (r : R D) : R Bool :=
  r.bind fun d s => match d with
    | .bool b => .ok b s
    | _ => .no
/-- lambdas called, one after another -/
def heardLoop (hl : Nat → Sg → R D) (i : Nat) (all : List Nat) : List Nat → List D → Sg → R (List D)
  | [], acc, s => match s.ρ[i]? with
    | some (some (.thk l)) => if l = all then .ok acc s else .no
    | _ => .no
  | k :: ks, acc, s => match s.ρ[i]? with
    | some (some (.thk l)) => if l = all ∧ acc.length < 1000000 then (hl k s).bind fun d s1 => heardLoop hl i all ks (acc ++ [d]) s1 else .no
    | _ => .no
def pairs : Nat → List D → List D
  | _, [] => []
  | n, d :: ds => .tuple [.int n, d] :: pairs (n + 1) ds
def zips : List D → List D → List D
  | a :: as, b :: bs => .tuple [a, b] :: zips as bs
  | _, _ => []
section
variable (cf : Nat → List Sl → G → CR) (hl : Nat → Sg → R D)
mutual
def evalE : Ex → Sg → R D
  | .var i, s => s.read i
  | .k d, s => .ok d s
  | .gl _ d, s => .ok d s
  | .tup es, s => (evalEs es s).bind fun ds s1 => .ok (.tuple ds) s1
  | .lst es, s => (evalEs es s).bind fun ds s1 => .ok (.list ds) s1
  | .un o a, s => (evalE a s).bind fun d s1 => R.ofOpt (unD o d) s1
  | .bin o a b, s => (evalE a s).bind fun d s1 => (evalE b s1).bind fun e s2 => R.ofOpt (binD o d e) s2
  | .and_ a b, s => (boolR (evalE a s)).bind fun c s1 => if c then evalE b s1 else .ok (.bool false) s1
  | .or_ a b, s => (boolR (evalE a s)).bind fun c s1 => if c then .ok (.bool true) s1 else evalE b s1
  | .chain o o' a b c, s => (evalE a s).bind fun d s1 => (evalE b s1).bind fun e s2 => (boolR (R.ofOpt (binD o d e) s2)).bind fun t s3 =>
      if t then (evalE c s3).bind fun f s4 => R.ofOpt (binD o' e f) s4 else .ok (.bool false) s3
  | .ite c a b, s => (boolR (evalE c s)).bind fun t s1 => if t then evalE a s1 else evalE b s1
  | .slice a lo hi, s => (evalE a s).bind fun d s1 => (evalO lo s1).bind fun l s2 => (evalO hi s2).bind fun h s3 => R.ofOpt (sliceD d l h) s3
  | .call f nd es, s => (evalAs es s).bind fun xs s1 => (cf f (xs ++ List.replicate nd (.dat .none)) s1.g).to s1
  | .callk f perm es, s => (evalAs es s).bind fun xs s1 => (cf f (perm.map fun j => xs.getD j (.dat .none)) s1.g).to s1
  | .lc own tg it test elt, s => (evalI it s).bind fun ds s1 =>
      (lcLoop tg.put (fun s => match test with | none => .ok true s | some t => boolR (evalE t s)) (evalE elt) own ds [] { s1 with ρ := wipeS s1.ρ own }).bind fun ys s2 =>
        .ok (.list ys) { s2 with ρ := backS s1.ρ s2.ρ own }
  | .bun o i, s => match s.own i with
    | some ds => match unD o (.list ds) with
      | some d => if atomD d then .ok d s else .no
      | none => .no
    | none => .no
  | .bnil ne i, s => match s.own i with
    | some ds => if SeqAt.shaped (.list ds) then .ok (.bool (if ne then !ds.isEmpty else ds.isEmpty)) s else .no
    | none => .no
  | .btup i, s => match s.own i with
    | some ds => .ok (.tuple ds) s
    | none => .no
  | .bidx i e, s => match s.own i with
    | some _ => (evalE e s).bind fun d s1 => match s1.own i, d with
      | some ds, .int n => R.ofOpt (at_ ds n) s1
      | _, _ => .no
    | none => .no
  | .pop i e, s => match s.own i with
    | some _ => (evalE e s).bind fun d s1 => match s1.own i, d with
      | some ds, .int n => match seqIndex? n ds.length with
        | some j => match ds[j]? with
          | some y => if -(2 ^ 63) ≤ n ∧ n < 2 ^ 63 then .ok y (s1.put i (.own (ds.eraseIdx j))) else .no
          | none => .no
        | none => .no
      | _, _ => .no
    | none => .no
  | .heard k, s => hl k s
  | .heardAll i, s => match s.ρ[i]? with
    | some (some (.thk ks)) => (heardLoop hl i ks ks [] s).bind fun ds s1 => .ok (.list ds) s1
    | _ => .no
def evalEs : List Ex → Sg → R (List D)
  | [], s => .ok [] s
  | e :: es, s => (evalE e s).bind fun d s1 => (evalEs es s1).bind fun ds s2 => .ok (d :: ds) s2
def evalAs : List Ex → Sg → R (List Sl)
  | [], s => .ok [] s
  | e :: es, s => (argOf e s (evalE e s)).bind fun d s1 => (evalAs es s1).bind fun ds s2 => .ok (d :: ds) s2
def evalO : Option Ex → Sg → R (Option Int)
  | none, s => .ok none s
  | some e, s => (evalE e s).bind fun d s1 => match intOf d with
    | some i => .ok (some i) s1
    | none => .no
/-- what is walked -/
def evalI : It → Sg → R (List D)
  | .seq e, s => (evalE e s).bind fun d s1 => R.ofOpt (seqOf d) s1
  | .rng e, s => (evalE e s).bind fun d s1 => match d with
    | .int n => if -1000000 ≤ n ∧ n ≤ 1000000 then .ok ((List.range n.toNat).map fun (k : Nat) => .int k) s1 else .no
    | _ => .no
  | .rng2 a b, s => (evalE a s).bind fun d s1 => (evalE b s1).bind fun e s2 => match d, e with
    | .int m, .int n => if -1000000 ≤ m ∧ m ≤ 1000000 ∧ -1000000 ≤ n ∧ n ≤ 1000000 then .ok ((List.range (n - m).toNat).map fun (k : Nat) => .int (m + k)) s2 else .no
    | _, _ => .no
  | .zip a b, s => (evalE a s).bind fun d s1 => (evalE b s1).bind fun e s2 => match d, e with
    | .list xs, .list ys => .ok (zips xs ys) s2
    | .tuple xs, .tuple ys => .ok (zips xs ys) s2
    | _, _ => .no
  | .enum e, s => (evalE e s).bind fun d s1 => match seqOf d with
    | some ds => .ok (pairs 0 ds) s1
    | none => .no
  | .scr i, s => match s.ρ[i]? with
    | some (some (.scr ns)) => .ok (ns.map .int) s
    | _ => .no
  | .enumScr i, s => match s.ρ[i]? with
    | some (some (.scr ns)) => .ok (pairs 0 (ns.map .int)) s
    | _ => .no
end
end

/-! ### statements -/
inductive Fl where
  | nx (s : Sg) | rt (d : D) (g : G) | bk (s : Sg) | ct (s : Sg) | er (c : Nat) (d : D) (s : Sg) | no
def R.fl {α : Type} (r : R α) (f : α → Sg → Fl) : Fl :=
  match r with
  | .ok a s => f a s
  | .er c d s => .er c d s
  | .no => .no
def Fl.seq (a : Fl) (f : Sg → Fl) : Fl :=
  match a with
  | .nx s => f s
  | r => r
/-- a loop over what is walked -/
def forLoop (put : D → Sg → Option Sg) (b : Sg → Fl) : List D → Sg → Fl
  | [], s => .nx s
  | d :: ds, s =>
    match put d s with
    | none => .no
    | some s1 => match b s1 with
      | .nx s2 => forLoop put b ds s2
      | .ct s2 => forLoop put b ds s2
      | .bk s2 => .nx s2
      | r => r
def whileLoop (t : Sg → R Bool) (b : Sg → Fl) : Nat → Sg → Fl
  | 0, _ => .no
  | n + 1, s => (t s).fl fun c s1 =>
    if c then (match b s1 with
      | .nx s2 => whileLoop t b n s2
      | .ct s2 => whileLoop t b n s2
      | .bk s2 => .nx s2
      | r => r) else .nx s1
def wTurns : Nat := 1000000
section
variable (cf : Nat → List Sl → G → CR) (hl : Nat → Sg → R D)
mutual
def evalS : Sx → Sg → Fl
  | .set i e, s => (evalE cf hl e s).fl fun d s1 => .nx (s1.put i (.dat d))
  | .setOwn i e, s => (evalE cf hl e s).fl fun d s1 => match d with
    | .list ds => .nx (s1.put i (.own ds))
    | _ => .no
  | .setN is es, s => (evalEs cf hl es s).fl fun ds s1 => .nx ((is.zip ds).foldl (fun s p => s.put p.1 (.dat p.2)) s1)
  | .unp is e, s => (evalE cf hl e s).fl fun d s1 => match (Tg.many is).put d s1 with
    | some s2 => .nx s2
    | none => .no
  | .setIdx i k v, s => (evalE cf hl v s).fl fun y s1 => match s1.own i with
    | some _ => (evalE cf hl k s1).fl fun d s2 => match s2.own i, d with
      | some ds, .int n => match ixN ds.length n with
        | some j => .nx (s2.put i (.own (ds.set j y)))
        | none => .no
      | _, _ => .no
    | none => .no
  | .app i e, s => match s.own i with
    | some _ => (evalE cf hl e s).fl fun y s1 => match s1.own i with
      | some ds => if ds.length < 1000000 then .nx (s1.put i (.own (ds ++ [y]))) else .no
      | none => .no
    | none => .no
  | .expr e, s => (evalE cf hl e s).fl fun _ s1 => .nx s1
  | .ret e, s => (evalE cf hl e s).fl fun d s1 => .rt d s1.g
  | .if_ c a b, s => (boolR (evalE cf hl c s)).fl fun t s1 => if t then evalSs a s1 else evalSs b s1
  | .for_ tg it b, s => (evalI cf hl it s).fl fun ds s1 => forLoop tg.put (evalSs b) ds s1
  | .while_ c b, s => whileLoop (fun s => boolR (evalE cf hl c s)) (evalSs b) wTurns s
  | .raise c e, s => (evalE cf hl e s).fl fun d s1 => .er c d s1
  | .brk, s => .bk s
  | .cnt, s => .ct s
  | .pass, s => .nx s
  | .lamInit i ks, s => .nx (s.put i (.thk ks))
  | .lamApp i k, s => match s.ρ[i]? with
    | some (some (.thk ks)) => if ks.length < 1000 then .nx (s.put i (.thk (ks ++ [k]))) else .no
    | _ => .no
def evalSs : List Sx → Sg → Fl
  | [], s => .nx s
  | a :: r, s => (evalS a s).seq (evalSs r)
end
end
/-- a def: how many slots, how many lambdas, its body -/
structure Df where
  slots : Nat
  body : List Sx
  lams : List Ex
inductive Fn where
  | df (d : Df) | pr (p : List Sl → G → CR)
/-- how an exception that a lambda lets out is told: its class's number, the word -/
abbrev Hd := List (Nat × Str)
def told (hs : Hd) : R D → R D
  | .ok d s => .ok (.list [.str (PySem.Str.ofString "told"), d]) s
  | .er c d s => match hs.lookup c with
    | some w => .ok (.list [.str w, d]) s
    | none => .no
  | .no => .no
def Fl.cr : Fl → CR
  | .nx s => .ok .none s.g
  | .rt d g => .ok d g
  | .er c d s => .er c d s.g
  | _ => .no
def heardOf (hs : Hd) (cf : Nat → List Sl → G → CR) (lams : List Ex) (k : Nat) (s : Sg) : R D :=
  match lams[k]? with
  | some e => told hs (evalE cf (fun _ _ => .no) e s)
  | none => .no
/-- lambdas run two levels down: cf2 -/
def runDf (hs : Hd) (cf cf2 : Nat → List Sl → G → CR) (d : Df) (args : List Sl) (g : G) : CR :=
  (evalSs cf (heardOf hs cf2 d.lams) d.body ⟨args.map some ++ List.replicate (d.slots - args.length) none, g⟩).cr
def callF (hs : Hd) (tab : Nat → Fn) : Nat → Nat → List Sl → G → CR
  | 0, _, _, _ => .no
  | n + 1, f, args, g => match tab f with
    | .df d => runDf hs (callF hs tab n) (match n with
      | k + 2 => callF hs tab k
      | _ => fun _ _ _ => .no) d args g
    | .pr p => p args g
end Pv

/-! Pv3: what is wanted behind an expression; how such wishes are led on. -/
namespace Pv
open PySem L2

/-! ### wishes -/
theorem pe_imp {X : Cx} {e : Expr} {t t' : TE} (h : PE X e t) (i : ∀ σ H Q, t' σ H Q → t σ H Q) : PE X e t' := ⟨fun pins s σ H Q I q => h.run pins s σ H Q I (i σ H Q q)⟩
theorem pt_imp {X : Cx} {e : Expr} {t t' : TT} (h : PT X e t) (i : ∀ σ H Q, t' σ H Q → t σ H Q) : PT X e t' := ⟨fun pins s σ H Q I q => h.run pins s σ H Q I (i σ H Q q)⟩
theorem pw_imp {X : Cx} {e : Expr} {t t' : TT} (h : PW X e t) (i : ∀ σ H Q, t' σ H Q → t σ H Q) : PW X e t' := ⟨fun w pins s σ H Q I q => h.run w pins s σ H Q I (i σ H Q q)⟩
theorem pa_imp {X : Cx} {e : List Expr} {t t' : TA} (h : PA X e t) (i : ∀ σ H Q, t' σ H Q → t σ H Q) : PA X e t' := ⟨fun p pins s σ H Q I q => h.run p pins s σ H Q I (i σ H Q q)⟩
/-- the exceptions' classes: where each stands, and its field's name -/
structure Ec where
  cls : Nat → Addr
  att : Nat → Str
  tb : List (Addr × Str)
/-- from here on: O' of what was owned, a heap that keeps the rest, the frame -/
structure Go (C : Cf) (O O' : Addr → Prop) (σ : L2.St) (H H' : Hp) (S : Sg) : Prop where
  sub : ∀ b, O' b → O b
  ext : Ext O H H'
  ok : EOk C O' σ H' S
theorem Go.trans {C : Cf} {O O1 O2 : Addr → Prop} {σ : L2.St} {H H1 H2 : Hp} {S1 S2 : Sg} (a : Go C O O1 σ H H1 S1) (b : Go C O1 O2 σ H1 H2 S2) : Go C O O2 σ H H2 S2 :=
  ⟨fun c h => a.sub c (b.sub c h), a.ext.trans b.ext a.sub, b.ok⟩
theorem Go.vis {C : Cf} {O O' : Addr → Prop} {σ : L2.St} {H H' : Hp} {S : Sg} (a : Go C O O' σ H H' S) : Sub (vis O H) (vis O' H') := a.ext.vis a.sub
theorem Go.refl {C : Cf} {O : Addr → Prop} {σ : L2.St} {H : Hp} {S : Sg} (h : EOk C O σ H S) : Go C O O σ H H S := ⟨fun _ h => h, .refl _ _, h⟩
theorem Go.grow {C : Cf} {O O' : Addr → Prop} {σ : L2.St} {H H' H2 : Hp} {S : Sg} (a : Go C O O' σ H H' S) (s : Sub H' H2) : Go C O O' σ H H2 S :=
  ⟨a.sub, a.ext.trans (Ext.of_sub (O := O') s) a.sub, a.ok.grow s⟩
/-- what is wanted of an answer: Rl what stands for what, Q what follows, W what is let out -/
def Post (Ce : Ec) (C : Cf) (W : WX) {α β : Type} (Rl : (Addr → Prop) → Hp → β → α → Prop) (O : Addr → Prop) (σ : L2.St) (H : Hp) (Q : β → Hp → Prop) : R α → Prop
  | .ok d S' => ∀ v H' O', Go C O O' σ H H' S' → Rl O' H' v d → Q v H'
  | .er c d S' => ∀ dd v H' O', Go C O O' σ H H' S' → H' dd = some (.xd [(Ce.att c, v)]) → Rp C.K (vis O' H') v d → W (.ref (Ce.cls c)) (some dd) σ H'
  | .no => False
section
variable {Ce : Ec} {C : Cf} {W : WX} {α β γ δ : Type} {Rl : (Addr → Prop) → Hp → β → α → Prop} {Rm : (Addr → Prop) → Hp → δ → γ → Prop} {O O' : Addr → Prop} {σ : L2.St} {H H' : Hp}
theorem Post.later {Q : β → Hp → Prop} {r : R α} {S : Sg} (p : Post Ce C W Rl O σ H Q r) (g : Go C O O' σ H H' S) : Post Ce C W Rl O' σ H' Q r := by
  cases r with
  | ok d S' => exact fun v H2 O2 g2 rl => p v H2 O2 (g.trans g2) rl
  | er c d S' => exact fun dd v H2 O2 g2 h1 h2 => p dd v H2 O2 (g.trans g2) h1 h2
  | no => exact p
/-- one behind the other -/
theorem Post.bind {Q : δ → Hp → Prop} {Q1 : β → Hp → Prop} {r : R α} {k : α → Sg → R γ} (p : Post Ce C W Rm O σ H Q (r.bind k))
    (h : ∀ d S' v H' O', r = .ok d S' → Go C O O' σ H H' S' → Rl O' H' v d → Post Ce C W Rm O' σ H' Q (k d S') → Q1 v H') : Post Ce C W Rl O σ H Q1 r := by
  cases r with
  | ok d S' => exact fun v H2 O2 g2 rl => h d S' v H2 O2 rfl g2 rl (Post.later (r := k d S') p g2)
  | er c d S' => exact p
  | no => exact p
theorem Post.imp {Q Q1 : β → Hp → Prop} {r : R α} (p : Post Ce C W Rl O σ H Q r) (h : ∀ v H', Q v H' → Q1 v H') : Post Ce C W Rl O σ H Q1 r := by
  cases r with
  | ok d S' => exact fun v H2 O2 g2 rl => h _ _ (p v H2 O2 g2 rl)
  | er c d S' => exact p
  | no => exact p
end
/-- a value -/
def Rv (C : Cf) : (Addr → Prop) → Hp → V → D → Prop := fun O H v d => Rp C.K (vis O H) v d
def Rvs (C : Cf) : (Addr → Prop) → Hp → List V → List D → Prop := fun O H v d => RpAll C.K (vis O H) v d
def Rb : (Addr → Prop) → Hp → Bool → Bool → Prop := fun _ _ a b => a = b
/-- an argument -/
def ArgOk (K : PySem.W.Frag) (W : Option MA) (O : Addr → Prop) (H : Hp) : V → Sl → Prop
  | v, .dat d => Rp K (vis O H) v d
  | v, .mm => ∃ m, W = some m ∧ v = .ref m.A
  | v, .scr ns => ∃ a, v = .ref a ∧ SqL K (vis O H) a (ns.map V.int)
  | _, _ => False
inductive ArgsOk (K : PySem.W.Frag) (W : Option MA) (O : Addr → Prop) (H : Hp) : List V → List Sl → Prop
  | nil : ArgsOk K W O H [] []
  | cons {v : V} {x : Sl} {vs : List V} {xs : List Sl} : ArgOk K W O H v x → ArgsOk K W O H vs xs → ArgsOk K W O H (v :: vs) (x :: xs)
def Ra (C : Cf) : (Addr → Prop) → Hp → V → Sl → Prop := fun O H v d => ArgOk C.K C.W O H v d
def Ras (C : Cf) : (Addr → Prop) → Hp → List V → List Sl → Prop := fun O H v d => ArgsOk C.K C.W O H v d
/-- the reading of an expression that does f -/
def tE (Ce : Ec) (C : Cf) (W : WX) (f : Sg → R D) : TE := fun σ H Q => ∃ O S, EOk C O σ H S ∧ Post Ce C W (Rv C) O σ H Q (f S)
def tT (Ce : Ec) (C : Cf) (W : WX) (f : Sg → R D) : TT := fun σ H Q => ∃ O S, EOk C O σ H S ∧ Post Ce C W Rb O σ H Q (boolR (f S))
def tEs (Ce : Ec) (C : Cf) (W : WX) (f : Sg → R (List D)) : TA := fun σ H Q => ∃ O S, EOk C O σ H S ∧ Post Ce C W (Rvs C) O σ H Q (f S)
def tAs (Ce : Ec) (C : Cf) (W : WX) (f : Sg → R (List Sl)) : TA := fun σ H Q => ∃ O S, EOk C O σ H S ∧ Post Ce C W (Ras C) O σ H Q (f S)

/-! ### what operators ask -/
/-- an answer by values: nothing but new objects -/
def Ans (K : PySem.W.Frag) (O : Addr → Prop) (H : Hp) (Q : VK) (d : D) : Prop := ∀ v H', Sub H H' → Rp K (vis O H') v d → Q v H'
def OpD (X : Cx) (r : R2) (bd : D → D → Option D) : Prop :=
  ∀ d e z O H x y Q, (∀ b, O b → H b ≠ none) → bd d e = some z → Rp X.K (vis O H) x d → Rp X.K (vis O H) y e → Ans X.K O H Q z → r x y H Q
def UnD (X : Cx) (r : V → Hp → VK → Prop) (ud : D → Option D) : Prop :=
  ∀ d z O H x Q, (∀ b, O b → H b ≠ none) → ud d = some z → Rp X.K (vis O H) x d → Ans X.K O H Q z → r x H Q
section
variable {X : Cx} {Ce : Ec} {C : Cf} {W : WX} {a b : Expr} {f g : Sg → R D} {pos : Pos}
theorem tE_op {r : R2} {bd : D → D → Option D} (hK : X.K = C.K) (ho : OpD X r bd) {ta tb : TE} (ha : ta = tE Ce C W f) (hb : tb = tE Ce C W g) (σ : L2.St) (H : Hp) (Q : VK)
    (h : tE Ce C W (fun s => (f s).bind fun d s1 => (g s1).bind fun e s2 => R.ofOpt (bd d e) s2) σ H Q) : tOp r ta tb σ H Q := by
  subst ha hb
  obtain ⟨O, S, E, p⟩ := h
  refine ⟨O, S, E, p.bind fun d S1 v H1 O1 e1 g1 r1 p1 => ⟨O1, S1, g1.ok, p1.bind fun d2 S2 v2 H2 O2 e2 g2 r2 p2 => ?_⟩⟩
  cases hz : bd d d2 with
  | none => rw [hz] at p2; exact p2.elim
  | some z =>
    rw [hz] at p2
    refine ho d d2 z O2 H2 v v2 Q g2.ok.trk hz ?_ ?_ fun v' H' s' q' => p2 v' H' O2 ((Go.refl g2.ok).grow s') ?_
    · rw [hK]; exact rp_sub g2.vis _ _ r1
    · rw [hK]; exact r2
    · rw [hK] at q'; exact q'
theorem pe_bin {op : Operator} {r : R2} {bd : D → D → Option D} (hK : X.K = C.K) (hr : OpR X (binaryOp op) r) (ho : OpD X r bd) (ha : PE X a (tE Ce C W f)) (hb : PE X b (tE Ce C W g)) :
    PE X (.BinOp a op b pos) (tE Ce C W fun s => (f s).bind fun d s1 => (g s1).bind fun e s2 => R.ofOpt (bd d e) s2) := pe_imp (pe_op hr ha hb) (tE_op hK ho rfl rfl)
theorem pe_cmp2 {op : CmpOp} {r : R2} {bd : D → D → Option D} (hK : X.K = C.K) (hr : OpR X (compareOp op) r) (hm : behindInMarks op b = false) (ho : OpD X r bd) (ha : PE X a (tE Ce C W f)) (hb : PE X b (tE Ce C W g)) :
    PE X (.Compare a [op] [b] pos) (tE Ce C W fun s => (f s).bind fun d s1 => (g s1).bind fun e s2 => R.ofOpt (bd d e) s2) := pe_imp (pe_cmpR hr ha hb hm) (tE_op hK ho rfl rfl)
theorem tT_of (σ : L2.St) (H : Hp) (Q : Bool → Hp → Prop) (h : tT Ce C W f σ H Q) : tTest (tE Ce C W f) σ H Q := by
  obtain ⟨O, S, E, p⟩ := h
  refine ⟨O, S, E, p.bind fun d S1 v H1 O1 e1 g1 r1 p1 => ?_⟩
  cases d with
  | bool t => cases r1; exact ⟨t, rfl, p1 t H1 O1 (Go.refl g1.ok) rfl⟩
  | none => exact p1.elim
  | int _ => exact p1.elim
  | str _ => exact p1.elim
  | list _ => exact p1.elim
  | tuple _ => exact p1.elim
  | dict _ => exact p1.elim
theorem pt_cmp2 {op : CmpOp} {r : R2} {bd : D → D → Option D} (hK : X.K = C.K) (hr : OpR X (compareOp op) r) (hm : behindInMarks op b = false) (ho : OpD X r bd) (ha : PE X a (tE Ce C W f)) (hb : PE X b (tE Ce C W g)) :
    PT X (.Compare a [op] [b] pos) (tT Ce C W fun s => (f s).bind fun d s1 => (g s1).bind fun e s2 => R.ofOpt (bd d e) s2) := by
  refine pt_imp (pt_cmpR hr ha hb hm) fun σ H Q h => ?_
  have q := tT_of σ H Q h
  exact tE_op hK ho rfl rfl σ H _ q
/-- any plain value as a test -/
theorem pt_plain (ha : PE X a (tE Ce C W f)) (he : ∀ whole, isTrue a X.env whole = (do let v ← whole; standAt a.pos; holding [v] (truthy v))) : PT X a (tT Ce C W f) := pt_imp (pt_val ha he) (tT_of (f := f))
theorem tE_un {r : V → Hp → VK → Prop} {ud : D → Option D} (hK : X.K = C.K) (ho : UnD X r ud) (σ : L2.St) (H : Hp) (Q : VK)
    (h : tE Ce C W (fun s => (f s).bind fun d s1 => R.ofOpt (ud d) s1) σ H Q) : tE Ce C W f σ H (fun x H1 => r x H1 Q) := by
  obtain ⟨O, S, E, p⟩ := h
  refine ⟨O, S, E, p.bind fun d S1 v H1 O1 e1 g1 r1 p1 => ?_⟩
  cases hz : ud d with
  | none => rw [hz] at p1; exact p1.elim
  | some z =>
    rw [hz] at p1
    refine ho d z O1 H1 v Q g1.ok.trk hz ?_ fun v' H' s' q' => p1 v' H' O1 ((Go.refl g1.ok).grow s') ?_
    · rw [hK]; exact r1
    · rw [hK] at q'; exact q'
theorem pe_un2 {op : UnaryOp} {r : V → Hp → VK → Prop} {ud : D → Option D} (hK : X.K = C.K) (hr : UnR X (unaryOp op) r) (ho : UnD X r ud) (ha : PE X a (tE Ce C W f)) :
    PE X (.UnaryOp op a pos) (tE Ce C W fun s => (f s).bind fun d s1 => R.ofOpt (ud d) s1) := pe_imp (pe_un hr ha) (tE_un hK ho)
/-- a call of a built-in thing with one argument -/
theorem pe_b1 {x : Str} {p : Pos} {id : String} {r : List V → Hp → VK → Prop} {ud : D → Option D} (hK : X.K = C.K) (hc : CallR X (.builtin id) r) (hg : Gl X x) (hm : X.mg x = none) (hv : bootBuiltins x = some (.builtin id)) (hn : x ≠ "__name__") (hdb : (x == ("__debug__" : Str)) = false)
    (ho : UnD X (fun v => r [v]) ud) (ha : PE X a (tE Ce C W f)) (hs : starEach [a] X.env = (false, eval a X.env) :: starEach [] X.env) :
    PE X (.Call (.Name x p) [a] [] pos) (tE Ce C W fun s => (f s).bind fun d s1 => R.ofOpt (ud d) s1) :=
  pe_imp (pe_callB hc hg hm hv (pa_cons ha pa_nil hs) hn hdb hs) (tE_un hK ho)
theorem pe_t1 {x : Str} {p : Pos} {id : String} {r : List V → Hp → VK → Prop} {ud : D → Option D} (hK : X.K = C.K) (hc : CallR X (.type id) r) (hg : Gl X x) (hm : X.mg x = none) (hv : bootBuiltins x = some (.type id)) (hn : x ≠ "__name__") (hdb : (x == ("__debug__" : Str)) = false)
    (ho : UnD X (fun v => r [v]) ud) (ha : PE X a (tE Ce C W f)) (hs : starEach [a] X.env = (false, eval a X.env) :: starEach [] X.env) :
    PE X (.Call (.Name x p) [a] [] pos) (tE Ce C W fun s => (f s).bind fun d s1 => R.ofOpt (ud d) s1) :=
  pe_imp (pe_callTy hc hg hm hv (pa_cons ha pa_nil hs) hn hdb hs) (tE_un hK ho)
end
end Pv

/-! Pv4: the operators, one by one. -/
namespace Pv
open PySem L2
theorem line_big : (1000000 : Nat) ≤ sizeLine := by rw [sizeLine_eq]; decide
section
variable {K : PySem.W.Frag} {O : Addr → Prop} {H : Hp} {Q : VK}
theorem Ans.now {d : D} {v : V} (a : Ans K O H Q d) (h : Rp K (vis O H) v d) : Q v H := a v H (Sub.refl H) h
theorem new_out {p : Addr} (t : ∀ b, O b → H b ≠ none) (n : H p = none) : ¬ O p := fun z => t p z n
theorem vis_new {p : Addr} {o : HO} (t : ∀ b, O b → H b ≠ none) (n : H p = none) (h : Nt o) : vis O (upd H p o) p = some o := vis_of (new_out t n) h upd_same
theorem nt_tup (xs : List V) : Nt (.tup xs) := fun _ z => nomatch z
theorem nt_lst (xs : List V) : Nt (.lst xs) := fun _ z => nomatch z
theorem Ans.newT {ds : List D} {vs : List V} (a : Ans K O H Q (.tuple ds)) (t : ∀ b, O b → H b ≠ none) (h : RpAll K (vis O H) vs ds) : ∀ p, H p = none → Q (.ref p) (upd H p (.tup vs)) := fun p n =>
  a _ _ (Sub.upd n) (.tup (.inl (.inl (vis_new t n (nt_tup _)))) (rpAll_sub ((Sub.upd n).vis fun b z => .inl z) _ _ h))
theorem Ans.newL {ds : List D} {vs : List V} (a : Ans K O H Q (.list ds)) (t : ∀ b, O b → H b ≠ none) (h : RpAll K (vis O H) vs ds) : ∀ p, H p = none → Q (.ref p) (upd H p (.lst vs)) := fun p n =>
  a _ _ (Sub.upd n) (.lst (vis_new t n (nt_lst _)) (rpAll_sub ((Sub.upd n).vis fun b z => .inl z) _ _ h))
end
section
variable {X : Cx}
def rAdd3 (K : PySem.W.Frag) : R2 := fun x y H Q => rI0 (fun i j => .int (i + j)) x y H Q ∨ rCatA K x y H Q ∨ rCat x y H Q
theorem or_add : OpR X (binaryOp .Add) (rAdd3 X.K) := op_add.or (op_catA.or op_cat)
theorem od_add : OpD X (rAdd3 X.K) (binD .add) := by
  intro d e z O H x y Q t hz hx hy a
  cases hx with
  | int i =>
    cases hy with
    | int j => cases hz; exact .inl ⟨i, j, rfl, rfl, a.now (.int _)⟩
    | _ => cases hz
  | tup hs hl =>
    cases hy with
    | tup hs2 hl2 =>
      simp only [binD] at hz
      split at hz
      · rename_i hle
        cases hz
        have l1 := hl.len
        have l2 := hl2.len
        refine .inr (.inl ⟨_, _, _, _, rfl, rfl, sqT_sub vis_sub hs, sqT_sub vis_sub hs2, ?_, fun e0 => ?_, fun _ e0 => ?_, fun _ _ => a.newT t (hl.app hl2)⟩)
        · exact Nat.le_trans (by omega) line_big
        · subst e0
          cases hl
          exact a.now (.tup hs2 hl2)
        · subst e0
          cases hl2
          rw [List.append_nil] at a
          exact a.now (.tup hs hl)
      · cases hz
    | _ => cases hz
  | lst hs hl =>
    cases hy with
    | lst hs2 hl2 =>
      simp only [binD] at hz
      split at hz
      · rename_i hle
        cases hz
        have l1 := hl.len
        have l2 := hl2.len
        refine .inr (.inr ⟨_, _, _, _, rfl, rfl, vis_sub _ _ hs, vis_sub _ _ hs2, Nat.le_trans (by omega) line_big, a.newL t (hl.app hl2)⟩)
      · cases hz
    | _ => cases hz
  | _ => cases hy <;> cases hz
theorem od_sub : OpD X (rI0 fun i j => .int (i - j)) (binD .sub) := by
  intro d e z O H x y Q t hz hx hy a
  cases hx with
  | int i =>
    cases hy with
    | int j => cases hz; exact ⟨i, j, rfl, rfl, a.now (.int _)⟩
    | _ => cases hz
  | _ => cases hy <;> cases hz
def rMul3 (K : PySem.W.Frag) : R2 := fun x y H Q => rI CMulW (fun i j => .int (i * j)) x y H Q ∨ rRep x y H Q
theorem or_mul : OpR X (binaryOp .Mult) (rMul3 X.K) := op_mulW.or op_rep
theorem od_fdiv : OpD X (rI CDivW fun i j => .int (i / j)) (binD .fdiv) := by
  intro d e z O H x y Q t hz hx hy a
  cases hx with
  | int i =>
    cases hy with
    | int j =>
      simp only [binD] at hz
      split at hz
      · rename_i h; cases hz; exact ⟨i, j, rfl, rfl, h, a.now (.int _)⟩
      · cases hz
    | _ => cases hz
  | _ => cases hy <;> cases hz
theorem od_mod : OpD X (rI (fun _ j => 0 < j) fun i j => .int (i % j)) (binD .mod) := by
  intro d e z O H x y Q t hz hx hy a
  cases hx with
  | int i =>
    cases hy with
    | int j =>
      simp only [binD] at hz
      split at hz
      · rename_i h; cases hz; exact ⟨i, j, rfl, rfl, h, a.now (.int _)⟩
      · cases hz
    | _ => cases hz
  | _ => cases hy <;> cases hz
theorem od_pow : OpD X (rI CPow fun i j => .int (i ^ j.toNat)) (binD .pow) := by
  intro d e z O H x y Q t hz hx hy a
  cases hx with
  | int i =>
    cases hy with
    | int j =>
      simp only [binD] at hz
      split at hz
      · rename_i h; cases hz; exact ⟨i, j, rfl, rfl, ⟨h.1, by have := h.2.1; omega, h.2.2⟩, a.now (.int _)⟩
      · cases hz
    | _ => cases hz
  | _ => cases hy <;> cases hz
theorem od_eq : OpD X (rEqD X.K) (binD .eq) := by
  intro d e z O H x y Q t hz hx hy a
  have hz' : (if SeqAt.shaped d && SeqAt.shaped e then some (PyData.bool (PyData.eqv d e)) else none) = some z := by
    rw [← hz]; unfold binD; cases d <;> cases e <;> rfl
  split at hz'
  · rename_i h
    rw [Bool.and_eq_true] at h
    cases hz'
    exact ⟨d, e, rp_dp _ _ (rp_sub vis_sub _ _ hx), rp_dp _ _ (rp_sub vis_sub _ _ hy), h.1, h.2, a.now (.bl _)⟩
  · cases hz'
theorem od_ne : OpD X (rNeD X.K) (binD .ne) := by
  intro d e z O H x y Q t hz hx hy a
  have hz' : (if SeqAt.shaped d && SeqAt.shaped e then some (PyData.bool (!PyData.eqv d e)) else none) = some z := by
    rw [← hz]; unfold binD; cases d <;> cases e <;> rfl
  split at hz'
  · rename_i h
    rw [Bool.and_eq_true] at h
    cases hz'
    exact ⟨d, e, rp_dp _ _ (rp_sub vis_sub _ _ hx), rp_dp _ _ (rp_sub vis_sub _ _ hy), h.1, h.2, a.now (.bl _)⟩
  · cases hz'
theorem od_ord {o : BinO} {p : Int → Int → Prop} [∀ i j, Decidable (p i j)] (h : ∀ d e z, binD o d e = some z → ∃ i j, d = .int i ∧ e = .int j ∧ z = .bool (decide (p i j))) : OpD X (rI0 fun i j => .bl (decide (p i j))) (binD o) := by
  intro d e z O H x y Q t hz hx hy a
  obtain ⟨i, j, rfl, rfl, rfl⟩ := h d e z hz
  cases hx
  cases hy
  exact ⟨i, j, rfl, rfl, a.now (.bl _)⟩
theorem od_lt : OpD X (rI0 fun i j => .bl (decide (i < j))) (binD .lt) := od_ord fun d e z h => by
  cases d <;> cases e <;> simp only [binD] at h <;> cases h
  exact ⟨_, _, rfl, rfl, rfl⟩
theorem od_le : OpD X (rI0 fun i j => .bl (decide (i ≤ j))) (binD .le) := od_ord fun d e z h => by
  cases d <;> cases e <;> simp only [binD] at h <;> cases h
  exact ⟨_, _, rfl, rfl, rfl⟩
theorem od_gt : OpD X (rI0 fun i j => .bl (decide (j < i))) (binD .gt) := od_ord (p := fun i j => j < i) fun d e z h => by
  cases d <;> cases e <;> simp only [binD] at h <;> cases h
  exact ⟨_, _, rfl, rfl, rfl⟩
theorem od_ge : OpD X (rI0 fun i j => .bl (decide (j ≤ i))) (binD .ge) := od_ord (p := fun i j => j ≤ i) fun d e z h => by
  cases d <;> cases e <;> simp only [binD] at h <;> cases h
  exact ⟨_, _, rfl, rfl, rfl⟩
end
end Pv
namespace Pv
open PySem PySem.Spec PyProof.Rows L2
theorem tmul_same (l : Addr) (items : Array Value) (n : Nat) (dd : Option Addr) (sl : Array (Option Value)) (x : Int) (u : Tok) (h0 : (decide (x < -(2 ^ 63)) || decide (x ≥ 2 ^ 63)) = false) (h1 : (items.isEmpty || x == 1) = true) :
    Meets (Builtin.«tuple.__mul__» ⟨[.ref l, .int x u], []⟩) (fun _ R s => s.heap.get? l = some { cls := .type "tuple", dict := dd, data := .seq items n, slots := sl } ∧ R (.ok (.ret (Value.ref l))) s) :=
  .of_wp fun prog w A R s h => by
    obtain ⟨hp, g, d, tk, os⟩ := s
    obtain ⟨hl, h⟩ := h
    have f1 := AutoSeq1.idx_int
    wp_walk using wpAny_loadPart' hl
    refine wpAny_ite_false (decide_eq_false (by rw [h0]; exact Bool.false_ne_true)) ?_
    wp_walk using wpAny_loadPart' hl
    exact ⟨_, rfl, h⟩
theorem tmul_none (l : Addr) (items : Array Value) (n : Nat) (dd : Option Addr) (sl : Array (Option Value)) (x : Int) (u : Tok) (h0 : (decide (x < -(2 ^ 63)) || decide (x ≥ 2 ^ 63)) = false) (h1 : (items.isEmpty || x == 1) = false)
    (h2 : (decide (x ≤ 0) || items.isEmpty) = true) :
    Meets (Builtin.«tuple.__mul__» ⟨[.ref l, .int x u], []⟩) (fun _ R s => s.heap.get? l = some { cls := .type "tuple", dict := dd, data := .seq items n, slots := sl } ∧
      R (.ok (.ret (Value.ref s.heap.objs.size))) { s with heap := s.heap.push { cls := Value.type "tuple", data := Data.seq #[] }, toks := s.toks }) :=
  .of_wp fun prog w A R s h => by
    obtain ⟨hp, g, d, tk, os⟩ := s
    obtain ⟨hl, h⟩ := h
    have f1 := AutoSeq1.idx_int
    wp_walk using wpAny_loadPart' hl
    refine wpAny_ite_false (decide_eq_false (by rw [h0]; exact Bool.false_ne_true)) ?_
    wp_walk using wpAny_loadPart' hl
    exact ⟨_, rfl, h⟩
def rRep01 (K : PySem.W.Frag) : R2 := fun x y H Q => ∃ l k xs, x = .ref l ∧ y = .int k ∧ SqT K H l xs ∧ xs ≠ [] ∧ 0 ≤ k ∧ k ≤ 1 ∧
  (k = 1 → Q (.ref l) H) ∧ (k = 0 → ∀ p, H p = none → Q (.ref p) (upd H p (.tup [])))
theorem or_rep01 {X : Cx} : OpR X (binaryOp .Mult) (rRep01 X.K) := by
  intro pins s σ H x y v u Q I rx ry h
  obtain ⟨l, k, xs, rfl, rfl, hT, hne, k0, k1, q1, q0⟩ := h
  cases rx
  obtain ⟨t, rfl⟩ := ry
  obtain ⟨its, r, ⟨⟨cls, dd, data, sl⟩, ho, hc, n, hd⟩, hs⟩ := I.tuple hT
  simp only at hc hd
  subst hc hd
  have hn : its.toArray.isEmpty = false := by
    cases r with
    | nil => exact absurd rfl hne
    | cons _ _ => rfl
  have h0 : (decide (k < -(2 ^ 63)) || decide (k ≥ 2 ^ 63)) = false := by
    rw [Bool.or_eq_false_iff]
    exact ⟨decide_eq_false (by omega), decide_eq_false (by omega)⟩
  have T1 : s.TypeIs (.ref l) "tuple" := ⟨_, ho, rfl⟩
  have go : ∀ {W : Result → Shared → Prop}, True := fun {_} => True.intro
  by_cases hk : k = 1
  · have h1 : (its.toArray.isEmpty || k == 1) = true := by rw [hn, hk]; rfl
    refine wpAny_binaryOp_repeat_ref (T := "tuple") (U := "int") (by decide) T1 (fun s' => typeIs_int s' k t) noFill_tuple_mul F.fills_int_mul F.slot_int_rmul repeat_tuple F.slot_int_index.lookup
      (call_meets F.slot_int_rmul (typeIs_int s k t) F.entry_int_rmul (F.args_int_rmul_2 _ _) (int_rmul_tuple k t l its.toArray n dd sl)
        ⟨ho, rfl, T1, call_meets F.slot_tuple_mul T1 F.entry_tuple_mul (F.args_tuple_mul_2 _ _) (tmul_same l its.toArray n dd sl k t h0 h1) ⟨ho, ?_⟩⟩)
    exact ⟨.ref l, H, I, rfl, q1 hk⟩
  · have k00 : k = 0 := by omega
    have h1 : (its.toArray.isEmpty || k == 1) = false := by rw [hn, k00]; rfl
    have h2 : (decide (k ≤ 0) || its.toArray.isEmpty) = true := by rw [k00]; rfl
    refine wpAny_binaryOp_repeat_ref (T := "tuple") (U := "int") (by decide) T1 (fun s' => typeIs_int s' k t) noFill_tuple_mul F.fills_int_mul F.slot_int_rmul repeat_tuple F.slot_int_index.lookup
      (call_meets F.slot_int_rmul (typeIs_int s k t) F.entry_int_rmul (F.args_int_rmul_2 _ _) (int_rmul_tuple k t l its.toArray n dd sl)
        ⟨ho, rfl, T1, call_meets F.slot_tuple_mul T1 F.entry_tuple_mul (F.args_tuple_mul_2 _ _) (tmul_none l its.toArray n dd sl k t h0 h1 h2) ⟨ho, ?_⟩⟩)
    refine ⟨.ref s.heap.objs.size, _, I.laid (t' := s.toks) (o := .tup []) (fun b ob q => Heap.get?_push_of_some _ q) (Nat.le_refl _) ?_, rfl, q0 k00 _ (I.hok.fresh (Nat.le_refl _))⟩
    exact ⟨Nat.zero_le _, [], .nil, IsTup.new _ _⟩
end Pv
namespace Pv
open PySem L2
section
variable {X : Cx}
def rMulA (K : PySem.W.Frag) : R2 := fun x y H Q => rI CMulW (fun i j => .int (i * j)) x y H Q ∨ rRep x y H Q ∨ rRepT K x y H Q ∨ rRep01 K x y H Q
theorem or_mulA : OpR X (binaryOp .Mult) (rMulA X.K) := op_mulW.or (op_rep.or (op_repT.or or_rep01))
theorem od_mul : OpD X (rMulA X.K) (binD .mul) := by
  intro d e z O H x y Q t hz hx hy a
  cases hx with
  | int i =>
    cases hy with
    | int j =>
      simp only [binD] at hz
      split at hz
      · rename_i h; cases hz; exact .inl ⟨i, j, rfl, rfl, h, a.now (.int _)⟩
      · cases hz
    | _ => cases hz
  | @tup a0 ws es hs hl =>
    cases hy with
    | int j =>
      simp only [binD] at hz
      split at hz
      · rename_i h
        obtain ⟨h0, h1, h2, h3⟩ := h
        cases hz
        have l1 := hl.len
        have hne : ws ≠ [] := fun e => by
          subst e
          cases hl
          exact h3 rfl
        by_cases hj : 2 ≤ j
        · exact .inr (.inr (.inl ⟨_, j, _, rfl, rfl, sqT_sub vis_sub hs, hne, hj, h1, by omega, a.newT t (hl.rep _)⟩))
        · refine .inr (.inr (.inr ⟨_, j, _, rfl, rfl, sqT_sub vis_sub hs, hne, h0, by omega, fun e => ?_, fun e => ?_⟩))
          · subst e
            have q := a
            simp at q
            exact q.now (.tup hs hl)
          · subst e
            have q := a
            simp at q
            exact q.newT t .nil
      · cases hz
    | _ => cases hz
  | lst hs hl =>
    cases hy with
    | int j =>
      simp only [binD] at hz
      split at hz
      · rename_i h
        obtain ⟨h0, h1, h2⟩ := h
        cases hz
        have l1 := hl.len
        refine .inr (.inl ⟨_, j, _, rfl, rfl, vis_sub _ _ hs, by omega, by omega, ?_, a.newL t (hl.rep _)⟩)
        refine Nat.le_trans (Nat.mul_le_mul (show _ ≤ 1000 by omega) (show j.toNat ≤ 1000 by omega)) line_big
      · cases hz
    | _ => cases hz
  | _ => cases hy <;> cases hz
theorem rp_flat {K : PySem.W.Frag} {G : Hp} {v : V} {d : D} (h : Rp K G v d) (f : flatD d = true) : flatV v = true := by
  cases h <;> first | rfl | cases f
theorem rp_flats {K : PySem.W.Frag} {G : Hp} {ds : List D} : ∀ {vs : List V}, RpAll K G vs ds → ds.all flatD = true → vs.all flatV = true := by
  induction ds with
  | nil => intro vs h _; cases h; rfl
  | cons d ds ih =>
    intro vs h f
    cases h with
    | cons h1 h2 =>
      rw [List.all_cons, Bool.and_eq_true] at f ⊢
      exact ⟨rp_flat h1 f.1, ih h2 f.2⟩
theorem eqV_eqv {K : PySem.W.Frag} {G : Hp} {u v : V} {d e : D} (h : Rp K G u d) (k : Rp K G v e) (f : flatD d = true) (g : flatD e = true) : eqV u v = PyData.eqv d e := by
  cases h <;> cases k <;> first | rfl | exact absurd f Bool.false_ne_true | exact absurd g Bool.false_ne_true
theorem any_eqv {K : PySem.W.Frag} {G : Hp} {x : V} {d : D} (hx : Rp K G x d) (f : flatD d = true) : ∀ {ds : List D} {xs : List V}, RpAll K G xs ds → ds.all flatD = true → inV x xs = ds.any fun y => PyData.eqv y d
  | [], _, h, _ => by cases h; rfl
  | e :: ds, _, h, g => by
    cases h with
    | cons h1 h2 =>
      rw [List.all_cons, Bool.and_eq_true] at g
      have ih := any_eqv hx f h2 g.2
      unfold inV at ih ⊢
      rw [List.any_cons, List.any_cons, ih, eqV_eqv h1 hx g.1 f]
theorem od_mem : OpD X (rIn X.K false) (binD .mem) := by
  intro d e z O H x y Q t hz hx hy a
  have hz' : ((seqOf e).bind fun ds => if flatD d && ds.all flatD then some (PyData.bool (ds.any fun y => PyData.eqv y d)) else none) = some z := by
    rw [← hz]; unfold binD; cases d <;> cases e <;> rfl
  have fin : ∀ (p : Addr) (xs : List V) (ds : List D), RpAll X.K (vis O H) xs ds → (SqL X.K H p xs ∨ SqT X.K H p xs) → (if flatD d && ds.all flatD then some (PyData.bool (ds.any fun y => PyData.eqv y d)) else none) = some z → rIn X.K false x (.ref p) H Q := by
    intro p xs ds hl hs hz2
    split at hz2
    · rename_i hf
      rw [Bool.and_eq_true] at hf
      cases hz2
      refine ⟨p, xs, rfl, hs, rp_flat hx hf.1, rp_flats hl hf.2, ?_⟩
      have e0 : inV x xs = ds.any fun y => PyData.eqv y d := any_eqv hx hf.1 hl hf.2
      rw [if_neg Bool.false_ne_true, e0]
      exact a.now (.bl _)
    · cases hz2
  cases hy with
  | lst hs hl => exact fin _ _ _ hl (.inl (SqL.of (vis_sub _ _ hs))) hz'
  | tup hs hl => exact fin _ _ _ hl (.inr (sqT_sub vis_sub hs)) hz'
  | _ => cases hz'
theorem od_nmem : OpD X (rIn X.K true) (binD .nmem) := by
  intro d e z O H x y Q t hz hx hy a
  have hz' : ((seqOf e).bind fun ds => if flatD d && ds.all flatD then some (PyData.bool (!(ds.any fun y => PyData.eqv y d))) else none) = some z := by
    rw [← hz]; unfold binD; cases d <;> cases e <;> rfl
  have fin : ∀ (p : Addr) (xs : List V) (ds : List D), RpAll X.K (vis O H) xs ds → (SqL X.K H p xs ∨ SqT X.K H p xs) → (if flatD d && ds.all flatD then some (PyData.bool (!(ds.any fun y => PyData.eqv y d))) else none) = some z → rIn X.K true x (.ref p) H Q := by
    intro p xs ds hl hs hz2
    split at hz2
    · rename_i hf
      rw [Bool.and_eq_true] at hf
      cases hz2
      refine ⟨p, xs, rfl, hs, rp_flat hx hf.1, rp_flats hl hf.2, ?_⟩
      have e0 : inV x xs = ds.any fun y => PyData.eqv y d := any_eqv hx hf.1 hl hf.2
      rw [if_pos rfl, e0]
      exact a.now (.bl _)
    · cases hz2
  cases hy with
  | lst hs hl => exact fin _ _ _ hl (.inl (SqL.of (vis_sub _ _ hs))) hz'
  | tup hs hl => exact fin _ _ _ hl (.inr (sqT_sub vis_sub hs)) hz'
  | _ => cases hz'
theorem od_gcd : OpD X (fun x y => rGcd [x, y]) (binD .gcd) := by
  intro d e z O H x y Q t hz hx hy a
  cases hx with
  | int i =>
    cases hy with
    | int j => cases hz; exact ⟨i, j, rfl, a.now (.int _)⟩
    | _ => cases hz
  | _ => cases hy <;> cases hz
theorem atI_of {K : PySem.W.Frag} {G : Hp} {xs : List V} {ds : List D} (hl : RpAll K G xs ds) {i : Int} {z : D} (h : at_ ds i = some z) : ∃ v, atI xs i = some v ∧ Rp K G v z := by
  unfold at_ at h
  unfold atI
  rw [hl.len]
  cases e : ixN ds.length i with
  | none => rw [e] at h; cases h
  | some j =>
    rw [e] at h
    exact hl.get h
def rIxA (K : PySem.W.Frag) : R2 := fun x y H Q => rIxL K x y H Q ∨ rIxT K x y H Q
theorem or_ix : IxR X (rIxA X.K) := by
  intro value slice pins s σ H x y v u Q I rx ry h hs
  rcases h with h | h
  · exact ix_list value slice pins s σ H x y v u Q I rx ry h hs
  · exact ix_tup value slice pins s σ H x y v u Q I rx ry h hs
theorem od_ix : OpD X (rIxA X.K) (binD .idx) := by
  intro d e z O H x y Q t hz hx hy a
  cases hx with
  | tup hs hl =>
    cases hy with
    | int j =>
      obtain ⟨v, e1, e2⟩ := atI_of hl (show at_ _ j = some z from hz)
      exact .inr ⟨_, _, j, v, rfl, rfl, sqT_sub vis_sub hs, e1, a.now e2⟩
    | _ => cases hz
  | lst hs hl =>
    cases hy with
    | int j =>
      obtain ⟨v, e1, e2⟩ := atI_of hl (show at_ _ j = some z from hz)
      exact .inl ⟨_, _, j, v, rfl, rfl, SqL.of (vis_sub _ _ hs), e1, a.now e2⟩
    | _ => cases hz
  | _ => cases hy <;> cases hz
/-! ### one value -/
theorem ud_neg : UnD X (rU fun i => .int (-i)) (unD .neg) := by
  intro d z O H x Q t hz hx a
  cases hx with
  | int i => cases hz; exact ⟨i, rfl, a.now (.int _)⟩
  | _ => cases hz
theorem ud_len : UnD X (fun v H Q => ∃ x n, [v] = [x] ∧ LenV X.K x H n ∧ Q (.int n) H) (unD .len) := by
  intro d z O H x Q t hz hx a
  cases hx with
  | tup hs hl => cases hz; exact ⟨_, _, rfl, .inr ⟨_, sqT_sub vis_sub hs, rfl⟩, by rw [hl.len]; exact a.now (.int _)⟩
  | lst hs hl => cases hz; exact ⟨_, _, rfl, .inl ⟨_, SqL.of (vis_sub _ _ hs), rfl⟩, by rw [hl.len]; exact a.now (.int _)⟩
  | _ => cases hz
theorem ud_tuple : UnD X (fun v H Q => ∃ p ys, [v] = [.ref p] ∧ ((SqL X.K H p ys ∧ ∀ l, H l = none → Q (.ref l) (upd H l (.tup ys))) ∨ (SqT X.K H p ys ∧ Q (.ref p) H))) (unD .tuple) := by
  intro d z O H x Q t hz hx a
  cases hx with
  | tup hs hl => cases hz; exact ⟨_, _, rfl, .inr ⟨sqT_sub vis_sub hs, a.now (.tup hs hl)⟩⟩
  | lst hs hl => cases hz; exact ⟨_, _, rfl, .inl ⟨SqL.of (vis_sub _ _ hs), a.newT t hl⟩⟩
  | _ => cases hz
theorem ud_list : UnD X (fun v H Q => ∃ p ys, [v] = [.ref p] ∧ (SqL X.K H p ys ∨ SqT X.K H p ys) ∧ ∀ l, H l = none → Q (.ref l) (upd H l (.lst ys))) (unD .list) := by
  intro d z O H x Q t hz hx a
  cases hx with
  | tup hs hl => cases hz; exact ⟨_, _, rfl, .inr (sqT_sub vis_sub hs), a.newL t hl⟩
  | lst hs hl => cases hz; exact ⟨_, _, rfl, .inl (SqL.of (vis_sub _ _ hs)), a.newL t hl⟩
  | _ => cases hz
theorem ud_abs : UnD X (fun v H Q => ∃ i, [v] = [.int i] ∧ Q (.int (if i < 0 then -i else i)) H) (unD .abs) := by
  intro d z O H x Q t hz hx a
  cases hx with
  | int i => cases hz; exact ⟨i, rfl, a.now (.int _)⟩
  | _ => cases hz
theorem ud_int : UnD X (fun v H Q => (∃ i, [v] = [.int i] ∧ Q (.int i) H) ∨ ∃ k, [v] = [.bl k] ∧ Q (.int (if k then 1 else 0)) H) (unD .int) := by
  intro d z O H x Q t hz hx a
  cases hx with
  | int i => cases hz; exact .inl ⟨i, rfl, a.now (.int _)⟩
  | bl i => cases hz; exact .inr ⟨i, rfl, a.now (.int _)⟩
  | _ => cases hz
theorem ud_isN : UnD X (fun x H Q => Q (.bl (decide (x = .non))) H) (unD .isN) := by
  intro d z O H x Q t hz hx a
  cases hz
  cases hx <;> exact a.now (.bl _)
theorem ud_notN : UnD X (fun x H Q => Q (.bl (!decide (x = .non))) H) (unD .notN) := by
  intro d z O H x Q t hz hx a
  cases hz
  cases hx <;> exact a.now (.bl _)
theorem rp_bools {K : PySem.W.Frag} {G : Hp} : ∀ {ds : List D} {xs : List V} {bs : List Bool}, RpAll K G xs ds → boolsD ds = some bs → xs = bs.map V.bl
  | [], _, _, h, e => by cases h; cases e; rfl
  | d :: ds, _, bs, h, e => by
    cases h with
    | cons h1 h2 =>
      cases h1 with
      | bl b =>
        simp only [boolsD] at e
        obtain ⟨cs, e1, e2⟩ := Option.map_eq_some_iff.mp e
        rw [← e2, rp_bools h2 e1]
        rfl
      | _ => cases e
theorem rp_ints {K : PySem.W.Frag} {G : Hp} : ∀ {ds : List D} {xs : List V} {bs : List Int}, RpAll K G xs ds → intsD ds = some bs → xs = bs.map V.int
  | [], _, _, h, e => by cases h; cases e; rfl
  | d :: ds, _, bs, h, e => by
    cases h with
    | cons h1 h2 =>
      cases h1 with
      | int b =>
        simp only [intsD] at e
        obtain ⟨cs, e1, e2⟩ := Option.map_eq_some_iff.mp e
        rw [← e2, rp_ints h2 e1]
        rfl
      | _ => cases e
theorem ints_rp {K : PySem.W.Frag} {G : Hp} : ∀ (bs : List Int), RpAll K G (bs.map V.int) (bs.map PyData.int)
  | [] => .nil
  | _ :: r => .cons (.int _) (ints_rp r)
theorem ud_all : UnD X (fun v => rAll X.K [v]) (unD .all) := by
  intro d z O H x Q t hz hx a
  cases hx with
  | lst hs hl =>
    obtain ⟨bs, e1, e2⟩ := Option.map_eq_some_iff.mp (show (boolsD _).map _ = some z from hz)
    have e3 := rp_bools hl e1
    subst e3 e2
    exact ⟨_, bs, rfl, SqL.of (vis_sub _ _ hs), a.now (.bl _)⟩
  | _ => cases hz
theorem ud_any : UnD X (fun v => rAny X.K [v]) (unD .any) := by
  intro d z O H x Q t hz hx a
  cases hx with
  | lst hs hl =>
    obtain ⟨bs, e1, e2⟩ := Option.map_eq_some_iff.mp (show (boolsD _).map _ = some z from hz)
    have e3 := rp_bools hl e1
    subst e3 e2
    exact ⟨_, bs, rfl, SqL.of (vis_sub _ _ hs), a.now (.bl _)⟩
  | _ => cases hz
/-! ### isinstance -/
def tyName : D → String
  | .none => "NoneType" | .bool _ => "bool" | .int _ => "int" | .str _ => "str" | .list _ => "list" | .tuple _ => "tuple" | .dict _ => "dict"
theorem rp_tyx {K : PySem.W.Frag} {H : Hp} {v : V} {d : D} (h : Rp K H v d) : TyX K H v (.type (tyName d)) := by
  cases h with
  | non => exact .base .non
  | bl b => exact .base (.bl b)
  | int i => exact .base (.int i)
  | str x => exact .base (.str x)
  | lst hs _ => exact .base (.lst hs)
  | tup hs _ =>
    rcases hs with (hs | ⟨o, hs⟩) | ⟨o, its, n, e, c, _⟩
    · exact .base (.tup hs)
    · exact .fTuple hs
    · exact .kTuple e c
def isD (n : String) (d : D) : Option Bool := kitB (tyName d) n
theorem ud_isi {n : String} {u : D → Option D} (h : ∀ d z, u d = some z → ∃ b, isD n d = some b ∧ z = .bool b) : UnD X (fun v => rIsi X.K [v, .ty n]) u := by
  intro d z O H x Q t hz hx a
  obtain ⟨b, e1, rfl⟩ := h d z hz
  exact ⟨x, .ty n, _, _, b, rfl, .ty n, rp_tyx (rp_sub vis_sub _ _ hx), kit_ty e1, a.now (.bl _)⟩
theorem isD_int (d : D) (z : D) (h : unD .isInt d = some z) : ∃ b, isD "int" d = some b ∧ z = .bool b := by
  cases d <;> cases h <;> refine ⟨_, ?_, rfl⟩ <;> simp only [isD, tyName] <;> decide +kernel
theorem isD_bool (d : D) (z : D) (h : unD .isBool d = some z) : ∃ b, isD "bool" d = some b ∧ z = .bool b := by
  cases d <;> cases h <;> refine ⟨_, ?_, rfl⟩ <;> simp only [isD, tyName] <;> decide +kernel
theorem isD_str (d : D) (z : D) (h : unD .isStr d = some z) : ∃ b, isD "str" d = some b ∧ z = .bool b := by
  cases d <;> cases h <;> refine ⟨_, ?_, rfl⟩ <;> simp only [isD, tyName] <;> decide +kernel
theorem isD_tup (d : D) (z : D) (h : unD .isTup d = some z) : ∃ b, isD "tuple" d = some b ∧ z = .bool b := by
  cases d <;> cases h <;> refine ⟨_, ?_, rfl⟩ <;> simp only [isD, tyName] <;> decide +kernel
theorem isD_list (d : D) (z : D) (h : unD .isList d = some z) : ∃ b, isD "list" d = some b ∧ z = .bool b := by
  cases d <;> cases h <;> refine ⟨_, ?_, rfl⟩ <;> simp only [isD, tyName] <;> decide +kernel
/-! ### slices -/
def SlD (X : Cx) (r : V → Option Int → Option Int → Hp → VK → Prop) : Prop :=
  ∀ d lo hi z O H x Q, (∀ b, O b → H b ≠ none) → sliceD d lo hi = some z → Rp X.K (vis O H) x d → Ans X.K O H Q z → r x lo hi H Q
theorem or_sl : SlR X (fun x lo hi H Q => rSlL X.K x lo hi H Q ∨ rSlA X.K x lo hi H Q) := sl_list.or sl_tupA
theorem rp_cut {K : PySem.W.Frag} {G : Hp} {xs : List V} {ds : List D} (h : RpAll K G xs ds) (lo hi : Option Int) : RpAll K G (cutV xs lo hi) ((ds.drop (HT.sIx ds.length 0 lo)).take (HT.sIx ds.length ds.length hi - HT.sIx ds.length 0 lo)) := by
  unfold cutV
  rw [h.len]
  exact (h.drop _).take _
theorem sd_sl : SlD X (fun x lo hi H Q => rSlL X.K x lo hi H Q ∨ rSlA X.K x lo hi H Q) := by
  intro d lo hi z O H x Q t hz hx a
  cases hx with
  | lst hs hl =>
    cases hz
    exact .inl ⟨_, _, rfl, SqL.of (vis_sub _ _ hs), a.newL t (rp_cut hl lo hi)⟩
  | tup hs hl =>
    cases hz
    refine .inr ⟨_, _, rfl, sqT_sub vis_sub hs, fun e => ?_, fun _ => a.newT t (rp_cut hl lo hi)⟩
    have l1 := hl.len
    rw [l1] at e
    rw [e.1, e.2] at a
    simp at a
    exact a.now (.tup hs hl)
  | _ => cases hz
end
end Pv

/-! Pv5: the forms of the text. -/
namespace Pv
open PySem L2
/-- names of the top: those that it doesn't bind, whether gcd is math's -/
structure Nm where
  no : List Str
  gcd : Bool
def notStar : Expr → Bool
  | .Starred .. => false
  | _ => true
def notSlice : Expr → Bool
  | .Slice .. => false
  | _ => true
def notSet : Expr → Bool
  | .Set .. => false
  | _ => true
def plainT : Expr → Bool
  | .UnaryOp .Not _ _ => false
  | .BoolOp .. => false
  | .IfExp .. => false
  | .Compare .. => false
  | _ => true
theorem star_cons {e : Expr} {es : List Expr} {env : Env} (h : notStar e = true) : starEach (e :: es) env = (false, eval e env) :: starEach es env := by
  cases e <;> first | rfl | cases h
theorem star_plain : ∀ {es : List Expr} {env : Env} {pos : Pos}, es.all notStar = true → (backTo pos (starEach es env)).any (·.1) = false
  | [], _, _, _ => rfl
  | e :: es, env, pos, h => by
    rw [List.all_cons, Bool.and_eq_true] at h
    rw [star_cons h.1]
    show (false || (backTo pos (starEach es env)).any (·.1)) = false
    rw [star_plain h.2]
    rfl
theorem ix_plain {e : Expr} (h : notSlice e = true) : PlainIx e := fun o i => by
  cases e <;> first | rfl | cases h
theorem set_marks {e : Expr} {op : CmpOp} (h : notSet e = true) : behindInMarks op e = false := by
  cases e <;> first | rfl | cases h
theorem test_plain {e : Expr} {env : Env} (h : plainT e = true) (whole : Sem Value) : isTrue e env whole = (do let v ← whole; standAt e.pos; holding [v] (truthy v)) := by
  cases e with
  | UnaryOp op x pos => cases op <;> first | rfl | cases h
  | BoolOp _ _ _ => cases h
  | IfExp _ _ _ _ => cases h
  | Compare _ _ _ _ => cases h
  | _ => rfl
def glB (sc : Scope) (x : Str) : Bool := match sc.names.lookup x with
  | some .globalImplicit => true
  | _ => false
theorem gl_of {X : Cx} {sc : Scope} {x : Str} (hs : X.env.scope = sc) (h : glB sc x = true) : Gl X x := by
  subst hs
  unfold glB at h
  show X.env.scope.names.lookup x = some .globalImplicit
  split at h
  · assumption
  · cases h
/-- a built-in's name -/
def bi (nm : Nm) (sc : Scope) (x y : Str) : Bool := decide (x = y) && glB sc x && nm.no.contains x
/-- what a rule needs to know of where it stands -/
structure NmOk (nm : Nm) (X : Cx) (sc : Scope) : Prop where
  sc : X.env.scope = sc
  no : ∀ x, nm.no.contains x = true → X.mg x = none
  gcd : nm.gcd = true → X.mg ("gcd" : Str) = some (.builtin "math.gcd")
  calm : X.calm = true
  un : X.A.units + 64 < cLine
theorem bi_of {nm : Nm} {X : Cx} {sc : Scope} {x y : Str} (N : NmOk nm X sc) (h : bi nm sc x y = true) : x = y ∧ Gl X y ∧ X.mg y = none := by
  unfold bi at h
  rw [Bool.and_eq_true, Bool.and_eq_true, decide_eq_true_eq] at h
  obtain ⟨⟨rfl, h1⟩, h2⟩ := h
  exact ⟨rfl, gl_of N.sc h1, N.no _ h2⟩
def biTy (nm : Nm) (sc : Scope) (e : Expr) (y : Str) : Bool := match e with
  | .Name x _ => bi nm sc x y
  | _ => false
/-- the operand of an expression that has the form of an operator -/
def unE (nm : Nm) (sc : Scope) (o : UnO) (e : Expr) : Option Expr :=
  match o with
  | .neg => match e with
    | .UnaryOp .USub a _ => some a
    | _ => none
  | .isN => match e with
    | .Compare a [.Is] [.Constant .none _ _] _ => some a
    | _ => none
  | .notN => match e with
    | .Compare a [.IsNot] [.Constant .none _ _] _ => some a
    | _ => none
  | .len => match e with
    | .Call (.Name x _) [a] [] _ => if bi nm sc x "len" && notStar a then some a else none
    | _ => none
  | .tuple => match e with
    | .Call (.Name x _) [a] [] _ => if bi nm sc x "tuple" && notStar a then some a else none
    | _ => none
  | .list => match e with
    | .Call (.Name x _) [a] [] _ => if bi nm sc x "list" && notStar a then some a else none
    | _ => none
  | .abs => match e with
    | .Call (.Name x _) [a] [] _ => if bi nm sc x "abs" && notStar a then some a else none
    | _ => none
  | .int => match e with
    | .Call (.Name x _) [a] [] _ => if bi nm sc x "int" && notStar a then some a else none
    | _ => none
  | .all => match e with
    | .Call (.Name x _) [a] [] _ => if bi nm sc x "all" && notStar a then some a else none
    | _ => none
  | .any => match e with
    | .Call (.Name x _) [a] [] _ => if bi nm sc x "any" && notStar a then some a else none
    | _ => none
  | .isInt => match e with
    | .Call (.Name x _) [a, t] [] _ => if bi nm sc x "isinstance" && notStar a && biTy nm sc t "int" then some a else none
    | _ => none
  | .isBool => match e with
    | .Call (.Name x _) [a, t] [] _ => if bi nm sc x "isinstance" && notStar a && biTy nm sc t "bool" then some a else none
    | _ => none
  | .isStr => match e with
    | .Call (.Name x _) [a, t] [] _ => if bi nm sc x "isinstance" && notStar a && biTy nm sc t "str" then some a else none
    | _ => none
  | .isTup => match e with
    | .Call (.Name x _) [a, t] [] _ => if bi nm sc x "isinstance" && notStar a && biTy nm sc t "tuple" then some a else none
    | _ => none
  | .isList => match e with
    | .Call (.Name x _) [a, t] [] _ => if bi nm sc x "isinstance" && notStar a && biTy nm sc t "list" then some a else none
    | _ => none
  | .not => none
  | .sorted => none
  | .lrange => none
def UnF (X : Cx) (e a : Expr) (u : D → Option D) : Prop :=
  ∃ r, UnD X r u ∧ ∀ t, PE X a t → PE X e (fun σ H Q => t σ H fun x H1 => r x H1 Q) ∧ PT X e (tTest fun σ H Q => t σ H fun x H1 => r x H1 Q)
section
variable {nm : Nm} {X : Cx} {sc : Scope}
theorem pt_tests {e : Expr} {t : TE} (h : PE X e t) (p : plainT e = true) : PT X e (tTest t) := pt_val h (test_plain p)
theorem uf_call {id : String} {x : Str} {p pos : Pos} {a : Expr} {r : List V → Hp → VK → Prop} {u : D → Option D} (hc : CallR X (.builtin id) r) (hg : Gl X x) (hm : X.mg x = none) (hv : bootBuiltins x = some (.builtin id)) (hn : x ≠ "__name__") (hdb : (x == ("__debug__" : Str)) = false)
    (ho : UnD X (fun v => r [v]) u) (hs : notStar a = true) : UnF X (.Call (.Name x p) [a] [] pos) a u :=
  ⟨_, ho, fun t ha => by
    have q : PE X (.Call (.Name x p) [a] [] pos) (fun σ H Q => t σ H fun x H1 => (fun v => r [v]) x H1 Q) := pe_callB hc hg hm hv (pa_cons ha pa_nil (star_cons hs)) hn hdb (star_cons hs)
    exact ⟨q, pt_tests q rfl⟩⟩
theorem uf_type {id : String} {x : Str} {p pos : Pos} {a : Expr} {r : List V → Hp → VK → Prop} {u : D → Option D} (hc : CallR X (.type id) r) (hg : Gl X x) (hm : X.mg x = none) (hv : bootBuiltins x = some (.type id)) (hn : x ≠ "__name__") (hdb : (x == ("__debug__" : Str)) = false)
    (ho : UnD X (fun v => r [v]) u) (hs : notStar a = true) : UnF X (.Call (.Name x p) [a] [] pos) a u :=
  ⟨_, ho, fun t ha => by
    have q : PE X (.Call (.Name x p) [a] [] pos) (fun σ H Q => t σ H fun x H1 => (fun v => r [v]) x H1 Q) := pe_callTy hc hg hm hv (pa_cons ha pa_nil (star_cons hs)) hn hdb (star_cons hs)
    exact ⟨q, pt_tests q rfl⟩⟩
theorem uf_isi {n : String} {x y : Str} {p p2 pos : Pos} {a : Expr} {u : D → Option D} (hx : x = "isinstance") (hg : Gl X "isinstance") (hm : X.mg "isinstance" = none) (hy : Gl X y) (hmy : X.mg y = none) (hv : bootBuiltins y = some (.type n)) (hn : y ≠ "__name__") (hdb : (y == ("__debug__" : Str)) = false)
    (ho : ∀ d z, u d = some z → ∃ b, isD n d = some b ∧ z = .bool b) (hs : notStar a = true) : UnF X (.Call (.Name x p) [a, .Name y p2] [] pos) a u :=
  ⟨_, ud_isi ho, fun t ha => by
    subst hx
    have q : PE X (.Call (.Name "isinstance" p) [a, .Name y p2] [] pos) (fun σ H Q => t σ H fun x H1 => (fun v => rIsi X.K [v, .ty n]) x H1 Q) :=
      pe_callB call_isi hg hm (by decide +kernel) (pa_cons ha (pa_cons (pe_bltn (v := .ty n) hy hmy hv rfl hn hdb) pa_nil rfl) (star_cons hs)) (by decide) (by decide) (star_cons hs)
    exact ⟨q, pt_tests q rfl⟩⟩
theorem biTy_of {e : Expr} {y : Str} (N : NmOk nm X sc) (h : biTy nm sc e y = true) : ∃ p, e = .Name y p ∧ Gl X y ∧ X.mg y = none := by
  unfold biTy at h
  split at h
  · obtain ⟨rfl, h1, h2⟩ := bi_of N h
    exact ⟨_, rfl, h1, h2⟩
  · cases h
theorem un_form {o : UnO} {e a : Expr} (N : NmOk nm X sc) (h : unE nm sc o e = some a) : UnF X e a (unD o) := by
  cases o <;> simp only [unE] at h
  case neg =>
    split at h <;> cases h
    exact ⟨_, ud_neg, fun t ha => ⟨pe_un un_neg ha, pt_tests (pe_un un_neg ha) rfl⟩⟩
  case isN =>
    split at h <;> cases h
    exact ⟨_, ud_isN, fun t ha => ⟨pe_cmp (pc_isN ha) rfl, pt_cmp (pc_isN ha) rfl⟩⟩
  case notN =>
    split at h <;> cases h
    exact ⟨_, ud_notN, fun t ha => ⟨pe_cmp (pc_notN ha) rfl, pt_cmp (pc_notN ha) rfl⟩⟩
  case len =>
    split at h <;> try (cases h; done)
    split at h <;> cases h
    rename_i hb
    rw [Bool.and_eq_true] at hb
    obtain ⟨rfl, hg, hm⟩ := bi_of N hb.1
    exact uf_call call_len hg hm (by decide +kernel) (by decide) (by decide) ud_len hb.2
  case tuple =>
    split at h <;> try (cases h; done)
    split at h <;> cases h
    rename_i hb
    rw [Bool.and_eq_true] at hb
    obtain ⟨rfl, hg, hm⟩ := bi_of N hb.1
    exact uf_type call_tuple_of hg hm (by decide +kernel) (by decide) (by decide) ud_tuple hb.2
  case list =>
    split at h <;> try (cases h; done)
    split at h <;> cases h
    rename_i hb
    rw [Bool.and_eq_true] at hb
    obtain ⟨rfl, hg, hm⟩ := bi_of N hb.1
    exact uf_type call_list_of hg hm (by decide +kernel) (by decide) (by decide) ud_list hb.2
  case abs =>
    split at h <;> try (cases h; done)
    split at h <;> cases h
    rename_i hb
    rw [Bool.and_eq_true] at hb
    obtain ⟨rfl, hg, hm⟩ := bi_of N hb.1
    exact uf_call call_abs hg hm (by decide +kernel) (by decide) (by decide) ud_abs hb.2
  case int =>
    split at h <;> try (cases h; done)
    split at h <;> cases h
    rename_i hb
    rw [Bool.and_eq_true] at hb
    obtain ⟨rfl, hg, hm⟩ := bi_of N hb.1
    exact uf_type call_int1 hg hm (by decide +kernel) (by decide) (by decide) ud_int hb.2
  case all =>
    split at h <;> try (cases h; done)
    split at h <;> cases h
    rename_i hb
    rw [Bool.and_eq_true] at hb
    obtain ⟨rfl, hg, hm⟩ := bi_of N hb.1
    exact uf_call (cr_all N.calm) hg hm (by decide +kernel) (by decide) (by decide) ud_all hb.2
  case any =>
    split at h <;> try (cases h; done)
    split at h <;> cases h
    rename_i hb
    rw [Bool.and_eq_true] at hb
    obtain ⟨rfl, hg, hm⟩ := bi_of N hb.1
    exact uf_call (cr_any N.calm) hg hm (by decide +kernel) (by decide) (by decide) ud_any hb.2
  case isInt =>
    split at h <;> try (cases h; done)
    split at h <;> cases h
    rename_i hb
    rw [Bool.and_eq_true, Bool.and_eq_true] at hb
    obtain ⟨hx, hg, hm⟩ := bi_of N hb.1.1
    obtain ⟨p, rfl, g2, m2⟩ := biTy_of N hb.2
    exact uf_isi hx hg hm g2 m2 (by decide +kernel) (by decide) (by decide) isD_int hb.1.2
  case isBool =>
    split at h <;> try (cases h; done)
    split at h <;> cases h
    rename_i hb
    rw [Bool.and_eq_true, Bool.and_eq_true] at hb
    obtain ⟨hx, hg, hm⟩ := bi_of N hb.1.1
    obtain ⟨p, rfl, g2, m2⟩ := biTy_of N hb.2
    exact uf_isi hx hg hm g2 m2 (by decide +kernel) (by decide) (by decide) isD_bool hb.1.2
  case isStr =>
    split at h <;> try (cases h; done)
    split at h <;> cases h
    rename_i hb
    rw [Bool.and_eq_true, Bool.and_eq_true] at hb
    obtain ⟨hx, hg, hm⟩ := bi_of N hb.1.1
    obtain ⟨p, rfl, g2, m2⟩ := biTy_of N hb.2
    exact uf_isi hx hg hm g2 m2 (by decide +kernel) (by decide) (by decide) isD_str hb.1.2
  case isTup =>
    split at h <;> try (cases h; done)
    split at h <;> cases h
    rename_i hb
    rw [Bool.and_eq_true, Bool.and_eq_true] at hb
    obtain ⟨hx, hg, hm⟩ := bi_of N hb.1.1
    obtain ⟨p, rfl, g2, m2⟩ := biTy_of N hb.2
    exact uf_isi hx hg hm g2 m2 (by decide +kernel) (by decide) (by decide) isD_tup hb.1.2
  case isList =>
    split at h <;> try (cases h; done)
    split at h <;> cases h
    rename_i hb
    rw [Bool.and_eq_true, Bool.and_eq_true] at hb
    obtain ⟨hx, hg, hm⟩ := bi_of N hb.1.1
    obtain ⟨p, rfl, g2, m2⟩ := biTy_of N hb.2
    exact uf_isi hx hg hm g2 m2 (by decide +kernel) (by decide) (by decide) isD_list hb.1.2
  all_goals cases h
end
/-- the operands -/
def binE (nm : Nm) (sc : Scope) (o : BinO) (e : Expr) : Option (Expr × Expr) :=
  match e with
  | .BinOp a op b _ => match o, op with
    | .add, .Add => some (a, b)
    | .sub, .Sub => some (a, b)
    | .mul, .Mult => some (a, b)
    | .fdiv, .FloorDiv => some (a, b)
    | .mod, .Mod => some (a, b)
    | .pow, .Pow => some (a, b)
    | _, _ => none
  | .Compare a [op] [b] _ => if notSet b then (match o, op with
    | .eq, .Eq => some (a, b)
    | .ne, .NotEq => some (a, b)
    | .lt, .Lt => some (a, b)
    | .le, .LtE => some (a, b)
    | .gt, .Gt => some (a, b)
    | .ge, .GtE => some (a, b)
    | .mem, .In => some (a, b)
    | .nmem, .NotIn => some (a, b)
    | _, _ => none) else none
  | .Call (.Name x _) [a, b] [] _ => match o with
    | .gcd => if decide (x = ("gcd" : Str)) && glB sc x && nm.gcd && notStar a && notStar b then some (a, b) else none
    | _ => none
  | .Subscript a b _ => match o with
    | .idx => if notSlice b then some (a, b) else none
    | _ => none
  | _ => none
def BinF (X : Cx) (e a b : Expr) (u : D → D → Option D) : Prop :=
  ∃ r, OpD X r u ∧ ∀ ta tb, PE X a ta → PE X b tb → PE X e (tOp r ta tb) ∧ PT X e (tTest (tOp r ta tb))
section
variable {nm : Nm} {X : Cx} {sc : Scope}
theorem bf_op {op : Operator} {a b : Expr} {pos : Pos} {r : R2} {u : D → D → Option D} (hr : OpR X (binaryOp op) r) (ho : OpD X r u) : BinF X (.BinOp a op b pos) a b u :=
  ⟨r, ho, fun ta tb ha hb => ⟨pe_op hr ha hb, pt_tests (pe_op hr ha hb) rfl⟩⟩
theorem bf_cmp {op : CmpOp} {a b : Expr} {pos : Pos} {r : R2} {u : D → D → Option D} (hr : OpR X (compareOp op) r) (ho : OpD X r u) (hs : notSet b = true) : BinF X (.Compare a [op] [b] pos) a b u :=
  ⟨r, ho, fun ta tb ha hb => ⟨pe_cmpR hr ha hb (set_marks hs), pt_cmpR hr ha hb (set_marks hs)⟩⟩
theorem bin_form {o : BinO} {e a b : Expr} (N : NmOk nm X sc) (h : binE nm sc o e = some (a, b)) : BinF X e a b (binD o) := by
  unfold binE at h
  split at h
  · split at h <;> cases h
    · exact bf_op or_add od_add
    · exact bf_op op_sub od_sub
    · exact bf_op or_mulA od_mul
    · exact bf_op op_fdivW od_fdiv
    · exact bf_op op_mod od_mod
    · exact bf_op op_pow od_pow
  · split at h
    · rename_i hs
      split at h <;> cases h
      · exact bf_cmp (op_eqD N.un) od_eq hs
      · exact bf_cmp (op_neD N.un) od_ne hs
      · exact bf_cmp op_lt od_lt hs
      · exact bf_cmp op_le od_le hs
      · exact bf_cmp op_gt od_gt hs
      · exact bf_cmp op_ge od_ge hs
      · exact bf_cmp op_in_seq od_mem hs
      · exact bf_cmp op_notIn_seq od_nmem hs
    · cases h
  · split at h
    · split at h <;> cases h
      rename_i hb
      simp only [Bool.and_eq_true, decide_eq_true_eq] at hb
      obtain ⟨⟨⟨⟨rfl, hg⟩, hgc⟩, ha⟩, hb⟩ := hb
      refine ⟨_, od_gcd, fun ta tb pa pb => ?_⟩
      suffices q : PE X (.Call (.Name "gcd" _) [a, b] [] _) (tOp (fun x y => rGcd [x, y]) ta tb) from ⟨q, pt_tests q rfl⟩
      exact pe_callBfun cr_gcd (gl_of N.sc hg) (N.gcd hgc) (pa_cons pa (pa_cons pb pa_nil (star_cons hb)) (star_cons ha)) (by decide) (star_cons ha) (star_plain (by simp [hb]))
    · cases h
  · split at h
    · split at h <;> cases h
      rename_i hs
      refine ⟨_, od_ix, fun ta tb pa pb => ?_⟩
      suffices q : PE X _ (tOp (rIxA X.K) ta tb) from ⟨q, pt_tests q rfl⟩
      exact pe_ix or_ix pa pb (ix_plain hs)
    · cases h
  · cases h
end
end Pv

/-! Pv6: the frame: slots read, stored, lists of our own changed. -/
namespace Pv
open PySem L2
section
variable {C : Cf} {O : Addr → Prop} {σ : L2.St} {H : Hp} {S : Sg}
theorem put_get {S : Sg} {i j : Nat} {x : Sl} : (S.put i x).ρ[j]? = if i = j ∧ i < S.ρ.length then some (some x) else S.ρ[j]? := by
  show (S.ρ.set i (some x))[j]? = _
  rw [List.getElem?_set]
  by_cases h : i = j
  · subst h
    by_cases hl : i < S.ρ.length
    · simp [hl]
    · simp [hl]
  · simp [h]
theorem SlOk.sub {O' : Addr → Prop} {H' : Hp} {v? : Option (Option V)} {x : Sl} (h : SlOk C O v? H x) (s : Sub (vis O H) (vis O' H')) (ho : ∀ a, Ow x → v? = some (some (.ref a)) → O' a ∧ H' a = H a) : SlOk C O' v? H' x := by
  cases x with
  | dat d => obtain ⟨v, e, p⟩ := h; exact ⟨v, e, rp_sub s _ _ p⟩
  | own ds =>
    obtain ⟨a, vs, e, h1, h2, h3, h4, h5⟩ := h
    obtain ⟨q1, q2⟩ := ho a trivial e
    exact ⟨a, vs, e, by rw [q2]; exact h1, q1, h3, h4, rpAll_sub s _ _ h5⟩
  | mm => exact h
  | thk ks =>
    obtain ⟨a, fs, e, h1, h2, h3, h4, h5⟩ := h
    obtain ⟨q1, q2⟩ := ho a trivial e
    exact ⟨a, fs, e, by rw [q2]; exact h1, q1, h3, h4, h5.imp fun f k z => C.lmS k f _ _ s z⟩
  | scr ns => obtain ⟨a, e, p⟩ := h; exact ⟨a, e, sqL_sub s p⟩
/-- without one address of our own -/
def less (O : Addr → Prop) (a : Addr) : Addr → Prop := fun b => O b ∧ b ≠ a
theorem vis_less {a : Addr} : Sub (vis O H) (vis (less O a) H) := (Sub.refl H).vis fun b z => .inl z.1
/-- a list of our own -/
theorem EOk.own_at (E : EOk C O σ H S) {i : Nat} {ds : List D} (h : S.own i = some ds) : S.ρ[i]? = some (some (.own ds)) ∧ ∃ a vs, σ[i]? = some (some (.ref a)) ∧ H a = some (.lst vs) ∧ O a ∧ ¬ C.O0 a ∧ NP C.H0 a ∧ RpAll C.K (vis O H) vs ds := by
  unfold Sg.own at h
  split at h
  · rename_i q
    cases h
    exact ⟨q, E.sl _ _ q⟩
  · cases h
/-- nobody's from now on -/
theorem EOk.freeze (E : EOk C O σ H S) {i : Nat} {ds : List D} {a : Addr} {vs : List V} (hi : S.ρ[i]? = some (some (.own ds))) (hs : σ[i]? = some (some (.ref a))) (ha : H a = some (.lst vs)) (h0 : ¬ C.O0 a) (hv : RpAll C.K (vis O H) vs ds) :
    EOk C (less O a) σ H (S.put i (.dat (.list ds))) where
  sl := fun j x h => by
    rw [put_get] at h
    split at h
    · rename_i e
      cases h
      rw [← e.1]
      exact ⟨.ref a, hs, .lst (vis_of (fun z => z.2 rfl) (nt_lst _) ha) (rpAll_sub vis_less _ _ hv)⟩
    · rename_i hne
      refine (E.sl j x h).sub vis_less fun b e q => ⟨?_, rfl⟩
      obtain ⟨b', _, q', _, o', _⟩ := (E.sl j _ h).at e
      rw [q] at q'
      cases q'
      refine ⟨o', fun z => ?_⟩
      subst z
      have := E.dis i j _ _ b hi h trivial e hs q
      have hl : i < S.ρ.length := (List.getElem?_eq_some_iff.mp hi).1
      exact hne ⟨this, hl⟩
  dis := fun j k x y b h1 h2 o1 o2 => by
    rw [put_get] at h1 h2
    split at h1
    · cases h1; exact o1.elim
    split at h2
    · cases h2; exact o2.elim
    exact E.dis j k x y b h1 h2 o1 o2
  trkP := fun b h => E.trkP b h.1
  o0 := fun b h => ⟨E.o0 b h, fun z => h0 (by rw [← z]; exact h)⟩
  m0 := E.m0
  base := E.base
  tabs := E.tabs
  dok := E.dok
  len := by show _ = (S.ρ.set i _).length; rw [List.length_set]; exact E.len
/-- what we own is changed -/
theorem EOk.changeG (E : EOk C O σ H S) {i : Nat} {x0 x1 : Sl} {a : Addr} {l l' : List V} (hi : S.ρ[i]? = some (some x0)) (w0 : Ow x0) (w1 : Ow x1) (hs : σ[i]? = some (some (.ref a))) (ha : H a = some (.lst l)) (ho : O a) (h0 : ¬ C.O0 a) (hH : NP C.H0 a)
    (hx : Sub (vis O H) (vis O (upd H a (.lst l'))) → SlOk C O (some (some (.ref a))) (upd H a (.lst l')) x1) :
    EOk C O σ (upd H a (.lst l')) (S.put i x1) ∧ Sub (vis O H) (vis O (upd H a (.lst l'))) := by
  have sv : Sub (vis O H) (vis O (upd H a (.lst l'))) := fun b o q => by
    obtain ⟨q1, q2, q3⟩ := of_vis q
    have hb : b ≠ a := fun z => q1 (by rw [z]; exact ho)
    exact vis_of q1 q2 (by rw [upd_ne hb]; exact q3)
  refine ⟨⟨fun j x h => ?_, fun j k y z b h1 h2 o1 o2 q1 q2 => ?_, fun b h => ?_, E.o0, E.m0, fun b o h1 h2 h3 => ?_, tabs_upd E.tabs ha, fun m e => ?_, ?_⟩, sv⟩
  · rw [put_get] at h
    split at h
    · rename_i e
      cases h
      rw [← e.1, hs]
      exact hx sv
    · rename_i hne
      refine (E.sl j x h).sub sv fun b e q => ?_
      obtain ⟨b', _, q', _, o', _⟩ := (E.sl j _ h).at e
      rw [q] at q'
      cases q'
      refine ⟨o', upd_ne fun z => ?_⟩
      subst z
      have := E.dis i j _ _ b hi h w0 e hs q
      have hl : i < S.ρ.length := (List.getElem?_eq_some_iff.mp hi).1
      exact hne ⟨this, hl⟩
  · rw [put_get] at h1 h2
    split at h1
    · rename_i e1
      split at h2
      · rename_i e2; rw [← e1.1, ← e2.1]
      · rw [← e1.1] at q1 ⊢
        exact E.dis i k _ _ b hi h2 w0 o2 q1 q2
    · split at h2
      · rename_i e2
        rw [← e2.1] at q2 ⊢
        exact E.dis j i _ _ b h1 hi o1 w0 q1 q2
      · exact E.dis j k _ _ b h1 h2 o1 o2 q1 q2
  · by_cases hb : b = a
    · subst hb; exact ⟨_, .lst _, upd_same⟩
    · obtain ⟨o, n, e⟩ := E.trkP b h; exact ⟨o, n, by rw [upd_ne hb]; exact e⟩
  · have hb : b ≠ a := fun z => hH o h3 (by rw [← z]; exact h1)
    rw [upd_ne hb]; exact E.base b o h1 h2 h3
  · have nm : ∀ b, m.on b → b ≠ a := fun b hb z => h0 (by rw [← z]; exact E.m0 b ⟨m, e, hb⟩)
    obtain ⟨h1, h2, h3, h4⟩ := E.dok m e
    exact ⟨by rw [upd_ne (nm _ (.inl rfl))]; exact h1, by rw [upd_ne (nm _ (.inr (.inl rfl)))]; exact h2, by rw [upd_ne (nm _ (.inr (.inr rfl)))]; exact h3, h4⟩
  · show _ = (S.ρ.set i _).length; rw [List.length_set]; exact E.len
/-- our own list is changed -/
theorem EOk.change (E : EOk C O σ H S) {i : Nat} {ds ds' : List D} {a : Addr} {vs vs' : List V} (hi : S.ρ[i]? = some (some (.own ds))) (hs : σ[i]? = some (some (.ref a))) (ha : H a = some (.lst vs)) (ho : O a) (h0 : ¬ C.O0 a) (hH : NP C.H0 a) (hv : RpAll C.K (vis O H) vs' ds') :
    EOk C O σ (upd H a (.lst vs')) (S.put i (.own ds')) ∧ Sub (vis O H) (vis O (upd H a (.lst vs'))) :=
  E.changeG hi trivial trivial hs ha ho h0 hH fun sv => ⟨a, vs', rfl, upd_same, ho, h0, hH, rpAll_sub sv _ _ hv⟩
/-- a value is stored -/
theorem EOk.store (E : EOk C O σ H S) {i : Nat} {v : V} {d : D} (hv : Rp C.K (vis O H) v d) (hi : i < S.ρ.length) : EOk C O (σ.set i (some v)) H (S.put i (.dat d)) where
  sl := fun j x h => by
    rw [put_get] at h
    split at h
    · rename_i e
      cases h
      rw [← e.1]
      exact ⟨v, by rw [List.getElem?_set_self (by rw [E.len]; exact hi)], hv⟩
    · rename_i hne
      have : i ≠ j := fun z => hne ⟨z, hi⟩
      rw [List.getElem?_set_ne this]
      exact E.sl j x h
  dis := fun j k x y b h1 h2 o1 o2 q1 q2 => by
    rw [put_get] at h1 h2
    split at h1
    · cases h1; exact o1.elim
    · rename_i n1
      split at h2
      · cases h2; exact o2.elim
      · rename_i n2
        rw [List.getElem?_set_ne (fun z => n1 ⟨z, hi⟩)] at q1
        rw [List.getElem?_set_ne (fun z => n2 ⟨z, hi⟩)] at q2
        exact E.dis j k x y b h1 h2 o1 o2 q1 q2
  trkP := E.trkP
  o0 := E.o0
  m0 := E.m0
  base := E.base
  tabs := E.tabs
  dok := E.dok
  len := by show _ = (S.ρ.set i _).length; rw [List.length_set, List.length_set]; exact E.len
/-- with one more address of our own -/
def more (O : Addr → Prop) (a : Addr) : Addr → Prop := fun b => O b ∨ b = a
/-- a list that nobody else knows -/
structure Fresh (C : Cf) (O : Addr → Prop) (σ : L2.St) (H : Hp) (S : Sg) (a : Addr) (vs : List V) (ds : List D) : Prop where
  ok : EOk C (more O a) σ H S
  out : ¬ O a
  h0 : NP C.H0 a
  at_ : H a = some (.lst vs)
  rp : RpAll C.K (vis (more O a) H) vs ds
  noown : ∀ (i : Nat) (x : Sl), S.ρ[i]? = some (some x) → Ow x → σ[i]? ≠ some (some (.ref a))
theorem Fresh.new (E : EOk C O σ H S) {a : Addr} {vs : List V} {ds : List D} (hn : H a = none) (h : RpAll C.K (vis O H) vs ds) : Fresh C O σ (upd H a (.lst vs)) S a vs ds := by
  have hs : Sub H (upd H a (.lst vs)) := Sub.upd hn
  have sv : Sub (vis O H) (vis (more O a) (upd H a (.lst vs))) := hs.vis fun b z => z.elim .inl fun e => .inr (by rw [e]; exact hn)
  have oa : ¬ O a := fun z => E.trk a z hn
  have E1 := E.grow hs
  have ha0 : NP C.H0 a := E.np hn
  refine ⟨⟨fun j x q => ?_, E1.dis, fun b z => ?_, fun b z => .inl (E1.o0 b z), E1.m0, E1.base, E1.tabs, E1.dok, E1.len⟩, oa, ha0, upd_same, rpAll_sub sv _ _ h, fun i es q w z => ?_⟩
  · refine (E.sl j x q).sub sv fun b e q2 => ?_
    obtain ⟨b', _, q', hb, o', _⟩ := (E.sl j _ q).at e
    rw [q2] at q'
    cases q'
    exact ⟨.inl o', upd_ne (ne_of_none hb hn)⟩
  · rcases z with z | z
    · exact E1.trkP b z
    · exact ⟨_, .lst _, by rw [z]; exact upd_same⟩
  · obtain ⟨b', _, q', hb, _⟩ := (E.sl i _ q).at w
    rw [z] at q'
    cases q'
    rw [hn] at hb
    cases hb
/-- it is let go as a value -/
theorem Fresh.drop {a : Addr} {vs : List V} {ds : List D} (F : Fresh C O σ H S a vs ds) (h0 : ∀ b, C.O0 b → O b) : EOk C O σ H S ∧ Rp C.K (vis O H) (.ref a) (.list ds) := by
  have sv : Sub (vis (more O a) H) (vis O H) := (Sub.refl H).vis fun b z => .inl (.inl z)
  refine ⟨⟨fun j x q => ?_, F.ok.dis, fun b z => F.ok.trkP b (.inl z), h0, F.ok.m0, F.ok.base, F.ok.tabs, F.ok.dok, F.ok.len⟩, .lst (vis_of F.out (nt_lst _) F.at_) (rpAll_sub sv _ _ F.rp)⟩
  refine (F.ok.sl j x q).sub sv fun b e q2 => ⟨?_, rfl⟩
  obtain ⟨b', _, q', _, o', _⟩ := (F.ok.sl j _ q).at e
  rw [q2] at q'
  cases q'
  rcases o' with o' | o'
  · exact o'
  · subst o'
    exact absurd q2 (F.noown j _ q e)
/-- it is stored as our own -/
theorem Fresh.store {a : Addr} {vs : List V} {ds : List D} (F : Fresh C O σ H S a vs ds) (h0 : ∀ b, C.O0 b → O b) {i : Nat} (hi : i < S.ρ.length) : EOk C (more O a) (σ.set i (some (.ref a))) H (S.put i (.own ds)) where
  sl := fun j x h => by
    rw [put_get] at h
    split at h
    · rename_i e
      cases h
      rw [← e.1]
      exact ⟨a, vs, by rw [List.getElem?_set_self (by rw [F.ok.len]; exact hi)], F.at_, .inr rfl, fun z => F.out (h0 a z), F.h0, F.rp⟩
    · rename_i hne
      have : i ≠ j := fun z => hne ⟨z, hi⟩
      rw [List.getElem?_set_ne this]
      exact F.ok.sl j x h
  dis := fun j k x y b h1 h2 o1 o2 q1 q2 => by
    rw [put_get] at h1 h2
    split at h1
    · rename_i e1
      split at h2
      · rename_i e2; rw [← e1.1, ← e2.1]
      · rename_i n2
        rw [← e1.1, List.getElem?_set_self (by rw [F.ok.len]; exact hi)] at q1
        cases q1
        rw [List.getElem?_set_ne (fun z => n2 ⟨z, hi⟩)] at q2
        exact absurd q2 (F.noown k y h2 o2)
    · rename_i n1
      rw [List.getElem?_set_ne (fun z => n1 ⟨z, hi⟩)] at q1
      split at h2
      · rename_i e2
        rw [← e2.1, List.getElem?_set_self (by rw [F.ok.len]; exact hi)] at q2
        cases q2
        exact absurd q1 (F.noown j x h1 o1)
      · rename_i n2
        rw [List.getElem?_set_ne (fun z => n2 ⟨z, hi⟩)] at q2
        exact F.ok.dis j k x y b h1 h2 o1 o2 q1 q2
  trkP := F.ok.trkP
  o0 := F.ok.o0
  m0 := F.ok.m0
  base := F.ok.base
  tabs := F.ok.tabs
  dok := F.ok.dok
  len := by show _ = (S.ρ.set i _).length; rw [List.length_set, List.length_set]; exact F.ok.len
/-- a list that is new becomes what slot i owns -/
theorem EOk.storeNew (E : EOk C O σ H S) {q : Addr} {l : List V} {x : Sl} {i : Nat} (hn : H q = none) (hx : Sub (vis O H) (vis (more O q) (upd H q (.lst l))) → SlOk C (more O q) (some (some (.ref q))) (upd H q (.lst l)) x) :
    EOk C (more O q) (σ.set i (some (.ref q))) (upd H q (.lst l)) (S.put i x) := by
  have hs : Sub H (upd H q (.lst l)) := Sub.upd hn
  have sv : Sub (vis O H) (vis (more O q) (upd H q (.lst l))) := hs.vis fun b z => z.elim .inl fun e => .inr (by rw [e]; exact hn)
  have E1 := E.grow hs
  have no : ∀ (j : Nat) (y : Sl), S.ρ[j]? = some (some y) → Ow y → σ[j]? ≠ some (some (.ref q)) := fun j y h w z => by
    obtain ⟨b', _, q', hb, _⟩ := (E.sl j _ h).at w
    rw [z] at q'
    cases q'
    rw [hn] at hb
    cases hb
  refine ⟨fun j y h => ?_, fun j k y z b h1 h2 o1 o2 q1 q2 => ?_, fun b z => ?_, fun b z => .inl (E1.o0 b z), E1.m0, E1.base, E1.tabs, E1.dok, ?_⟩
  · rw [put_get] at h
    split at h
    · rename_i e
      cases h
      rw [← e.1, List.getElem?_set_self (by rw [E.len]; exact e.2)]
      exact hx sv
    · rename_i hne
      have hij : ¬ (i = j ∧ i < σ.length) := fun z => hne ⟨z.1, by rw [← E.len]; exact z.2⟩
      have e1 : (σ.set i (some (.ref q)))[j]? = σ[j]? := by
        rw [List.getElem?_set]
        by_cases e : i = j
        · subst e
          have : ¬ i < σ.length := fun z => hij ⟨rfl, z⟩
          simp [this]
        · simp [e]
      rw [e1]
      refine (E.sl j y h).sub sv fun b w q2 => ?_
      obtain ⟨b', _, q', hb, o', _⟩ := (E.sl j _ h).at w
      rw [q2] at q'
      cases q'
      exact ⟨.inl o', upd_ne (ne_of_none hb hn)⟩
  · rw [put_get] at h1 h2
    have stay : ∀ j, ¬ (i = j ∧ i < S.ρ.length) → (σ.set i (some (.ref q)))[j]? = σ[j]? := fun j hne => by
      rw [List.getElem?_set]
      by_cases e : i = j
      · subst e
        have : ¬ i < σ.length := fun z => hne ⟨rfl, by rw [← E.len]; exact z⟩
        simp [this]
      · simp [e]
    split at h1
    · rename_i e1
      split at h2
      · rename_i e2; rw [← e1.1, ← e2.1]
      · rename_i n2
        rw [← e1.1, List.getElem?_set_self (by rw [E.len]; exact e1.2)] at q1
        cases q1
        rw [stay k n2] at q2
        exact absurd q2 (no k _ h2 o2)
    · rename_i n1
      rw [stay j n1] at q1
      split at h2
      · rename_i e2
        rw [← e2.1, List.getElem?_set_self (by rw [E.len]; exact e2.2)] at q2
        cases q2
        exact absurd q1 (no j _ h1 o1)
      · rename_i n2
        rw [stay k n2] at q2
        exact E.dis j k _ _ b h1 h2 o1 o2 q1 q2
  · rcases z with z | z
    · exact E1.trkP b z
    · exact ⟨_, .lst _, by rw [z]; exact upd_same⟩
  · show _ = (S.ρ.set i _).length; rw [List.length_set, List.length_set]; exact E.len
end
end Pv

/-! Pv7: the text is matched; the program's facts. -/
namespace Pv
open PySem L2
mutual
def eqD : D → D → Bool
  | .none, .none => true
  | .bool a, .bool b => a == b
  | .int a, .int b => decide (a = b)
  | .str a, .str b => decide (a = b)
  | .list a, .list b => eqDs a b
  | .tuple a, .tuple b => eqDs a b
  | _, _ => false
def eqDs : List D → List D → Bool
  | [], [] => true
  | a :: r, b :: s => eqD a b && eqDs r s
  | _, _ => false
end
mutual
theorem eqD_eq : ∀ {a b : D}, eqD a b = true → a = b
  | .none, b, h => by cases b <;> first | rfl | (simp [eqD] at h)
  | .bool x, b, h => by cases b <;> simp [eqD] at h; rw [h]
  | .int x, b, h => by cases b <;> simp [eqD] at h; rw [h]
  | .str x, b, h => by cases b <;> simp [eqD] at h; rw [h]
  | .list x, b, h => by
    cases b <;> simp [eqD] at h
    rw [eqDs_eq h]
  | .tuple x, b, h => by
    cases b <;> simp [eqD] at h
    rw [eqDs_eq h]
  | .dict x, b, h => by cases b <;> simp [eqD] at h
theorem eqDs_eq : ∀ {a b : List D}, eqDs a b = true → a = b
  | [], b, h => by cases b <;> first | rfl | (simp [eqDs] at h)
  | a :: r, b, h => by
    cases b with
    | nil => simp [eqDs] at h
    | cons b s =>
      simp [eqDs] at h
      rw [eqD_eq h.1, eqDs_eq h.2]
end
/-- the program, as far as the matching reads it: names; defs by number: name, number of parameters, how many of them are None where they lack; globals; keyword calls: the def, how many arguments by position, the keywords, the order of all in the parameters' order -/
structure Pc where
  nm : Nm
  fs : List (Str × Nat × Nat)
  gls : List (Str × D)
  kbs : List (Nat × Nat × List Str × List Nat)
  xs : List (Str × Nat)
  lsc : Option (List (Str × NameKind)) := none
  hn : Str := ("" : Str)
  ml : Scope → Nat → Expr → Bool := fun _ _ _ => false
def visB (sc : Scope) (x : Str) : Bool := match sc.names.lookup x with
  | some .local => true
  | some .cell => true
  | some .free => true
  | _ => false
def okName (x : Str) : Bool := !(x == ("__debug__" : Str)) && !(x == ("__classdict__" : Str))
/-- a name that stands in a slot -/
def nameB (N : List Str) (sc : Scope) (i : Nat) (e : Expr) : Bool := match e with
  | .Name x _ => decide (N[i]? = some x) && visB sc x && okName x
  | _ => false
def constB (d : D) (e : Expr) : Bool := match e with
  | .Constant c _ _ => (match c, d with
    | .none, .none => true
    | .bool b, .bool b' => b == b'
    | .int i, .int j => decide (i = j)
    | .str x, .str y => decide (x = y)
    | _, _ => false)
  | _ => false
def opB (o : BinO) (p : CmpOp) : Bool := match o, p with
  | .eq, .Eq => true | .ne, .NotEq => true | .lt, .Lt => true | .le, .LtE => true | .gt, .Gt => true | .ge, .GtE => true
  | _, _ => false
def restB (op : BoolOp) (pos : Pos) : List Expr → Expr
  | [e] => e
  | es => .BoolOp op es pos
/-- the target of a comprehension's block -/
def tgName (N : List Str) (scope rsc : Scope) (own : List Nat) (i : Nat) (e : Expr) : Bool := match e with
  | .Name x _ => decide (N[i]? = some x) && own.contains i && ((match rsc.names.lookup x with | some .local => true | _ => false) || ((match rsc.names.lookup x with | some .cell => true | _ => false) && (scope.names.lookup x == some .cell)))
  | _ => false
def all2 {α β : Type} (f : α → β → Bool) : List α → List β → Bool
  | [], [] => true
  | a :: r, b :: s => f a b && all2 f r s
  | _, _ => false
def tgB (N : List Str) (scope rsc : Scope) (own : List Nat) (t : Tg) (e : Expr) : Bool := match t with
  | .one i => tgName N scope rsc own i e
  | .many is => match e with
    | .Tuple es _ _ => all2 (tgName N scope rsc own) is es
    | _ => false
def isTupT : Expr → Bool
  | .Tuple .. => true
  | _ => false
section
variable (pc : Pc) (N : List Str)
mutual
def mE (sc : Scope) : Ex → Expr → Bool
  | .var i, e => nameB N sc i e
  | .k d, e => constB d e
  | .gl x d, e => match e with
    | .Name y _ => decide (y = x) && glB sc x && okName x && (pc.gls.any fun p => decide (p.1 = x) && eqD p.2 d)
    | _ => false
  | .tup es, e => match e with
    | .Tuple as _ _ => mEs sc es as && decide (as.length ≤ 1000)
    | _ => false
  | .lst es, e => match e with
    | .List as _ => mEs sc es as && decide (as.length ≤ 1000)
    | _ => false
  | .un o a, e => match o, e with
    | .not, .UnaryOp .Not b _ => mE sc a b
    | o, e => match unE pc.nm sc o e with
      | some b => mE sc a b
      | none => false
  | .bin o a b, e => match binE pc.nm sc o e with
    | some (x, y) => mE sc a x && mE sc b y
    | none => false
  | .and_ a b, e => match e with
    | .BoolOp .And (v :: w :: r) pos => mE sc a v && mE sc b (restB .And pos (w :: r))
    | _ => false
  | .or_ a b, e => match e with
    | .BoolOp .Or (v :: w :: r) pos => mE sc a v && mE sc b (restB .Or pos (w :: r))
    | _ => false
  | .chain o o' a b c, e => match e with
    | .Compare x [p, p'] [y, z] _ => opB o p && opB o' p' && notSet z && mE sc a x && mE sc b y && mE sc c z
    | _ => false
  | .ite c a b, e => match e with
    | .IfExp t x y _ => mE sc c t && mE sc a x && mE sc b y
    | _ => false
  | .slice a lo hi, e => match e with
    | .Subscript x (.Slice l u none _) _ => mE sc a x && mO sc lo l && mO sc hi u
    | _ => false
  | .call f nd es, e => match e with
    | .Call (.Name x _) as [] _ => (match pc.fs[f]? with
      | some (y, n, k) => decide (x = y) && glB sc x && okName x && decide (es.length + nd = n) && decide (nd ≤ k) && !as.isEmpty && mEs sc es as
      | none => false)
    | _ => false
  | .callk f perm es, e => match e with
    | .Call (.Name x _) as kws _ => (match pc.fs[f]? with
      | some (y, n, k) => decide (x = y) && glB sc x && okName x && !kws.isEmpty && decide (kws.length ≤ 10) && kws.all (fun kw => kw.arg.isSome) && decide (perm.length = n) && perm.all (fun j => decide (j < es.length)) &&
          (pc.kbs.any fun q => decide (q = (f, as.length, kws.filterMap (·.arg), perm))) && mEs sc es (as ++ kws.map (·.value))
      | none => false)
    | _ => false
  | .lc own tg it test elt, e => match e with
    | .ListComp elt' [⟨tg', it', ifs, 0⟩] scope _ =>
      decide (pc.lsc ≠ some (relS scope sc).names) && blkC N sc scope (own.map fun i => ((N[i]?).getD ("" : Str), i)) && tgB N scope (relS scope sc) own tg tg' && notSet it' && mI sc tg it tg' it' &&
        mT (relS scope sc) test ifs && mE (relS scope sc) elt elt'
    | _ => false
  | .bun o i, e => match unE pc.nm sc o e with
    | some b => nameB N sc i b
    | none => false
  | .bnil ne i, e => match e with
    | .Compare a [op] [.List [] _] _ => (if ne then decide (op = .NotEq) else decide (op = .Eq)) && nameB N sc i a
    | _ => false
  | .btup i, e => match unE pc.nm sc .tuple e with
    | some b => nameB N sc i b
    | none => false
  | .bidx i x, e => match binE pc.nm sc .idx e with
    | some (a, b) => nameB N sc i a && mE sc x b
    | none => false
  | .pop i x, e => match e with
    | .Call (.Attribute o m ap) [a] [] cp => decide (m = ("pop" : Str)) && nameB N sc i o && notStar a && (ap.endLine == cp.line) && mE sc x a
    | _ => false
  | .heard k, e => match e with
    | .Call (.Name x _) [l] [] _ => decide (pc.lsc = some sc.names) && decide (x = pc.hn) && glB sc x && okName x && notStar l && pc.ml sc k l
    | _ => false
  | .heardAll i, e => match e with
    | .ListComp (.Call (.Name x _) [.Name y _] [] _) [⟨.Name z p, it, [], 0⟩] scope _ => decide (pc.lsc = some sc.names) && decide (x = pc.hn) && glB (relS scope sc) x && okName x && decide (y = z) && nameB N sc i it && decide (pc.lsc ≠ some (relS scope sc).names) &&
        blkC N sc scope [(z, N.findIdx (fun u => decide (u = z)))] && tgName N scope (relS scope sc) [N.findIdx (fun u => decide (u = z))] (N.findIdx (fun u => decide (u = z))) (.Name z p) && visB (relS scope sc) y && okName y
    | _ => false
def mEs (sc : Scope) : List Ex → List Expr → Bool
  | [], [] => true
  | i :: is, e :: es => notStar e && mE sc i e && mEs sc is es
  | _, _ => false
def mO (sc : Scope) : Option Ex → Option Expr → Bool
  | none, none => true
  | some i, some e => mE sc i e
  | _, _ => false
def mT (sc : Scope) : Option Ex → List Expr → Bool
  | none, [] => true
  | some i, [e] => mE sc i e
  | _, _ => false
def mI (sc : Scope) (tg : Tg) : It → Expr → Expr → Bool
  | .seq i, _, e => notSet e && mE sc i e
  | .rng i, _, e => match e with
    | .Call (.Name x _) [a] [] _ => bi pc.nm sc x "range" && notStar a && mE sc i a
    | _ => false
  | .rng2 i j, _, e => match e with
    | .Call (.Name x _) [a, b] [] _ => bi pc.nm sc x "range" && notStar a && notStar b && mE sc i a && mE sc j b
    | _ => false
  | .zip i j, t, e => match e with
    | .Call (.Name x _) [a, b] [] _ => isTupT t && bi pc.nm sc x "zip" && notStar a && notStar b && mE sc i a && mE sc j b
    | _ => false
  | .enum i, t, e => match e with
    | .Call (.Name x _) [a] [] _ => isTupT t && bi pc.nm sc x "enumerate" && notStar a && mE sc i a
    | _ => false
  | .scr i, _, e => nameB N sc i e
  | .enumScr i, t, e => match e with
    | .Call (.Name x _) [a] [] _ => isTupT t && bi pc.nm sc x "enumerate" && nameB N sc i a
    | _ => false
end
end
/-! ### the program's facts -/
/-- behind a call: what stood stands but the draws' dict -/
structure Aft (T : List (Addr × Str)) (W : Option MA) (H H' : Hp) (g : G) : Prop where
  keep : ∀ b o, ¬ Mw W b → Nt o → H b = some o → H' b = some o
  tabs : LamX.Tabs T H'
  dok : DrawOk H' W g
/-- what a def promises that does F -/
def spF (K : PySem.W.Frag) (Ce : Ec) (F : List Sl → G → CR) : Sp := fun vs H Q E => ∃ (W : Option MA) (O : Addr → Prop) (xs : List Sl) (g : G),
  ArgsOk K W O H vs xs ∧ (∀ b, O b → ∃ o, Ol o ∧ H b = some o) ∧ (∀ b, Mw W b → O b) ∧ LamX.Tabs Ce.tb H ∧ DrawOk H W g ∧
  match F xs g with
  | .ok d g' => ∀ v H', Aft Ce.tb W H H' g' → Rp K (vis O H') v d → Q v H'
  | .er c d g' => ∀ dd v H', Aft Ce.tb W H H' g' → H' dd = some (.xd [(Ce.att c, v)]) → Rp K (vis O H') v d → E (.ref (Ce.cls c)) (some dd) H'
  | .no => False
/-- what the top has left, and what its defs do -/
structure Pf (pc : Pc) (P : Program) (w : World) (K : PySem.W.Frag) (mg : Str → Option Value) (base : Heap) (Ce : Ec) (lv : Nat) (cf : Nat → List Sl → G → CR) : Prop where
  no : ∀ x, pc.nm.no.contains x = true → mg x = none
  gcd : pc.nm.gcd = true → mg ("gcd" : Str) = some (.builtin "math.gcd")
  gl : ∀ x d, (x, d) ∈ pc.gls → ∃ v u, mg x = some u ∧ RelV v u ∧ Rp K (fun _ => none) v d
  fn : ∀ f x n k, pc.fs[f]? = some (x, n, k) → ∃ fa fd ps, mg x = some (.ref fa) ∧ PySem.W.keepIn K (.ref fa) = true ∧ ps.length = n ∧
    FnOk P w K mg base (L2.CX P w) lv fa fd ps (spF K Ce fun xs g => if xs.length = n then cf f xs g else .no) ∧ (∀ nd, nd ≤ k → Binds K fd ps (List.replicate nd .none)) ∧
    (∀ m ks perm, (f, m, ks, perm) ∈ pc.kbs → ∀ (s : Shared) (us ws : List Value), K.In s.heap → us.length = m → ws.length = ks.length → BindsTo s fd ⟨us, ks.zip ws⟩ (ps.zip (perm.map fun j => (us ++ ws).getD j .none)))
/-- where one stands -/
structure XC (pc : Pc) (N : List Str) (Ce : Ec) (lv : Nat) (cf : Nat → List Sl → G → CR) (C : Cf) (X : Cx) (sc : Scope) (W : WX) : Prop where
  pf : Pf pc X.prog X.w X.K X.mg X.base Ce lv cf
  hN : X.N = N
  nd : N.Nodup
  sc : X.env.scope = sc
  calm : X.calm = true
  K : X.K = C.K
  tb : Ce.tb = C.tb
  room : Room lv X.A
  takes : Takes X W
theorem XC.nm {pc : Pc} {N : List Str} {Ce : Ec} {lv : Nat} {cf : Nat → List Sl → G → CR} {C : Cf} {X : Cx} {sc : Scope} {W : WX} (x : XC pc N Ce lv cf C X sc W) : NmOk pc.nm X sc := ⟨x.sc, x.pf.no, x.pf.gcd, x.calm, x.room.units⟩
theorem vis_ofB {X : Cx} {sc : Scope} {x : Str} (hs : X.env.scope = sc) (h : visB sc x = true) : Vis X.env.scope x := by
  subst hs
  unfold visB at h
  split at h
  · exact .inl (by assumption)
  · exact .inr (.inl (by assumption))
  · exact .inr (.inr (by assumption))
  · cases h
theorem okName_of {x : Str} (h : okName x = true) : (x == ("__debug__" : Str)) = false ∧ (x == ("__classdict__" : Str)) = false := by
  unfold okName at h
  rw [Bool.and_eq_true, Bool.not_eq_true', Bool.not_eq_true'] at h
  exact h
end Pv

/-! Pv8: targets, walks, blocks. -/
namespace Pv
open PySem L2
section
variable {C : Cf} {O : Addr → Prop} {σ : L2.St} {H : Hp} {S : Sg}
theorem EOk.put (E : EOk C O σ H S) {i : Nat} {v : V} {d : D} (hv : Rp C.K (vis O H) v d) : EOk C O (σ.set i (some v)) H (S.put i (.dat d)) := by
  by_cases hi : i < S.ρ.length
  · exact E.store hv hi
  · have e1 : σ.set i (some v) = σ := List.set_eq_of_length_le (by rw [E.len]; omega)
    have e2 : S.put i (.dat d) = S := by
      unfold Sg.put
      rw [List.set_eq_of_length_le (by omega)]
    rw [e1, e2]
    exact E
theorem EOk.puts : ∀ {is : List Nat} {vs : List V} {ds : List D} {σ : L2.St} {S : Sg}, EOk C O σ H S → RpAll C.K (vis O H) vs ds →
    EOk C O ((is.zip vs).foldl (fun σ p => σ.set p.1 (some p.2)) σ) H ((is.zip ds).foldl (fun s p => s.put p.1 (.dat p.2)) S)
  | [], _, _, _, _, E, _ => by simpa using E
  | i :: is, _, _, _, _, E, h => by
    cases h with
    | nil => simpa using E
    | cons h1 h2 =>
      simp only [List.zip_cons_cons, List.foldl_cons]
      exact EOk.puts (E.put h1) h2
/-- what a target does to the slots -/
def setTg : Tg → V → List V → L2.St → L2.St
  | .one i, v, _, σ => σ.set i (some v)
  | .many is, _, vs, σ => (is.zip vs).foldl (fun σ p => σ.set p.1 (some p.2)) σ
def gNames : List Nat → TGs
  | [] => gNil
  | i :: is => gCons (gName i) (gNames is)
def gOf (K : PySem.W.Frag) : Tg → TG
  | .one i => gName i
  | .many is => gTup K is.length (gNames is)
theorem gNames_ok : ∀ {is : List Nat} {vs : List V} {σ : L2.St} {Q : L2.St → Hp → Prop}, vs.length = is.length → Q ((is.zip vs).foldl (fun σ p => σ.set p.1 (some p.2)) σ) H → gNames is vs σ H Q
  | [], [], _, _, _, q => ⟨rfl, by simpa using q⟩
  | i :: is, v :: vs, _, _, h, q => ⟨v, vs, rfl, gNames_ok (by simpa using h) (by simpa using q)⟩
  | [], _ :: _, _, _, h, _ => by simp at h
  | _ :: _, [], _, _, h, _ => by simp at h
theorem gOf_ok {tg : Tg} {d : D} {S1 : Sg} {x : V} {Q : L2.St → Hp → Prop} (E : EOk C O σ H S) (hp : tg.put d S = some S1) (hx : Rp C.K (vis O H) x d) (q : ∀ vs, EOk C O (setTg tg x vs σ) H S1 → Q (setTg tg x vs σ) H) : gOf C.K tg x σ H Q := by
  cases tg with
  | one i =>
    cases hp
    exact q [] (E.put hx)
  | many is =>
    cases hx with
    | tup hs hl =>
      simp only [Tg.put] at hp
      split at hp
      · rename_i hlen
        cases hp
        have l1 := hl.len
        exact ⟨_, _, rfl, sqT_sub vis_sub hs, l1.trans hlen, gNames_ok (l1.trans hlen) (q _ (EOk.puts E hl))⟩
      · cases hp
    | _ => cases hp
/-- a block's slots -/
theorem wipe_get {ρ : List (Option Sl)} : ∀ {vs : List Nat} {i : Nat} {x : Sl}, (wipeS ρ vs)[i]? = some (some x) → ρ[i]? = some (some x) ∧ i ∉ vs
  | [], _, _, h => ⟨h, by simp⟩
  | v :: vs, i, x, h => by
    unfold wipeS at h
    rw [List.getElem?_set] at h
    split at h
    · split at h <;> cases h
    · rename_i hne
      obtain ⟨h1, h2⟩ := wipe_get h
      exact ⟨h1, by simp only [List.mem_cons, not_or]; exact ⟨fun e => hne e.symm, h2⟩⟩
theorem wipeV_get {σ : L2.St} : ∀ {vs : List Nat} {i : Nat}, i ∉ vs → (wipe σ vs)[i]? = σ[i]?
  | [], _, _ => rfl
  | v :: vs, i, h => by
    simp only [List.mem_cons, not_or] at h
    unfold wipe
    rw [List.getElem?_set_ne (fun e => h.1 e.symm), wipeV_get h.2]
theorem wipeS_len {ρ : List (Option Sl)} : ∀ {vs : List Nat}, (wipeS ρ vs).length = ρ.length
  | [] => rfl
  | v :: vs => by unfold wipeS; rw [List.length_set, wipeS_len]
theorem wipe_idem {σ τ : L2.St} : ∀ {vs : List Nat}, wipe τ vs = wipe σ vs → True := fun _ => True.intro
theorem EOk.blk (E : EOk C O σ H S) (vs : List Nat) : EOk C O (wipe σ vs) H { S with ρ := wipeS S.ρ vs } where
  sl := fun i x h => by
    obtain ⟨h1, h2⟩ := wipe_get h
    rw [wipeV_get h2]
    exact E.sl i x h1
  dis := fun i j x y a h1 h2 o1 o2 q1 q2 => by
    obtain ⟨k1, n1⟩ := wipe_get h1
    obtain ⟨k2, n2⟩ := wipe_get h2
    rw [wipeV_get n1] at q1
    rw [wipeV_get n2] at q2
    exact E.dis i j x y a k1 k2 o1 o2 q1 q2
  trkP := E.trkP
  o0 := E.o0
  m0 := E.m0
  base := E.base
  tabs := E.tabs
  dok := E.dok
  len := by rw [wipe_length, wipeS_len]; exact E.len
theorem back_get {old ρ : List (Option Sl)} : ∀ {vs : List Nat} {i : Nat} {x : Sl}, (backS old ρ vs)[i]? = some (some x) → (i ∉ vs ∧ ρ[i]? = some (some x)) ∨ ∃ d, x = .dat d ∧ old[i]? = some (some (.dat d))
  | [], _, _, h => .inl ⟨by simp, h⟩
  | v :: vs, i, x, h => by
    unfold backS at h
    rw [List.getElem?_set] at h
    split at h
    · rename_i e
      split at h
      · split at h
        · rename_i d hd
          cases h
          exact .inr ⟨d, rfl, by rw [← e]; exact hd⟩
        · cases h
      · cases h
    · rename_i hne
      rcases back_get h with ⟨h1, h2⟩ | q
      · exact .inl ⟨by simp only [List.mem_cons, not_or]; exact ⟨fun e => hne e.symm, h1⟩, h2⟩
      · exact .inr q
theorem backS_len {old ρ : List (Option Sl)} : ∀ {vs : List Nat}, (backS old ρ vs).length = ρ.length
  | [] => rfl
  | v :: vs => by unfold backS; rw [List.length_set, backS_len]
/-- behind a block -/
theorem EOk.back {O2 : Addr → Prop} {H2 : Hp} {S2 : Sg} {vs : List Nat} (E : EOk C O σ H S) (E2 : EOk C O2 (wipe σ vs) H2 S2) (s : Sub (vis O H) (vis O2 H2)) : EOk C O2 σ H2 { S2 with ρ := backS S.ρ S2.ρ vs } where
  sl := fun i x h => by
    rcases back_get h with ⟨n, h1⟩ | ⟨d, rfl, h1⟩
    · rw [← wipeV_get n]
      exact E2.sl i x h1
    · exact (E.sl i _ h1).sub s fun a e => e.elim
  dis := fun i j x y a h1 h2 o1 o2 q1 q2 => by
    rcases back_get h1 with ⟨n1, k1⟩ | ⟨d, e, _⟩
    · rcases back_get h2 with ⟨n2, k2⟩ | ⟨d, e, _⟩
      · rw [← wipeV_get n1] at q1
        rw [← wipeV_get n2] at q2
        exact E2.dis i j x y a k1 k2 o1 o2 q1 q2
      · subst e; exact o2.elim
    · subst e; exact o1.elim
  trkP := E2.trkP
  o0 := E2.o0
  m0 := E2.m0
  base := E2.base
  tabs := E2.tabs
  dok := E2.dok
  len := by rw [backS_len, ← E2.len, wipe_length]
end
/-! ### walks -/
/-- what is walked gives ds, now -/
structure Wk (K : PySem.W.Frag) (J : L2.It) (ds : List D) (O : Addr → Prop) (H : Hp) : Prop where
  goes : ∀ i, i < ds.length → J.go i H
  stops : J.stop ds.length H
  yields : ∀ i x H', i < ds.length → J.yld i H x H' → ∃ d, ds[i]? = some d ∧ Sub H H' ∧ Rp K (vis O H') x d
/-- .. now and later -/
def Wks (K : PySem.W.Frag) : (Addr → Prop) → Hp → L2.It → List D → Prop := fun O H J ds => ∀ O' H', Sub (vis O H) (vis O' H') → (∀ b, O' b → H' b ≠ none) → Wk K J ds O' H'
theorem Wks.later {K : PySem.W.Frag} {J : L2.It} {ds : List D} {O O' : Addr → Prop} {H H' : Hp} (w : Wks K O H J ds) (s : Sub (vis O H) (vis O' H')) : Wks K O' H' J ds := fun O2 H2 s2 => w O2 H2 (s.trans s2)
section
variable {K : PySem.W.Frag} {O : Addr → Prop} {H : Hp} {a b : Addr} {xs ys : List V} {ds es : List D}
theorem wks_list (h : vis O H a = some (.lst xs)) (r : RpAll K (vis O H) xs ds) : Wks K O H (Itl K a) ds := fun O' H' s _ => by
  have q : SqL K H' a xs := SqL.of (vis_sub _ _ (s _ _ h))
  have l := r.len
  refine ⟨fun i hi => walk_list.goes i H' (by omega) q, by rw [← l]; exact walk_list.stops H' q, fun i x H2 hi y => ?_⟩
  obtain ⟨e1, e2⟩ := walk_list.yields i H' x H2 (by omega) q y
  obtain ⟨d, k1, k2⟩ := r.getV e2
  subst e1
  exact ⟨d, k1, Sub.refl _, rp_sub s _ _ k2⟩
theorem wks_sql (h : SqL K (vis O H) a xs) (r : RpAll K (vis O H) xs ds) : Wks K O H (Itl K a) ds := fun O' H' s _ => by
  have q : SqL K H' a xs := sqL_sub vis_sub (sqL_sub s h)
  have l := r.len
  refine ⟨fun i hi => walk_list.goes i H' (by omega) q, by rw [← l]; exact walk_list.stops H' q, fun i x H2 hi y => ?_⟩
  obtain ⟨e1, e2⟩ := walk_list.yields i H' x H2 (by omega) q y
  obtain ⟨d, k1, k2⟩ := r.getV e2
  subst e1
  exact ⟨d, k1, Sub.refl _, rp_sub s _ _ k2⟩
theorem wks_tup (h : SqT K (vis O H) a xs) (r : RpAll K (vis O H) xs ds) : Wks K O H (Itt K a) ds := fun O' H' s _ => by
  have q : SqT K H' a xs := sqT_sub vis_sub (sqT_sub s h)
  have l := r.len
  refine ⟨fun i hi => walk_tup.goes i H' (by omega) q, by rw [← l]; exact walk_tup.stops H' q, fun i x H2 hi y => ?_⟩
  obtain ⟨e1, e2⟩ := walk_tup.yields i H' x H2 (by omega) q y
  obtain ⟨d, k1, k2⟩ := r.getV e2
  subst e1
  exact ⟨d, k1, Sub.refl _, rp_sub s _ _ k2⟩
theorem wks_range {lo : Int} {n : Nat} : Wks K O H (Itr lo n) ((List.range n).map fun (k : Nat) => PyData.int (lo + k)) := fun O' H' s _ => by
  have l : ((List.range n).map fun (k : Nat) => PyData.int (lo + k)).length = n := by simp
  refine ⟨fun i hi => by rw [l] at hi; exact hi, by rw [l]; exact Nat.le_refl _, fun i x H2 hi y => ?_⟩
  obtain ⟨e1, e2⟩ := y
  subst e1 e2
  rw [l] at hi
  exact ⟨.int (lo + i), by simp [hi], Sub.refl _, .int _⟩
/-- a new pair -/
theorem rp_pair {O' : Addr → Prop} {H' : Hp} {T : Addr} {x y : V} {d e : D} (t : ∀ b, O' b → H' b ≠ none) (n : H' T = none) (hx : Rp K (vis O' H') x d) (hy : Rp K (vis O' H') y e) :
    Sub H' (upd H' T (.tup [x, y])) ∧ Rp K (vis O' (upd H' T (.tup [x, y]))) (.ref T) (.tuple [d, e]) := by
  have s := Sub.upd (o := .tup [x, y]) n
  have sv : Sub (vis O' H') (vis O' (upd H' T (.tup [x, y]))) := s.vis fun b z => .inl z
  exact ⟨s, .tup (.inl (.inl (vis_new t n (nt_tup _)))) (.cons (rp_sub sv _ _ hx) (.cons (rp_sub sv _ _ hy) .nil))⟩
theorem zips_get : ∀ {ds es : List D} {i : Nat} {d e : D}, ds[i]? = some d → es[i]? = some e → (zips ds es)[i]? = some (.tuple [d, e])
  | [], _, _, _, _, h, _ => by simp at h
  | _ :: _, [], _, _, _, _, h => by simp at h
  | a :: ds, b :: es, 0, d, e, h, h2 => by simp at h h2; subst h h2; rfl
  | a :: ds, b :: es, i + 1, d, e, h, h2 => by
    show (zips ds es)[i]? = _
    exact zips_get (by simpa using h) (by simpa using h2)
theorem zips_len : ∀ {ds es : List D}, (zips ds es).length = min ds.length es.length
  | [], _ => by simp [zips]
  | _ :: _, [] => by simp [zips]
  | a :: ds, b :: es => by
    show (zips ds es).length + 1 = min (ds.length + 1) (es.length + 1)
    rw [zips_len]
    omega
theorem pairs_len : ∀ {n : Nat} {ds : List D}, (pairs n ds).length = ds.length
  | _, [] => rfl
  | n, d :: ds => by
    show (pairs (n + 1) ds).length + 1 = ds.length + 1
    rw [pairs_len]
theorem pairs_get : ∀ {n : Nat} {ds : List D} {i : Nat} {d : D}, ds[i]? = some d → (pairs n ds)[i]? = some (.tuple [.int ((n + i : Nat) : Int), d])
  | _, [], _, _, h => by simp at h
  | n, a :: ds, 0, d, h => by simp at h; subst h; rfl
  | n, a :: ds, i + 1, d, h => by
    show (pairs (n + 1) ds)[i]? = _
    rw [pairs_get (by simpa using h)]
    congr 4
    omega
theorem wks_zipL (h : vis O H a = some (.lst xs)) (r : RpAll K (vis O H) xs ds) (h' : vis O H b = some (.lst ys)) (r' : RpAll K (vis O H) ys es) : Wks K O H (Itz K a b) (zips ds es) := fun O' H' s t => by
  have q : SqL K H' a xs := SqL.of (vis_sub _ _ (s _ _ h))
  have q' : SqL K H' b ys := SqL.of (vis_sub _ _ (s _ _ h'))
  have l := r.len
  have l' := r'.len
  have w := walk_zip (K := K) (a := a) (b := b) (xs := xs) (ys := ys) rfl
  have ln : (zips ds es).length = min xs.length ys.length := by rw [zips_len, l, l']
  refine ⟨fun i hi => w.goes i H' (by omega) ⟨q, q'⟩, by rw [ln]; exact w.stops H' ⟨q, q'⟩, fun i x H2 hi y => ?_⟩
  obtain ⟨T, u, v, rfl, hT, rfl, e1, e2⟩ := w.yields i H' x H2 (by omega) ⟨q, q'⟩ y
  obtain ⟨d, k1, k2⟩ := r.getV e1
  obtain ⟨e, k3, k4⟩ := r'.getV e2
  obtain ⟨z1, z2⟩ := rp_pair t hT (rp_sub s _ _ k2) (rp_sub s _ _ k4)
  exact ⟨_, zips_get k1 k3, z1, z2⟩
theorem wks_zipT (h : SqT K (vis O H) a xs) (r : RpAll K (vis O H) xs ds) (h' : SqT K (vis O H) b ys) (r' : RpAll K (vis O H) ys es) : Wks K O H (RZ.ItzT K a b) (zips ds es) := fun O' H' s t => by
  have q : SqT K H' a xs := sqT_sub vis_sub (sqT_sub s h)
  have q' : SqT K H' b ys := sqT_sub vis_sub (sqT_sub s h')
  have l := r.len
  have l' := r'.len
  have ln : (zips ds es).length = min xs.length ys.length := by rw [zips_len, l, l']
  refine ⟨fun i hi => ⟨xs, ys, xs[i]'(by omega), ys[i]'(by omega), q, q', by simp [show i < xs.length by omega], by simp [show i < ys.length by omega]⟩, ⟨xs, ys, q, q', by omega⟩, fun i x H2 hi y => ?_⟩
  obtain ⟨T, u, v, rfl, hT, rfl, e1, e2⟩ := y
  obtain ⟨d, k1, k2⟩ := r.getV (e1 _ q)
  obtain ⟨e, k3, k4⟩ := r'.getV (e2 _ q')
  obtain ⟨z1, z2⟩ := rp_pair t hT (rp_sub s _ _ k2) (rp_sub s _ _ k4)
  exact ⟨_, zips_get k1 k3, z1, z2⟩
theorem wks_enumL (h : SqL K (vis O H) a xs) (r : RpAll K (vis O H) xs ds) : Wks K O H (Ite K a) (pairs 0 ds) := fun O' H' s t => by
  have q : SqL K H' a xs := sqL_sub vis_sub (sqL_sub s h)
  have l := r.len
  have ln : (pairs 0 ds).length = xs.length := by rw [pairs_len, l]
  refine ⟨fun i hi => walk_enum.goes i H' (by omega) q, by rw [ln]; exact walk_enum.stops H' q, fun i x H2 hi y => ?_⟩
  obtain ⟨T, u, v, rfl, hT, rfl, e1, e2⟩ := walk_enum.yields i H' x H2 (by omega) q y
  obtain ⟨d, k1, k2⟩ := r.getV e2
  cases e1
  obtain ⟨z1, z2⟩ := rp_pair t hT (.int ((i : Nat) : Int)) (rp_sub s _ _ k2)
  exact ⟨_, by rw [pairs_get k1]; simp, z1, z2⟩
end
end Pv

/-! Pv9: enumerate over a tuple. -/
namespace Pv
open PySem PySem.Spec PyProof.Rows L2
theorem enumNew1 {v : Value} {o : Obj} {G : Heap → Prop} (B : Begins v o G) :
    Meets (Builtin.«enumerate.__new__» ⟨[.type "enumerate", v], []⟩) (fun _ R s => G s.heap ∧
      R (.ok (.ret (.ref (s.heap.push o).objs.size))) { s with heap := (s.heap.push o).push { cls := .type "enumerate", data := .fields #[.none, .bool false, .ref s.heap.objs.size, rawInt 0, .none, .none] } }) :=
  .of_wp fun prog w A R s h => by
    obtain ⟨hp, g, d, tk, os⟩ := s
    obtain ⟨h1, h⟩ := h
    have hsub := sub_enumerate
    have it1 : ∀ {A' : Around} {E : Value → Shared → Prop} {Q : Value → Shared → Prop}, Q (.ref hp.objs.size) ⟨hp.push o, g, d, tk, os⟩ → wpAny (model prog w) A' (pyIter v) Q E ⟨hp, g, d, tk, os⟩ :=
      fun q => B.iter prog w _ _ ⟨hp, g, d, tk, os⟩ _ h1 q
    wp_walk using it1
    refine wpAny_stack_any fun st => wpAny_pure ?_
    split
    · rename_i c _ _ _ _ _
      cases (c == Value.type "enumerate") <;> (wp_walk using it1) <;> exact ⟨_, rfl, h⟩
    · wp_walk using it1
      exact ⟨_, rfl, h⟩
section
variable {prog : Program} {w : World} {A : Around} {E : Value → Shared → Prop} {s : Shared}
theorem call_enum1 {v : Value} {o : Obj} {G : Heap → Prop} {Q : Value → Shared → Prop} (B : Begins v o G) (h1 : G s.heap)
    (h : ∀ h', IsEnum h' (s.heap.objs.size + 1) s.heap.objs.size 0 .none → h'.get? s.heap.objs.size = some o → (∀ b u, s.heap.get? b = some u → h'.get? b = some u) → Q (.ref (s.heap.objs.size + 1)) { s with heap := h' }) :
    wpAny (model prog w) A (call (.type "enumerate") [v]) Q E s := by
  have sz : (s.heap.push o).objs.size = s.heap.objs.size + 1 := Heap.size_push ..
  have en : IsEnum ((s.heap.push o).push { cls := .type "enumerate", data := .fields #[.none, .bool false, .ref s.heap.objs.size, rawInt 0, .none, .none] }) (s.heap.objs.size + 1) s.heap.objs.size 0 .none := by
    have z := Heap.get?_push_size (s.heap.push o) (o := { cls := .type "enumerate", data := .fields #[.none, .bool false, .ref s.heap.objs.size, rawInt 0, .none, .none] }) rfl
    rw [sz] at z
    exact z
  refine callType_new F.called_enumerate (by decide) (F.typeCall_enumerate_1 _) (F.newCall_enumerate_1 _) (fun obj => F.args_object_init_2 obj _) F.entry_enumerate_new (enumNew1 B) ⟨h1, ?_⟩
  show _ ∧ _
  rw [sz]
  exact ⟨⟨_, en, rfl⟩, h _ en (Heap.get?_push_of_some _ (Heap.get?_push_size _ B.free)) fun b u x => Heap.get?_push_of_some _ (Heap.get?_push_of_some _ x)⟩
theorem enum1_end {e it l : Addr} {c : Int} {i : Nat} {items : Array Value} {old : Value} {Q : Option Value → Shared → Prop} (hh : A.handled = none)
    (he : IsEnum s.heap e it c old) (hit : s.heap.IsTupleIter it l i) (hl : s.heap.IsTuple l items) (hx : items[i]? = none) (hQ : ∀ h', Heap.ExtBut it s.heap h' → Q none { s with heap := h' }) :
    wpAny (model prog w) A (pyNext (.ref e)) Q E s := by
  have ty : s.TypeIs (.ref e) "enumerate" := ⟨_, he, rfl⟩
  unfold pyNext
  refine wpAny_bind (wpAny_attempt (wpAny_callSpecial?_slot (name := Str.ofString "__next__") ty F.slot_enumerate_next (wpAny_call_entry F.slot_enumerate_next ty F.entry_enumerate_next ?_ (F.args_enumerate_next_1 _))))
  refine wpAny_bind (m := field (.ref e) 2) (wpAny_field he rfl (x := .ref it) rfl ?_)
  refine wpAny_bind (wpAny_nextOf_tuple_end hh hit hl hx fun h' x k hs => ?_)
  obtain ⟨o, ho, hc⟩ := hs
  exact wpAny_bind (wpAny_isInstance (T := "StopIteration") (b := true) ⟨o, ho, hc⟩ isSubtype_stop (wpAny_pure (hQ _ k)))
end
/-- enumerate(tuple) -/
def IteT (K : PySem.W.Frag) (a : Addr) : L2.It :=
  ⟨fun i H => ∃ (xs : List V) (x : V), SqT K H a xs ∧ xs[i]? = some x, fun i H v H' => ∃ T x, v = .ref T ∧ H T = none ∧ H' = upd H T (.tup [.int (i : Nat), x]) ∧ ∀ xs, SqT K H a xs → xs[i]? = some x, fun i H => ∃ xs : List V, SqT K H a xs ∧ xs.length ≤ i⟩
theorem turn_enumT {P : Program} {w : World} {K : PySem.W.Frag} {elts : List Expr} {kk : Nat} {tpos : Pos} (a e it : Addr) :
    Turn P w K (.Tuple elts kk tpos) (IteT K a) [e, it] e (fun i h => (∃ old, IsEnum h e it ((i : Nat) : Int) old) ∧ h.IsTupleIter it a i ∧ e ≠ it ∧ a ≠ it ∧ a ≠ e) where
  mem := by simp
  obj := fun i h st b hb => by
    obtain ⟨⟨old, he⟩, ⟨o, ho, hc, hd⟩, _⟩ := st
    have z : b = e ∨ b = it := by simpa using hb
    cases z with
    | inl z => rw [z]; exact ⟨_, he, fun v q => nomatch q⟩
    | inr z => rw [z]; exact ⟨o, ho, fun v q => by rw [hd] at q; cases q⟩
  keep := fun i h h' st k => by
    obtain ⟨⟨old, he⟩, hi, r⟩ := st
    exact ⟨⟨old, k e (by simp) _ he⟩, hi.at fun o q => k it (by simp) o q, r⟩
  item := by
    intro X hP hw hK hc i pins s σ H E I hf st hg
    subst hP hw hK
    obtain ⟨⟨old, he⟩, hit, hne, ha1, ha2⟩ := st
    obtain ⟨xs, x, hq, hx⟩ := hg
    obtain ⟨its, rv, p, hz⟩ := I.tuple hq
    obtain ⟨u, hu, ru⟩ := rv.get hx
    have pT : s.heap.IsTuple a its.toArray := p
    have hilt : i < its.toArray.size := by
      have := (List.getElem?_eq_some_iff.mp hu).1
      simpa using this
    have el : e < s.heap.objs.size := Heap.lt_size he
    have il : it < s.heap.objs.size := by obtain ⟨_, q, _⟩ := hit; exact Heap.lt_size q
    refine wpAny_pyNext_enum_itemD (Draws.tuple (A := X.A.in1) (I.ok.hd hc) it a ha1 its.toArray) he ⟨hit, pT⟩ hilt hne (by simp [hne, Ne.symm ha2]) fun y h' tk hy ho hst hT hsz hk => ?_
    have ey : y = u := by
      have hy' : its.toArray[i]? = some y := hy
      rw [List.getElem?_toArray, hu] at hy'
      exact (Option.some.inj hy').symm
    subst ey
    refine ⟨_, rfl, wpAny_letOwnedTupleGo_enum (s := { s with heap := h', toks := tk + 1 }) ho fun h2 he2 sb => ?_⟩
    have hT2 : h2.get? s.heap.objs.size = some { cls := .type "tuple", data := .seq #[.int i tk, y] } := (sb.2 _ (Nat.ne_of_gt el)).trans hT
    have new : ObjOk X.prog X.w (upd H s.heap.objs.size (.tup [.int (i : Nat), x])) h2 s.heap.objs.size (.tup [.int (i : Nat), x]) :=
      ⟨by show 2 ≤ sizeLine; decide, [.int i tk, y], .cons ⟨_, rfl⟩ (.cons ru .nil), ⟨_, hT2, rfl, _, rfl⟩⟩
    have I1 : Inv X pins σ (upd H s.heap.objs.size (.tup [.int (i : Nat), x])) { s with heap := h2, toks := tk + 1 } :=
      I.turnedNew (ch := [e, it]) (fun b ob hb q => (sb.2 b (fun z => hb (by simp [z]))).trans (hk b ob (fun z => hb (by simp [z])) (fun z => hb (by simp [z])) q)) hf (Nat.le_refl _) new
    refine ⟨.ref s.heap.objs.size, _, I1, rfl, ⟨_, x, rfl, I.hok.fresh (Nat.le_refl _), rfl, fun ys hy => by rw [I.tuple_inj hy hq]; exact hx⟩, ⟨⟨y, ?_⟩, hst.1.at fun o q => (sb.2 it (Ne.symm hne)).trans q, hne, ha1, ha2⟩, fun b hb => ?_⟩
    · have e1 : ((i + 1 : Nat) : Int) = (i : Int) + 1 := by omega
      rw [e1]; exact he2
    · have z : b = e ∨ b = it := by simpa using hb
      have hb2 : b < s.heap.objs.size := by
        cases z with
        | inl z => rw [z]; exact el
        | inr z => rw [z]; exact il
      rw [upd_ne (Nat.ne_of_lt hb2)]
      exact (hf b hb).1
  done := by
    intro X hP hw hK hc i pins s σ H E I hf st hg
    subst hP hw hK
    obtain ⟨⟨old, he⟩, hit, hne, ha1, ha2⟩ := st
    obtain ⟨xs, hq, hx⟩ := hg
    obtain ⟨its, rv, p, hz⟩ := I.tuple hq
    obtain ⟨f0, f1, f2, f3, f4, f5⟩ := hf it (by simp)
    have pT : s.heap.IsTuple a its.toArray := p
    have hl := rv.length
    exact enum1_end (I.ok.hd hc) he hit pT (by simp; omega) fun h' eb => ⟨rfl, I.turned (t' := s.toks) (fun b o hb q => eb b o hb q) f0 f1 f3 f4 f5⟩
  self := fun A i s Q E st h => let ⟨⟨_, he⟩, _⟩ := st; wpAny_pyIter_enum he h
def iEnumT (K : PySem.W.Frag) (ta : TA) : TI := fun σ H R => ta σ H fun vs H1 => ∃ a xs, vs = [.ref a] ∧ SqT K H1 a xs ∧ R (IteT K a) H1
theorem pi_enumT {X : Cx} {e : Expr} {ta : TA} {p pos tpos : Pos} {elts : List Expr} {kk : Nat} (hg : Gl X "enumerate") (hm : X.mg "enumerate" = none) (ha : PA X [e] ta) (hs : starEach [e] X.env = [(false, eval e X.env)]) :
    PI X (.Tuple elts kk tpos) (.Call (.Name "enumerate" p) [e] [] pos) (iEnumT X.K ta) := by
  refine ⟨fun pins s σ H R I h => ?_⟩
  refine Call_ (ld_blt I hg hm boot_enumerate (PyProof.Rows.callWith_type1 (thn (ha.run pos pins s σ H _ I h) fun us s1 ⟨vs, H1, I1, r1, q1⟩ => ?_) hs rfl))
  obtain ⟨a, xs, ex, hq, q⟩ := q1
  subst ex
  cases r1 with
  | cons r rr =>
    cases rr
    cases r
    obtain ⟨its, rv, pt, hz⟩ := I1.tuple hq
    have pT : s1.heap.IsTuple a its.toArray := pt
    have la : a < s1.heap.objs.size := by obtain ⟨_, z, _⟩ := pT; exact Heap.lt_size z
    refine call_enum1 (begins_tuple a its.toArray) pT fun h' he ho hk => wpAny_pyIter_enum he ?_
    have I2 : Inv X pins σ H1 { s1 with heap := h' } := I1.kept (t' := s1.toks) hk
    refine ⟨s1.heap.objs.size + 1, [s1.heap.objs.size + 1, s1.heap.objs.size], _, _, H1, rfl, I2, turn_enumT a (s1.heap.objs.size + 1) s1.heap.objs.size, ⟨⟨.none, he⟩, ⟨_, ho, rfl, rfl⟩, Nat.succ_ne_self _, Nat.ne_of_lt la, Nat.ne_of_lt (Nat.lt_succ_of_lt la)⟩, fun b hb => ?_, q⟩
    have z : b = s1.heap.objs.size + 1 ∨ b = s1.heap.objs.size := by simpa using hb
    have hle : s1.heap.objs.size ≤ b := by
      cases z with
      | inl z => rw [z]; exact Nat.le_add_right _ _
      | inr z => rw [z]; exact Nat.le_refl _
    exact I1.fpOk hle (I1.hok.fresh hle)
/-- enumerate of either -/
theorem pi_enumA {X : Cx} {e : Expr} {ta : TA} {p pos tpos : Pos} {elts : List Expr} {kk : Nat} (hg : Gl X "enumerate") (hm : X.mg "enumerate" = none) (ha : PA X [e] ta) (hs : starEach [e] X.env = [(false, eval e X.env)]) :
    PI X (.Tuple elts kk tpos) (.Call (.Name "enumerate" p) [e] [] pos) (fun σ H R => iEnum X.K ta σ H R ∨ iEnumT X.K ta σ H R) :=
  ⟨fun pins s σ H R I h => h.elim ((pi_enum hg hm ha hs).run pins s σ H R I) ((pi_enumT hg hm ha hs).run pins s σ H R I)⟩
end Pv

/-! Pv10: expressions do what the small language says: the forms. -/
namespace Pv
open PySem L2
section
variable {K : PySem.W.Frag} {O : Addr → Prop} {H : Hp} {a : Addr} {xs : List V} {ds : List D}
theorem wks_enumT (h : SqT K (vis O H) a xs) (r : RpAll K (vis O H) xs ds) : Wks K O H (IteT K a) (pairs 0 ds) := fun O' H' s t => by
  have q : SqT K H' a xs := sqT_sub vis_sub (sqT_sub s h)
  have l := r.len
  have ln : (pairs 0 ds).length = xs.length := by rw [pairs_len, l]
  refine ⟨fun i hi => ⟨xs, xs[i]'(by omega), q, by simp [show i < xs.length by omega]⟩, ⟨xs, q, by omega⟩, fun i x H2 hi y => ?_⟩
  obtain ⟨T, v, rfl, hT, rfl, e2⟩ := y
  obtain ⟨d, k1, k2⟩ := r.getV (e2 _ q)
  obtain ⟨z1, z2⟩ := rp_pair t hT (.int ((i : Nat) : Int)) (rp_sub s _ _ k2)
  exact ⟨_, by rw [pairs_get k1]; simp, z1, z2⟩
end
section
variable {pc : Pc} {N : List Str} {Ce : Ec} {lv : Nat} {cf : Nat → List Sl → G → CR} {C : Cf} {X : Cx} {sc : Scope} {W : WX} {a b c e : Expr} {f g h : Sg → R D} {pos : Pos}
/-- a name -/
theorem x_var (x : XC pc N Ce lv cf C X sc W) {i : Nat} (hm : nameB N sc i e = true) : PE X e (tE Ce C W fun s => s.read i) := by
  unfold nameB at hm
  split at hm
  · simp only [Bool.and_eq_true, decide_eq_true_eq] at hm
    obtain ⟨⟨h1, h2⟩, h3⟩ := hm
    obtain ⟨h4, h5⟩ := okName_of h3
    refine pe_imp (pe_var (i := i) (by rw [x.hN]; exact h1) (vis_ofB x.sc h2) h4 h5) fun σ H Q q => ?_
    obtain ⟨O, S, E, p⟩ := q
    change Post Ce C W (Rv C) O σ H Q (S.read i) at p
    unfold Sg.read at p
    split at p
    · rename_i d hd
      obtain ⟨v, e1, e2⟩ := E.sl i _ hd
      exact ⟨v, e1, p v H O (Go.refl E) e2⟩
    · rename_i ds hd
      obtain ⟨v, vs, e1, e2, e3, e4, e5, e6⟩ := E.sl i _ hd
      have F := E.freeze hd e1 e2 e4 e6
      exact ⟨.ref v, e1, p (.ref v) H (less O v) ⟨fun b z => z.1, Ext.refl _ _, F⟩ (.lst (vis_of (fun z => z.2 rfl) (nt_lst _) e2) (rpAll_sub vis_less _ _ e6))⟩
    · exact p.elim
  · cases hm
theorem name_plain {i : Nat} (hm : nameB N sc i e = true) : plainT e = true ∧ notStar e = true ∧ ∃ x p, e = .Name x p := by
  unfold nameB at hm
  split at hm
  · exact ⟨rfl, rfl, _, _, rfl⟩
  · cases hm
/-- the address that a name's slot holds -/
theorem x_slot (x : XC pc N Ce lv cf C X sc W) {i : Nat} (hm : nameB N sc i e = true) : PE X e (tVar i) := by
  unfold nameB at hm
  split at hm
  · simp only [Bool.and_eq_true, decide_eq_true_eq] at hm
    obtain ⟨⟨h1, h2⟩, h3⟩ := hm
    obtain ⟨h4, h5⟩ := okName_of h3
    exact pe_var (i := i) (by rw [x.hN]; exact h1) (vis_ofB x.sc h2) h4 h5
  · cases hm
theorem x_const {d : D} (hm : constB d e = true) : PE X e (tE Ce C W fun s => .ok d s) := by
  unfold constB at hm
  split at hm
  · rename_i c j p
    split at hm
    · exact pe_imp pe_non fun σ H Q ⟨O, S, E, p⟩ => p _ H O (Go.refl E) .non
    · rename_i b b'
      have : b = b' := by simpa using hm
      subst this
      exact pe_imp pe_bl fun σ H Q ⟨O, S, E, p⟩ => p _ H O (Go.refl E) (.bl _)
    · rename_i i j
      have : i = j := by simpa using hm
      subst this
      exact pe_imp pe_int fun σ H Q ⟨O, S, E, p⟩ => p _ H O (Go.refl E) (.int _)
    · rename_i u v
      have : u = v := by simpa using hm
      subst this
      exact pe_imp pe_str fun σ H Q ⟨O, S, E, p⟩ => p _ H O (Go.refl E) (.str _)
    · cases hm
  · cases hm
theorem const_plain {d : D} (hm : constB d e = true) : plainT e = true := by
  unfold constB at hm
  split at hm
  · rfl
  · cases hm
theorem rp_none {K : PySem.W.Frag} {G : Hp} {v : V} {d : D} (h : Rp K (fun _ => none) v d) : Rp K G v d := rp_sub (fun _ _ z => by cases z) _ _ h
theorem x_glob (x : XC pc N Ce lv cf C X sc W) {y z : Str} {d : D} {p : Pos} (hm : (decide (y = z) && glB sc z && okName z && (pc.gls.any fun q => decide (q.1 = z) && eqD q.2 d)) = true) : PE X (.Name y p) (tE Ce C W fun s => .ok d s) := by
  rw [Bool.and_eq_true, Bool.and_eq_true, Bool.and_eq_true, decide_eq_true_eq] at hm
  obtain ⟨⟨⟨rfl, h1⟩, h2⟩, hq⟩ := hm
  obtain ⟨⟨q1, q2⟩, h3, h4⟩ := List.any_eq_true.mp hq
  rw [Bool.and_eq_true, decide_eq_true_eq] at h4
  obtain ⟨h4, h5⟩ := h4
  have e2 := eqD_eq h5
  subst h4 e2
  obtain ⟨v, u, k1, k2, k3⟩ := x.pf.gl _ _ h3
  refine pe_imp (pe_glob (gl_of x.sc h1) k1 k2 (okName_of h2).1) fun σ H Q q => ?_
  obtain ⟨O, S, E, p⟩ := q
  refine p v H O (Go.refl E) ?_
  have k4 : Rp X.K (vis O H) v q2 := rp_none k3
  rw [x.K] at k4
  exact k4
/-- and, or, the conditional -/
theorem tT_if {t : Sg → R D} {σ : L2.St} {H : Hp} {Qt : Bool → Hp → Prop} {α β : Type} {Rl : (Addr → Prop) → Hp → β → α → Prop} {Q : β → Hp → Prop} {k : Bool → Sg → R α}
    (h : ∃ O S, EOk C O σ H S ∧ Post Ce C W Rl O σ H Q ((boolR (t S)).bind k)) (hq : ∀ b O S H1, EOk C O σ H1 S → Post Ce C W Rl O σ H1 Q (k b S) → Qt b H1) : tT Ce C W t σ H Qt := by
  obtain ⟨O, S, E, p⟩ := h
  exact ⟨O, S, E, p.bind fun b S1 v H1 O1 _ g1 r1 p1 => by cases r1; exact hq b O1 S1 H1 g1.ok p1⟩
theorem tE_bool {t : Sg → R D} {σ : L2.St} {H : Hp} {Qt : V → Hp → Prop} {α β : Type} {Rl : (Addr → Prop) → Hp → β → α → Prop} {Q : β → Hp → Prop} {k : Bool → Sg → R α}
    (h : ∃ O S, EOk C O σ H S ∧ Post Ce C W Rl O σ H Q ((boolR (t S)).bind k)) (hq : ∀ b O S H1, EOk C O σ H1 S → Post Ce C W Rl O σ H1 Q (k b S) → Qt (.bl b) H1) : tE Ce C W t σ H Qt := by
  obtain ⟨O, S, E, p⟩ := h
  have q : tT Ce C W t σ H (fun b H1 => Qt (.bl b) H1) := tT_if ⟨O, S, E, p⟩ hq
  obtain ⟨O2, S2, E2, p2⟩ := tT_of σ H _ q
  exact ⟨O2, S2, E2, p2.imp fun u H' z => by obtain ⟨b, e, z⟩ := z; subst e; exact z⟩
theorem x_and {rest : List Expr} (ha : PE X a (tE Ce C W f)) (hb : PE X (.BoolOp .And (b :: rest) pos) (tE Ce C W g)) :
    PE X (.BoolOp .And (a :: b :: rest) pos) (tE Ce C W fun s => (boolR (f s)).bind fun c s1 => if c then g s1 else .ok (.bool false) s1) :=
  pe_imp (pe_and ha hb) fun σ H Q q => tE_bool q fun c O S H1 E p => by
    refine ⟨c, rfl, ?_⟩
    cases c with
    | true => rw [if_pos rfl] at p ⊢; exact ⟨O, S, E, p⟩
    | false => rw [if_neg Bool.false_ne_true] at p ⊢; exact p _ H1 O (Go.refl E) (.bl _)
theorem x_or {rest : List Expr} (ha : PE X a (tE Ce C W f)) (hb : PE X (.BoolOp .Or (b :: rest) pos) (tE Ce C W g)) :
    PE X (.BoolOp .Or (a :: b :: rest) pos) (tE Ce C W fun s => (boolR (f s)).bind fun c s1 => if c then .ok (.bool true) s1 else g s1) :=
  pe_imp (pe_or ha hb) fun σ H Q q => tE_bool q fun c O S H1 E p => by
    refine ⟨c, rfl, ?_⟩
    cases c with
    | true => rw [if_pos rfl] at p ⊢; exact p _ H1 O (Go.refl E) (.bl _)
    | false => rw [if_neg Bool.false_ne_true] at p ⊢; exact ⟨O, S, E, p⟩
theorem boolR_ite {c : Bool} {r s : R D} : boolR (if c then r else s) = if c then boolR r else boolR s := by cases c <;> rfl
theorem boolR_bind {α : Type} {r : R α} {k : α → Sg → R D} : boolR (r.bind k) = r.bind fun x s => boolR (k x s) := by cases r <;> rfl
theorem x_andT {rest : List Expr} (ha : PT X a (tT Ce C W f)) (hb : PW X (.BoolOp .And (b :: rest) pos) (tT Ce C W g)) :
    PW X (.BoolOp .And (a :: b :: rest) pos) (tT Ce C W fun s => (boolR (f s)).bind fun c s1 => if c then g s1 else .ok (.bool false) s1) :=
  pw_imp (pw_and ha hb) fun σ H Q q => by
    obtain ⟨O, S, E, p⟩ := q
    rw [boolR_bind] at p
    refine tT_if ⟨O, S, E, p⟩ fun c O S H1 E p => ?_
    cases c with
    | true => rw [if_pos rfl] at p ⊢; exact ⟨O, S, E, p⟩
    | false => rw [if_neg Bool.false_ne_true] at p ⊢; exact p _ H1 O (Go.refl E) rfl
theorem x_orT {rest : List Expr} (ha : PT X a (tT Ce C W f)) (hb : PW X (.BoolOp .Or (b :: rest) pos) (tT Ce C W g)) :
    PW X (.BoolOp .Or (a :: b :: rest) pos) (tT Ce C W fun s => (boolR (f s)).bind fun c s1 => if c then .ok (.bool true) s1 else g s1) :=
  pw_imp (pw_or ha hb) fun σ H Q q => by
    obtain ⟨O, S, E, p⟩ := q
    rw [boolR_bind] at p
    refine tT_if ⟨O, S, E, p⟩ fun c O S H1 E p => ?_
    cases c with
    | true => rw [if_pos rfl] at p ⊢; exact p _ H1 O (Go.refl E) rfl
    | false => rw [if_neg Bool.false_ne_true] at p ⊢; exact ⟨O, S, E, p⟩
theorem x_ite (hc : PT X c (tT Ce C W h)) (ha : PE X a (tE Ce C W f)) (hb : PE X b (tE Ce C W g)) :
    PE X (.IfExp c a b pos) (tE Ce C W fun s => (boolR (h s)).bind fun t s1 => if t then f s1 else g s1) :=
  pe_imp (pe_ifExp hc ha hb) fun σ H Q q => tT_if q fun t O S H1 E p => by
    cases t with
    | true => rw [if_pos rfl] at p ⊢; exact ⟨O, S, E, p⟩
    | false => rw [if_neg Bool.false_ne_true] at p ⊢; exact ⟨O, S, E, p⟩
theorem x_iteT (hc : PT X c (tT Ce C W h)) (ha : PT X a (tT Ce C W f)) (hb : PT X b (tT Ce C W g)) :
    PT X (.IfExp c a b pos) (tT Ce C W fun s => (boolR (h s)).bind fun t s1 => if t then f s1 else g s1) := by
  refine ⟨fun pins s σ H Q I q => ?_⟩
  have q' : tT Ce C W h σ H (fun t H1 => if t = true then tT Ce C W f σ H1 Q else tT Ce C W g σ H1 Q) := by
    obtain ⟨O, S, E, p⟩ := q
    rw [boolR_bind] at p
    refine tT_if ⟨O, S, E, p⟩ fun t O S H1 E p => ?_
    cases t with
    | true => rw [if_pos rfl] at p ⊢; exact ⟨O, S, E, p⟩
    | false => rw [if_neg Bool.false_ne_true] at p ⊢; exact ⟨O, S, E, p⟩
  have e : isTrue (.IfExp c a b pos) X.env (eval (.IfExp c a b pos) X.env) = (do
    if ← isTrue c X.env (eval c X.env) then isTrue a X.env (eval a X.env) else isTrue b X.env (eval b X.env)) := by rfl
  rw [e]
  refine wpAny_bind (thn (hc.run pins s σ H _ I q') fun t s1 ⟨H1, I1, q1⟩ => ?_)
  cases t with
  | true => rw [if_pos rfl] at q1 ⊢; exact ha.run pins s1 σ H1 Q I1 q1
  | false => rw [if_neg Bool.false_ne_true] at q1 ⊢; exact hb.run pins s1 σ H1 Q I1 q1
theorem x_not (ha : PE X a (tE Ce C W f)) : PE X (.UnaryOp .Not a pos) (tE Ce C W fun s => (f s).bind fun d s1 => R.ofOpt (unD .not d) s1) :=
  pe_imp (pe_not ha) fun σ H Q q => by
    obtain ⟨O, S, E, p⟩ := q
    refine ⟨O, S, E, p.bind fun d S1 v H1 O1 _ g1 r1 p1 => ?_⟩
    cases r1 with
    | bl t => exact ⟨t, rfl, p1 _ H1 O1 (Go.refl g1.ok) (.bl _)⟩
    | _ => exact p1.elim
theorem x_notT (ha : PT X a (tT Ce C W f)) : PT X (.UnaryOp .Not a pos) (tT Ce C W fun s => (f s).bind fun d s1 => R.ofOpt (unD .not d) s1) :=
  pt_imp (pt_not ha) fun σ H Q q => by
    obtain ⟨O, S, E, p⟩ := q
    refine ⟨O, S, E, ?_⟩
    have e : boolR ((f S).bind fun d s1 => R.ofOpt (unD .not d) s1) = (boolR (f S)).bind fun b s1 => .ok (!b) s1 := by
      cases f S with
      | ok d s => cases d <;> rfl
      | er _ _ _ => rfl
      | no => rfl
    rw [e] at p
    exact p.bind fun b S1 v H1 O1 _ g1 r1 p1 => by cases r1; exact p1 _ H1 O1 (Go.refl g1.ok) rfl
/-- chains of two comparisons -/
theorem op_of {X : Cx} {o : BinO} {p : CmpOp} (hu : X.A.units + 64 < cLine) (h : opB o p = true) : ∃ r, OpR X (compareOp p) r ∧ OpD X r (binD o) := by
  unfold opB at h
  split at h
  · exact ⟨_, op_eqD hu, od_eq⟩
  · exact ⟨_, op_neD hu, od_ne⟩
  · exact ⟨_, op_lt, od_lt⟩
  · exact ⟨_, op_le, od_le⟩
  · exact ⟨_, op_gt, od_gt⟩
  · exact ⟨_, op_ge, od_ge⟩
  · cases h
theorem tE_chain {o o' : BinO} {r r' : R2} (hK : X.K = C.K) (ho : OpD X r (binD o)) (ho' : OpD X r' (binD o')) (σ : L2.St) (H : Hp) (Q : VK)
    (q : tE Ce C W (fun s => (f s).bind fun d s1 => (g s1).bind fun e s2 => (boolR (R.ofOpt (binD o d e) s2)).bind fun t s3 => if t then (h s3).bind fun k s4 => R.ofOpt (binD o' e k) s4 else .ok (.bool false) s3) σ H Q) :
    tChain r r' (tE Ce C W f) (tE Ce C W g) (tE Ce C W h) σ H Q := by
  obtain ⟨O, S, E, p⟩ := q
  refine ⟨O, S, E, p.bind fun d S1 v H1 O1 e1 g1 r1 p1 => ⟨O1, S1, g1.ok, p1.bind fun d2 S2 v2 H2 O2 e2 g2 r2 p2 => ?_⟩⟩
  cases hz : binD o d d2 with
  | none => rw [hz] at p2; exact p2.elim
  | some z =>
    rw [hz] at p2
    refine ho d d2 z O2 H2 v v2 _ g2.ok.trk hz ?_ ?_ fun v' H' s' q' => ?_
    · rw [hK]; exact rp_sub g2.vis _ _ r1
    · rw [hK]; exact r2
    · rw [hK] at q'
      have g3 : Go C O2 O2 σ H2 H' S2 := (Go.refl g2.ok).grow s'
      cases q' with
      | bl t =>
        refine ⟨t, rfl, ?_⟩
        have p3 := Post.later p2 g3
        cases t with
        | false => exact p3 _ H' O2 (Go.refl g3.ok) (.bl _)
        | true =>
          rw [if_pos rfl]
          refine ⟨O2, S2, g3.ok, Post.bind (k := fun k s4 => R.ofOpt (binD o' d2 k) s4) p3 fun d3 S3 v3 H3 O3 e3 g4 r3 p4 => ?_⟩
          cases hz2 : binD o' d2 d3 with
          | none => rw [hz2] at p4; exact p4.elim
          | some z2 =>
            rw [hz2] at p4
            refine ho' d2 d3 z2 O3 H3 v2 v3 Q g4.ok.trk hz2 ?_ ?_ fun v5 H5 s5 q5 => p4 v5 H5 O3 ((Go.refl g4.ok).grow s5) ?_
            · rw [hK]; exact rp_sub (g3.vis.trans g4.vis) _ _ r2
            · rw [hK]; exact r3
            · rw [hK] at q5; exact q5
      | _ => exact p2.elim
end
end Pv

/-! Pv11: lists of expressions, calls, lists of our own. -/
namespace Pv
open PySem L2
def tA (Ce : Ec) (C : Cf) (W : WX) (f : Sg → R Sl) : TE := fun σ H Q => ∃ O S, EOk C O σ H S ∧ Post Ce C W (Ra C) O σ H Q (f S)
theorem pe_either {X : Cx} {e : Expr} {t t' : TE} (h : PE X e t) (h' : PE X e t') : PE X e (fun σ H Q => t σ H Q ∨ t' σ H Q) :=
  ⟨fun pins s σ H Q I q => q.elim (h.run pins s σ H Q I) (h'.run pins s σ H Q I)⟩
theorem ArgOk.sub {K : PySem.W.Frag} {W : Option MA} {O O' : Addr → Prop} {H H' : Hp} {v : V} {x : Sl} (h : ArgOk K W O H v x) (s : Sub (vis O H) (vis O' H')) : ArgOk K W O' H' v x := by
  cases x with
  | dat d => exact rp_sub s _ _ h
  | mm => exact h
  | scr ns => obtain ⟨a, e, p⟩ := h; exact ⟨a, e, sqL_sub s p⟩
  | _ => exact h
theorem ArgsOk.app {K : PySem.W.Frag} {W : Option MA} {O : Addr → Prop} {H : Hp} {vs ws : List V} {xs ys : List Sl} (h : ArgsOk K W O H vs xs) (h' : ArgsOk K W O H ws ys) : ArgsOk K W O H (vs ++ ws) (xs ++ ys) := by
  induction h with
  | nil => exact h'
  | cons a _ ih => exact .cons a ih
theorem ArgsOk.sub {K : PySem.W.Frag} {W : Option MA} {O O' : Addr → Prop} {H H' : Hp} {vs : List V} {xs : List Sl} (h : ArgsOk K W O H vs xs) (s : Sub (vis O H) (vis O' H')) : ArgsOk K W O' H' vs xs := by
  induction h with
  | nil => exact .nil
  | cons a _ ih => exact .cons (a.sub s) ih
theorem ArgsOk.len {K : PySem.W.Frag} {W : Option MA} {O : Addr → Prop} {H : Hp} {vs : List V} {xs : List Sl} (h : ArgsOk K W O H vs xs) : vs.length = xs.length := by
  induction h with
  | nil => rfl
  | cons a _ ih => simp [ih]
theorem ArgsOk.nons {K : PySem.W.Frag} {W : Option MA} {O : Addr → Prop} {H : Hp} : ∀ n : Nat, ArgsOk K W O H (List.replicate n .non) (List.replicate n (.dat .none))
  | 0 => .nil
  | n + 1 => .cons Rp.non (ArgsOk.nons n)
theorem ArgsOk.getD {K : PySem.W.Frag} {W : Option MA} {O : Addr → Prop} {H : Hp} {vs : List V} {xs : List Sl} (h : ArgsOk K W O H vs xs) : ∀ j : Nat, ArgOk K W O H (vs.getD j .non) (xs.getD j (.dat .none)) := by
  induction h with
  | nil => intro j; exact Rp.non
  | cons a _ ih =>
    intro j
    cases j with
    | zero => exact a
    | succ j => exact ih j
theorem ArgsOk.perm {K : PySem.W.Frag} {W : Option MA} {O : Addr → Prop} {H : Hp} {vs : List V} {xs : List Sl} (h : ArgsOk K W O H vs xs) : ∀ p : List Nat, ArgsOk K W O H (p.map fun j => vs.getD j .non) (p.map fun j => xs.getD j (.dat .none))
  | [] => .nil
  | j :: p => .cons (h.getD j) (h.perm p)
theorem vals_nons : ∀ n : Nat, Vals (List.replicate n .non) (List.replicate n Value.none)
  | 0 => .nil
  | n + 1 => .cons rfl (vals_nons n)
theorem vals_getD {vs : List V} {us : List Value} (h : Vals vs us) : ∀ j : Nat, RelV (vs.getD j .non) (us.getD j .none) := by
  induction h with
  | nil => intro j; exact rfl
  | cons a _ ih =>
    intro j
    cases j with
    | zero => exact a
    | succ j => exact ih j
theorem vals_perm {vs : List V} {us : List Value} (h : Vals vs us) : ∀ p : List Nat, Vals (p.map fun j => vs.getD j .non) (p.map fun j => us.getD j .none)
  | [] => .nil
  | j :: p => .cons (vals_getD h j) (vals_perm h p)
section
variable {C : Cf} {O : Addr → Prop} {σ : L2.St} {H H' : Hp} {S : Sg}
/-- behind a call -/
theorem EOk.aft (E : EOk C O σ H S) {g : G} (a : Aft C.tb C.W H H' g) : EOk C O σ H' { S with g := g } ∧ Ext O H H' := by
  have om : ∀ b, Mw C.W b → O b := fun b h => E.o0 b (E.m0 b h)
  have ex : Ext O H H' := ⟨fun b o n t h => a.keep b o (fun z => n (om b z)) t h⟩
  have sv : Sub (vis O H) (vis O H') := ex.vis fun _ h => h
  refine ⟨⟨fun i x h => (E.sl i x h).sub sv fun p e q => ?_, E.dis, fun b h => ?_, E.o0, E.m0, fun b o h1 h2 h3 => a.keep b o h2 h3 (E.base b o h1 h2 h3), a.tabs, a.dok, E.len⟩, ex⟩
  · obtain ⟨p', vs, q', hb, o', n0, _⟩ := (E.sl i _ h).at e
    rw [q] at q'
    cases q'
    refine ⟨o', ?_⟩
    rw [hb]
    exact a.keep p _ (fun z => n0 (E.m0 p z)) (nt_lst _) hb
  · by_cases hw : Mw C.W b
    · obtain ⟨m, e, hb⟩ := hw
      obtain ⟨d1, d2, d3, _⟩ := a.dok m e
      rcases hb with z | z | z
      · exact ⟨_, .dK _, by rw [z]; exact d1⟩
      · exact ⟨_, .lst _, by rw [z]; exact d2⟩
      · exact ⟨_, .lst _, by rw [z]; exact d3⟩
    · obtain ⟨o, n, e⟩ := E.trkP b h
      exact ⟨o, n, a.keep b o hw n.nt e⟩
end
section
variable {pc : Pc} {N : List Str} {Ce : Ec} {lv : Nat} {cf : Nat → List Sl → G → CR} {hl : Nat → Sg → R D} {C : Cf} {X : Cx} {sc : Scope} {W : WX} {a b c e : Expr} {es : List Expr} {f g h : Sg → R D} {pos p : Pos}
theorem x_nil : PA X [] (tEs Ce C W fun s => .ok [] s) := pa_imp pa_nil fun σ H Q ⟨O, S, E, p⟩ => p [] H O (Go.refl E) .nil
theorem x_cons {gs : Sg → R (List D)} (ha : PE X a (tE Ce C W f)) (hr : PA X es (tEs Ce C W gs)) (hs : notStar a = true) : PA X (a :: es) (tEs Ce C W fun s => (f s).bind fun d s1 => (gs s1).bind fun ds s2 => .ok (d :: ds) s2) :=
  pa_imp (pa_cons ha hr (star_cons hs)) fun σ H Q ⟨O, S, E, p⟩ => ⟨O, S, E, p.bind fun d S1 v H1 O1 _ g1 r1 p1 => ⟨O1, S1, g1.ok, p1.bind fun ds S2 vs H2 O2 _ g2 r2 p2 =>
    p2 (v :: vs) H2 O2 (Go.refl g2.ok) (.cons (rp_sub g2.vis _ _ r1) r2)⟩⟩
theorem x_anil : PA X [] (tAs Ce C W fun s => .ok [] s) := pa_imp pa_nil fun σ H Q ⟨O, S, E, p⟩ => p [] H O (Go.refl E) .nil
theorem x_acons {fa : Sg → R Sl} {gs : Sg → R (List Sl)} (ha : PE X a (tA Ce C W fa)) (hr : PA X es (tAs Ce C W gs)) (hs : notStar a = true) : PA X (a :: es) (tAs Ce C W fun s => (fa s).bind fun d s1 => (gs s1).bind fun ds s2 => .ok (d :: ds) s2) :=
  pa_imp (pa_cons ha hr (star_cons hs)) fun σ H Q ⟨O, S, E, p⟩ => ⟨O, S, E, p.bind fun d S1 v H1 O1 _ g1 r1 p1 => ⟨O1, S1, g1.ok, p1.bind fun ds S2 vs H2 O2 _ g2 r2 p2 =>
    p2 (v :: vs) H2 O2 (Go.refl g2.ok) (.cons (ArgOk.sub r1 g2.vis) r2)⟩⟩
theorem x_knil : PK X [] (tAs Ce C W fun s => .ok [] s) := ⟨fun ps pins s σ H Q I ⟨O, S, E, p⟩ => pk_nil.run ps pins s σ H Q I (p [] H O (Go.refl E) .nil)⟩
theorem x_kcons {nm : Option Str} {kpos : Pos} {kws : List Keyword} {fa : Sg → R Sl} {gs : Sg → R (List Sl)} (ha : PE X a (tA Ce C W fa)) (hr : PK X kws (tAs Ce C W gs)) : PK X (⟨nm, a, kpos⟩ :: kws) (tAs Ce C W fun s => (fa s).bind fun d s1 => (gs s1).bind fun ds s2 => .ok (d :: ds) s2) :=
  ⟨fun ps pins s σ H Q I ⟨O, S, E, p⟩ => (pk_cons ha hr).run ps pins s σ H Q I ⟨O, S, E, p.bind fun d S1 v H1 O1 _ g1 r1 p1 => ⟨O1, S1, g1.ok, p1.bind fun ds S2 vs H2 O2 _ g2 r2 p2 =>
    p2 (v :: vs) H2 O2 (Go.refl g2.ok) (.cons (ArgOk.sub r1 g2.vis) r2)⟩⟩⟩
/-- an argument of any form -/
theorem x_arg {i : Ex} (x : XC pc N Ce lv cf C X sc W) (hv : ∀ j, i = .var j → nameB N sc j e = true) (ha : PE X e (tE Ce C W (evalE cf hl i))) : PE X e (tA Ce C W fun s => argOf i s (evalE cf hl i s)) := by
  have plain : ∀ (σ : L2.St) (H : Hp) (Q : VK) (O : Addr → Prop) (S : Sg), isMM i S = none → EOk C O σ H S → Post Ce C W (Ra C) O σ H Q (argOf i S (evalE cf hl i S)) → tE Ce C W (evalE cf hl i) σ H Q := by
    intro σ H Q O S hm E p
    refine ⟨O, S, E, ?_⟩
    unfold argOf at p
    rw [hm] at p
    exact p.bind fun d S1 v H1 O1 _ g1 r1 p1 => p1 v H1 O1 (Go.refl g1.ok) r1
  by_cases hi : ∃ j, i = .var j
  · obtain ⟨j, rfl⟩ := hi
    refine pe_imp (pe_either ha (x_slot x (hv j rfl))) fun σ H Q q => ?_
    obtain ⟨O, S, E, p⟩ := q
    cases hm : isMM (.var j) S with
    | none => exact .inl (plain σ H Q O S hm E p)
    | some sl =>
      refine .inr ?_
      change Post Ce C W (Ra C) O σ H Q (match isMM (.var j) S with | some x => _ | none => _) at p
      rw [hm] at p
      dsimp only at p
      unfold isMM at hm
      simp only at hm
      split at hm
      · rename_i hs
        cases hm
        obtain ⟨m, e1, e2⟩ := E.sl _ _ hs
        exact ⟨_, e2, p (.ref m.A) H O (Go.refl E) ⟨m, e1, rfl⟩⟩
      · rename_i ns hs
        cases hm
        obtain ⟨a, e1, e2⟩ := E.sl _ _ hs
        exact ⟨_, e1, p (.ref a) H O (Go.refl E) ⟨a, rfl, e2⟩⟩
      · cases hm
  · refine pe_imp ha fun σ H Q q => ?_
    obtain ⟨O, S, E, p⟩ := q
    refine plain σ H Q O S ?_ E p
    unfold isMM
    cases i <;> first | rfl | exact absurd ⟨_, rfl⟩ hi
/-- tuples, lists -/
theorem x_tup {x1 : Bool} {gs : Sg → R (List D)} {kk} (h : PA X es (tEs Ce C W gs)) (hl : ∀ S ds S', gs S = .ok ds S' → ds.length ≤ 1000) : PE X (.Tuple es kk pos) (tE Ce C W fun s => (gs s).bind fun ds s1 => .ok (.tuple ds) s1) :=
  pe_imp (pe_tup h) fun σ H Q ⟨O, S, E, p⟩ => ⟨O, S, E, p.bind fun ds S1 vs H1 O1 e1 g1 r1 p1 => by
    have l := r1.len
    have l2 := hl _ _ _ e1
    refine ⟨Nat.le_trans (by omega) line_big, fun q n => p1 _ _ O1 ((Go.refl g1.ok).grow (Sub.upd n)) (.tup (.inl (.inl (vis_new g1.ok.trk n (nt_tup _)))) (rpAll_sub ((Sub.upd n).vis fun b z => .inl z) _ _ r1))⟩⟩
theorem x_lst {gs : Sg → R (List D)} (h : PA X es (tEs Ce C W gs)) (hl : ∀ S ds S', gs S = .ok ds S' → ds.length ≤ 1000) : PE X (.List es pos) (tE Ce C W fun s => (gs s).bind fun ds s1 => .ok (.list ds) s1) :=
  pe_imp (pe_lst h) fun σ H Q ⟨O, S, E, p⟩ => ⟨O, S, E, p.bind fun ds S1 vs H1 O1 e1 g1 r1 p1 => by
    have l := r1.len
    have l2 := hl _ _ _ e1
    refine ⟨Nat.le_trans (by omega) line_big, fun q n => p1 _ _ O1 ((Go.refl g1.ok).grow (Sub.upd n)) (.lst (vis_new g1.ok.trk n (nt_lst _)) (rpAll_sub ((Sub.upd n).vis fun b z => .inl z) _ _ r1))⟩⟩
/-- slices -/
theorem x_part {te : TE} : PO X none tNoPart := po_none
def evO (f : Option (Sg → R D)) (s : Sg) : R (Option Int) := match f with
  | none => .ok none s
  | some f => (f s).bind fun d s1 => match intOf d with
    | some i => .ok (some i) s1
    | none => .no
def tO (Ce : Ec) (C : Cf) (W : WX) (f : Sg → R (Option Int)) : TO := fun σ H Q => ∃ O S, EOk C O σ H S ∧ Post Ce C W (fun _ _ a b => a = b) O σ H Q (f S)
theorem x_onone : PO X none (tO Ce C W fun s => .ok none s) := ⟨fun pins s σ H Q I ⟨O, S, E, p⟩ => po_none.run pins s σ H Q I (p none H O (Go.refl E) rfl)⟩
theorem x_osome (ha : PE X a (tE Ce C W f)) : PO X (some a) (tO Ce C W fun s => (f s).bind fun d s1 => match intOf d with
    | some i => .ok (some i) s1
    | none => .no) := ⟨fun pins s σ H Q I ⟨O, S, E, p⟩ => (po_some ha).run pins s σ H Q I ⟨O, S, E, p.bind fun d S1 v H1 O1 _ g1 r1 p1 => by
      cases r1 with
      | int i => exact ⟨i, rfl, p1 (some i) H1 O1 (Go.refl g1.ok) rfl⟩
      | _ => exact p1.elim⟩⟩
theorem x_slice {lo hi : Option Expr} {p2 : Pos} {fl fh : Sg → R (Option Int)} (hK : X.K = C.K) (ha : PE X a (tE Ce C W f)) (hlo : PO X lo (tO Ce C W fl)) (hhi : PO X hi (tO Ce C W fh)) :
    PE X (.Subscript a (.Slice lo hi none p2) pos) (tE Ce C W fun s => (f s).bind fun d s1 => (fl s1).bind fun l s2 => (fh s2).bind fun h s3 => R.ofOpt (sliceD d l h) s3) :=
  pe_imp (pe_slice or_sl ha hlo hhi) fun σ H Q ⟨O, S, E, p⟩ => ⟨O, S, E, p.bind fun d S1 v H1 O1 _ g1 r1 p1 => ⟨O1, S1, g1.ok, p1.bind fun l S2 l' H2 O2 _ g2 r2 p2 => ⟨O2, S2, g2.ok, p2.bind fun u S3 u' H3 O3 _ g3 r3 p3 => by
    subst r2 r3
    cases hz : sliceD d l' u' with
    | none => rw [hz] at p3; exact p3.elim
    | some z =>
      rw [hz] at p3
      refine sd_sl d l' u' z O3 H3 v Q g3.ok.trk hz ?_ fun v' H' s' q' => p3 v' H' O3 ((Go.refl g3.ok).grow s') ?_
      · rw [hK]; exact rp_sub (g2.vis.trans g3.vis) _ _ r1
      · rw [hK] at q'; exact q'⟩⟩⟩
/-- a call -/
theorem cr_spec {F : List Sl → G → CR} {O : Addr → Prop} {σ : L2.St} {H : Hp} {S : Sg} {Q : VK} {vs : List V} {xs : List Sl} (hK : X.K = C.K) (hT : Ce.tb = C.tb) (E : EOk C O σ H S) (r : ArgsOk C.K C.W O H vs xs) (p : Post Ce C W (Rv C) O σ H Q ((F xs S.g).to S)) : spF X.K Ce F vs H Q (WE W σ) := by
  rw [hK]
  refine ⟨C.W, O, xs, S.g, r, E.trkP, fun b h => E.o0 b (E.m0 b h), ?_, E.dok, ?_⟩
  · rw [hT]
    exact E.tabs
  cases hq : F xs S.g with
  | ok d g' =>
    rw [hq] at p
    exact fun v H' a rv => p v H' O (let z := E.aft (hT ▸ a); ⟨fun _ h => h, z.2, z.1⟩) rv
  | er c d g' =>
    rw [hq] at p
    exact fun dd v H' a h1 h2 => p dd v H' O (let z := E.aft (hT ▸ a); ⟨fun _ h => h, z.2, z.1⟩) h1 h2
  | no => rw [hq] at p; exact p.elim
theorem x_call (x : XC pc N Ce lv cf C X sc W) {fi n k nd : Nat} {y : Str} {as : Sg → R (List Sl)} (hf : pc.fs[fi]? = some (y, n, k)) (hg : glB sc y = true) (ho : okName y = true) (hd : nd ≤ k) (hlen : ∀ S xs S', as S = .ok xs S' → xs.length + nd = n)
    (ha : PA X (e :: es) (tAs Ce C W as)) (hs : (e :: es).all notStar = true) : PE X (.Call (.Name y p) (e :: es) [] pos) (tE Ce C W fun s => (as s).bind fun xs s1 => (cf fi (xs ++ List.replicate nd (.dat .none)) s1.g).to s1) := by
  obtain ⟨fa, fd, ps, h1, h2, h3, h4, h5, _⟩ := x.pf.fn _ _ _ _ hf
  rw [List.all_cons, Bool.and_eq_true] at hs
  refine pe_imp (pe_callSD (E := WE W) h4 x.room (gl_of x.sc hg) h1 h2 (h5 nd hd) (vals_nons nd) (passAt x.takes) ha (okName_of ho).1 (star_cons hs.1) (star_plain hs.2)) fun σ H Q q => ?_
  obtain ⟨O, S, E, p⟩ := q
  refine ⟨O, S, E, p.bind fun xs S1 vs H1 O1 e1 g1 r1 p1 => cr_spec x.K x.tb g1.ok (r1.app (ArgsOk.nons nd)) ?_⟩
  show Post Ce C W (Rv C) O1 σ H1 Q ((if _ = n then _ else CR.no).to S1)
  rw [if_pos (by rw [List.length_append, List.length_replicate]; exact hlen _ _ _ e1)]
  exact p1
theorem kw_all : ∀ (kws : List Keyword) (env : Env) (ps : Pos), kws.all (fun kw => kw.arg.isSome) = true → (backToKw ps (keywordEach kws env)).all (·.1.isSome) = true ∧ (backToKw ps (keywordEach kws env)).filterMap (·.1) = kws.filterMap (·.arg) ∧ (backToKw ps (keywordEach kws env)).any (·.1.isNone) = false
  | [], _, _, _ => ⟨rfl, rfl, rfl⟩
  | ⟨a, v, kp⟩ :: kws, env, ps, h => by
    rw [List.all_cons, Bool.and_eq_true] at h
    obtain ⟨i1, i2, i3⟩ := kw_all kws env ps h.2
    cases a with
    | none => cases h.1
    | some a =>
      refine ⟨?_, ?_, ?_⟩
      · show (true && (backToKw ps (keywordEach kws env)).all (·.1.isSome)) = true
        rw [i1]; rfl
      · show a :: (backToKw ps (keywordEach kws env)).filterMap (·.1) = a :: kws.filterMap (·.arg)
        rw [i2]
      · show (false || (backToKw ps (keywordEach kws env)).any (·.1.isNone)) = false
        rw [i3]; rfl
theorem kw_len : ∀ (kws : List Keyword), kws.all (fun kw => kw.arg.isSome) = true → (kws.filterMap (·.arg)).length = kws.length
  | [], _ => rfl
  | ⟨a, v, kp⟩ :: kws, h => by
    rw [List.all_cons, Bool.and_eq_true] at h
    cases a with
    | none => cases h.1
    | some a =>
      show ((kws.filterMap (·.arg)).length + 1) = _
      rw [kw_len kws h.2]; rfl
theorem x_callk (x : XC pc N Ce lv cf C X sc W) {fi n k : Nat} {y : Str} {as : List Expr} {kws : List Keyword} {perm : List Nat} {f1 f2 : Sg → R (List Sl)} (hf : pc.fs[fi]? = some (y, n, k)) (hg : glB sc y = true) (ho : okName y = true) (hkw : kws.all (fun kw => kw.arg.isSome) = true)
    (hkb : (fi, as.length, kws.filterMap (·.arg), perm) ∈ pc.kbs) (hp : perm.length = n) (l0 : as = [] → f1 = fun s => .ok [] s) (l1 : ∀ S xs S', f1 S = .ok xs S' → xs.length = as.length) (l2 : ∀ S xs S', f2 S = .ok xs S' → xs.length = kws.length)
    (ha : PA X as (tAs Ce C W f1)) (hk : PK X kws (tAs Ce C W f2)) (hs : as.all notStar = true) :
    PE X (.Call (.Name y p) as kws pos) (tE Ce C W fun s => (f1 s).bind fun xs s1 => (f2 s1).bind fun ys s2 => (cf fi (perm.map fun j => (xs ++ ys).getD j (.dat .none)) s2.g).to s2) := by
  obtain ⟨fa, fd, ps, h1, h2, h3, h4, _, h6⟩ := x.pf.fn _ _ _ _ hf
  refine ⟨fun pins s σ H Q I q => ?_⟩
  obtain ⟨O, S, E, p⟩ := q
  obtain ⟨k1, k2, k3⟩ := kw_all kws X.env pos hkw
  refine wpAny_Call_Name_kw (ld_glob I (gl_of x.sc hg) h1 ?_ (okName_of ho).1)
  have fin : ∀ {us ws : List Value} {s2 : Shared} {H2 : Hp} {zs : List V}, us.length = as.length → ws.length = kws.length → Inv X pins σ H2 s2 → Vals zs (us ++ ws) → spF X.K Ce (fun xs g => if xs.length = n then cf fi xs g else .no) (perm.map fun j => zs.getD j .non) H2 Q (WE W σ) →
      wpAny (model X.prog X.w) X.A (call (.ref fa) us ((kws.filterMap (·.arg)).zip ws)) (EP X pins σ Q) X.xe s2 := by
    intro us ws s2 H2 zs e1 e2 I2 r sp
    refine wpAny_call (codeAny_mono (h4.run X.A X.stack s2 H2 ⟨us, (kws.filterMap (·.arg)).zip ws⟩ _ _ Q (WE W σ) x.room I2.env0 (h6 _ _ _ hkb s2 us ws I2.kIn e1 (by rw [e2, kw_len kws hkw])) (vals_perm r perm) sp) fun rr s' hq => ?_)
    cases rr with
    | error e => exact passAt x.takes σ pins H2 s2 e s' I2 hq
    | ok fl =>
      cases fl with
      | ret u => exact I2.after hq
      | next => exact False.elim hq
      | brk => exact False.elim hq
      | cont => exact False.elim hq
  have go2 : ∀ {us : List Value} {s1 : Shared} {H1 : Hp} {vs : List V}, us.length = as.length → Inv X pins σ H1 s1 → Vals vs us → tAs Ce C W f2 σ H1 (fun zs H2 => zs.length = kws.length ∧ spF X.K Ce (fun xs g => if xs.length = n then cf fi xs g else .no) (perm.map fun j => (vs ++ zs).getD j .non) H2 Q (WE W σ)) →
      wpAny (model X.prog X.w) X.A (evalAll ((backToKw pos (keywordEach kws X.env)).map (·.2))) (fun ks s₂ => X.K.In s₂.heap ∧ wpAny (model X.prog X.w) X.A (call (.ref fa) ([] ++ us) (((backToKw pos (keywordEach kws X.env)).filterMap (·.1)).zip ks)) (EP X pins σ Q) X.xe s₂) X.xe s1 := by
    intro us s1 H1 vs e1 I1 r q
    refine thn (hk.run pos pins s1 σ H1 _ I1 q) fun ws s2 ⟨zs, H2, I2, rz, lz, q2⟩ => ⟨I2.kIn, ?_⟩
    rw [k2]
    exact fin e1 (by rw [← rz.length]; exact lz) I2 (r.append rz) q2
  have go3 : ∀ {O1 : Addr → Prop} {S1 : Sg} {H1 : Hp} {xs : List Sl} {vs : List V}, EOk C O1 σ H1 S1 → ArgsOk C.K C.W O1 H1 vs xs → Post Ce C W (Rv C) O1 σ H1 Q ((f2 S1).bind fun ys s2 => (cf fi (perm.map fun j => (xs ++ ys).getD j (.dat .none)) s2.g).to s2) →
      tAs Ce C W f2 σ H1 (fun zs H2 => zs.length = kws.length ∧ spF X.K Ce (fun xs g => if xs.length = n then cf fi xs g else .no) (perm.map fun j => (vs ++ zs).getD j .non) H2 Q (WE W σ)) := by
    intro O1 S1 H1 xs vs E1 r1 p1
    refine ⟨O1, S1, E1, p1.bind fun ys S2 zs H2 O2 e2 g2 r2 p2 => ⟨by rw [r2.len]; exact l2 _ _ _ e2, cr_spec x.K x.tb g2.ok (((r1.sub g2.vis).app r2).perm perm) ?_⟩⟩
    show Post Ce C W (Rv C) O2 σ H2 Q ((if _ = n then _ else CR.no).to S2)
    rw [if_pos (by rw [List.length_map]; exact hp)]
    exact p2
  cases as with
  | nil =>
    refine PySem.W.callWith_KW0 (h₀ := X.base) I.ok.mod.kin h2 k1 ?_ (by rw [k3]; rfl)
    have e0 := l0 rfl
    subst e0
    exact go2 (us := []) (vs := []) rfl I .nil (go3 E .nil p)
  | cons e es =>
    rw [List.all_cons, Bool.and_eq_true] at hs
    refine PySem.W.callWith_KW (h₀ := X.base) I.ok.mod.kin h2 k1 (thn (ha.run pos pins s σ H (fun vs H1 => (vs.length = (e :: es).length ∧ tAs Ce C W f2 σ H1 (fun zs H2 => zs.length = kws.length ∧ spF X.K Ce (fun xs g => if xs.length = n then cf fi xs g else .no) (perm.map fun j => (vs ++ zs).getD j .non) H2 Q (WE W σ)))) I
      ⟨O, S, E, p.bind fun xs S1 vs H1 O1 e1 g1 r1 p1 => ⟨by rw [r1.len]; exact l1 _ _ _ e1, go3 g1.ok r1 p1⟩⟩) fun us s1 ⟨vs, H1, I1, r, ql, q⟩ => ?_) ?_ (star_cons hs.1)
    · exact go2 (by rw [← r.length]; exact ql) I1 r q
    · rw [star_cons hs.1, k3]
      show ((false || (backTo pos (starEach es X.env)).any (·.1)) || false) = false
      rw [star_plain hs.2]; rfl
end
end Pv

/-! Pv12: lists of our own read; what is walked. -/
namespace Pv
open PySem PySem.Spec PyProof.Rows L2
/-! ### walks of either kind -/
def iSeq (K : PySem.W.Frag) (tl : TE) : TI := fun σ H R => tl σ H fun x H1 => ∃ a, x = .ref a ∧ (((∃ xs, SqL K H1 a xs) ∧ R (Itl K a) H1) ∨ ((∃ xs, SqT K H1 a xs) ∧ R (Itt K a) H1))
theorem pi_seq {X : Cx} {tg l : Expr} {tl : TE} (hl : PE X l tl) : PI X tg l (iSeq X.K tl) := by
  refine ⟨fun pins s σ H R I h => ?_⟩
  refine thn (hl.run pins s σ H _ I h) fun v s1 ⟨x, H1, I1, r1, q1⟩ => ?_
  obtain ⟨a, e, q1⟩ := q1
  subst e
  cases r1
  have fin : ∀ b ∈ [s1.heap.objs.size], FpOk X pins H1 b := fun b hb => by
    have e : b = s1.heap.objs.size := by simpa using hb
    subst e
    exact I1.fpOk (Nat.le_refl _) (I1.hok.fresh (Nat.le_refl _))
  cases q1 with
  | inl q1 =>
    obtain ⟨⟨xs, hq⟩, q⟩ := q1
    obtain ⟨its, rv, p, hz⟩ := I1.list hq
    refine wpAny_pyIter_list p.isList ?_
    exact ⟨s1.heap.objs.size, [s1.heap.objs.size], _, _, H1, rfl, I1.kept (t' := s1.toks) fun b o e => Heap.get?_push_of_some _ e, turn_list a _, ⟨_, Heap.get?_push_size _ rfl, rfl, rfl⟩, fin, q⟩
  | inr q1 =>
    obtain ⟨⟨xs, hq⟩, q⟩ := q1
    obtain ⟨its, rv, p, hz⟩ := I1.tuple hq
    refine wpAny_pyIter_tuple (show s1.heap.IsTuple a its.toArray from p) ?_
    exact ⟨s1.heap.objs.size, [s1.heap.objs.size], _, _, H1, rfl, I1.kept (t' := s1.toks) fun b o e => Heap.get?_push_of_some _ e, turn_tuple a _, ⟨_, Heap.get?_push_size _ rfl, rfl, rfl⟩, fin, q⟩
def iEnumB (K : PySem.W.Frag) (ta : TA) : TI := fun σ H R => ta σ H fun vs H1 => ∃ a xs, vs = [.ref a] ∧ ((SqL K H1 a xs ∧ R (Ite K a) H1) ∨ (SqT K H1 a xs ∧ R (IteT K a) H1))
theorem pi_enumB {X : Cx} {e : Expr} {ta : TA} {p pos tpos : Pos} {elts : List Expr} {kk : Nat} (hg : Gl X "enumerate") (hm : X.mg "enumerate" = none) (ha : PA X [e] ta) (hs : starEach [e] X.env = [(false, eval e X.env)]) :
    PI X (.Tuple elts kk tpos) (.Call (.Name "enumerate" p) [e] [] pos) (iEnumB X.K ta) := by
  refine ⟨fun pins s σ H R I h => ?_⟩
  refine Call_ (ld_blt I hg hm boot_enumerate (PyProof.Rows.callWith_type1 (thn (ha.run pos pins s σ H _ I h) fun us s1 ⟨vs, H1, I1, r1, q1⟩ => ?_) hs rfl))
  obtain ⟨a, xs, ex, q1⟩ := q1
  subst ex
  cases r1 with
  | cons r rr =>
    cases rr
    cases r
    have fin : ∀ b ∈ [s1.heap.objs.size + 1, s1.heap.objs.size], FpOk X pins H1 b := fun b hb => by
      have z : b = s1.heap.objs.size + 1 ∨ b = s1.heap.objs.size := by simpa using hb
      have hle : s1.heap.objs.size ≤ b := by
        cases z with
        | inl z => rw [z]; exact Nat.le_add_right _ _
        | inr z => rw [z]; exact Nat.le_refl _
      exact I1.fpOk hle (I1.hok.fresh hle)
    cases q1 with
    | inl q1 =>
      obtain ⟨hq, q⟩ := q1
      obtain ⟨its, rv, p', hz⟩ := I1.list hq
      refine call_enumerate_list p'.isList fun h' he hit hsz hk => wpAny_pyIter_enum he ?_
      have I2 : L2.Inv X pins σ H1 { s1 with heap := h' } := I1.kept (t' := s1.toks) hk
      exact ⟨s1.heap.objs.size + 1, [s1.heap.objs.size + 1, s1.heap.objs.size], _, _, H1, rfl, I2, turn_enum a (s1.heap.objs.size + 1) s1.heap.objs.size, ⟨⟨.none, he⟩, hit, Nat.succ_ne_self _⟩, fin, q⟩
    | inr q1 =>
      obtain ⟨hq, q⟩ := q1
      obtain ⟨its, rv, pt, hz⟩ := I1.tuple hq
      have pT : s1.heap.IsTuple a its.toArray := pt
      have la : a < s1.heap.objs.size := by obtain ⟨_, z, _⟩ := pT; exact Heap.lt_size z
      refine call_enum1 (begins_tuple a its.toArray) pT fun h' he ho hk => wpAny_pyIter_enum he ?_
      have I2 : L2.Inv X pins σ H1 { s1 with heap := h' } := I1.kept (t' := s1.toks) hk
      exact ⟨s1.heap.objs.size + 1, [s1.heap.objs.size + 1, s1.heap.objs.size], _, _, H1, rfl, I2, turn_enumT a (s1.heap.objs.size + 1) s1.heap.objs.size, ⟨⟨.none, he⟩, ⟨_, ho, rfl, rfl⟩, Nat.succ_ne_self _, Nat.ne_of_lt la, Nat.ne_of_lt (Nat.lt_succ_of_lt la)⟩, fin, q⟩
end Pv
namespace Pv
open PySem L2
theorem pi_imp {X : Cx} {tg e : Expr} {t t' : TI} (h : PI X tg e t) (i : ∀ σ H R, t' σ H R → t σ H R) : PI X tg e t' := ⟨fun pins s σ H R I q => h.run pins s σ H R I (i σ H R q)⟩
def tI (Ce : Ec) (C : Cf) (W : WX) (f : Sg → R (List D)) : TI := fun σ H R => ∃ O S, EOk C O σ H S ∧ Post Ce C W (Wks C.K) O σ H R (f S)
section
variable {pc : Pc} {N : List Str} {Ce : Ec} {lv : Nat} {cf : Nat → List Sl → G → CR} {C : Cf} {X : Cx} {sc : Scope} {W : WX} {a b c e : Expr} {f g h : Sg → R D} {pos p : Pos} {tg : Expr}
theorem bi_of' {X : Cx} (x : XC pc N Ce lv cf C X sc W) {y z : Str} (h : bi pc.nm sc y z = true) : y = z ∧ Gl X z ∧ X.mg z = none := bi_of x.nm h
theorem i_seq (hK : X.K = C.K) (ha : PE X a (tE Ce C W f)) : PI X tg a (tI Ce C W fun s => (f s).bind fun d s1 => R.ofOpt (seqOf d) s1) :=
  pi_imp (pi_seq ha) fun σ H R ⟨O, S, E, p⟩ => ⟨O, S, E, p.bind fun d S1 v H1 O1 _ g1 r1 p1 => by
    rw [hK]
    cases r1 with
    | lst hs hl => exact ⟨_, rfl, .inl ⟨⟨_, SqL.of (vis_sub _ _ hs)⟩, p1 _ H1 O1 (Go.refl g1.ok) (wks_list hs hl)⟩⟩
    | tup hs hl => exact ⟨_, rfl, .inr ⟨⟨_, sqT_sub vis_sub hs⟩, p1 _ H1 O1 (Go.refl g1.ok) (wks_tup hs hl)⟩⟩
    | _ => exact p1.elim⟩
theorem i_rng (hg : Gl X "range") (hm : X.mg "range" = none) (hs : notStar a = true) (ha : PE X a (tE Ce C W f)) : PI X tg (.Call (.Name "range" p) [a] [] pos) (tI Ce C W fun s => (f s).bind fun d s1 => match d with
    | .int n => if -1000000 ≤ n ∧ n ≤ 1000000 then .ok ((List.range n.toNat).map fun (k : Nat) => PyData.int k) s1 else .no
    | _ => .no) :=
  pi_imp (pi_range1 hg hm (pa_cons ha pa_nil (star_cons hs)) (star_cons hs)) fun σ H R ⟨O, S, E, p⟩ => ⟨O, S, E, p.bind fun d S1 v H1 O1 _ g1 r1 p1 => by
    cases r1 with
    | int n =>
      simp only at p1
      split at p1
      · rename_i hn
        refine ⟨n, rfl, by omega, by omega, p1 _ H1 O1 (Go.refl g1.ok) ?_⟩
        have z := wks_range (K := C.K) (O := O1) (H := H1) (lo := 0) (n := n.toNat)
        have e : ((List.range n.toNat).map fun (k : Nat) => PyData.int (0 + k)) = (List.range n.toNat).map fun (k : Nat) => PyData.int k := by simp
        rw [e] at z
        exact z
      · exact p1.elim
    | _ => exact p1.elim⟩
theorem i_rng2 (hg : Gl X "range") (hm : X.mg "range" = none) (hs : notStar a = true) (hs2 : notStar b = true) (ha : PE X a (tE Ce C W f)) (hb : PE X b (tE Ce C W g)) : PI X tg (.Call (.Name "range" p) [a, b] [] pos) (tI Ce C W fun s => (f s).bind fun d s1 => (g s1).bind fun e s2 => match d, e with
    | .int m, .int n => if -1000000 ≤ m ∧ m ≤ 1000000 ∧ -1000000 ≤ n ∧ n ≤ 1000000 then .ok ((List.range (n - m).toNat).map fun (k : Nat) => PyData.int (m + k)) s2 else .no
    | _, _ => .no) :=
  pi_imp (pi_range2 hg hm (pa_cons ha (pa_cons hb pa_nil (star_cons hs2)) (star_cons hs)) (by rw [star_cons hs, star_cons hs2]; rfl) (by rw [star_cons hs2]; rfl)) fun σ H R ⟨O, S, E, p⟩ => ⟨O, S, E, p.bind fun d S1 v H1 O1 _ g1 r1 p1 => ⟨O1, S1, g1.ok, p1.bind fun d2 S2 v2 H2 O2 _ g2 r2 p2 => by
    cases r1 with
    | int m =>
      cases r2 with
      | int n =>
        simp only at p2
        split at p2
        · rename_i hn
          exact ⟨m, n, rfl, ⟨by omega, by omega, by omega, by omega⟩, p2 _ H2 O2 (Go.refl g2.ok) wks_range⟩
        · exact p2.elim
      | _ => exact p2.elim
    | _ => cases r2 <;> exact p2.elim⟩⟩
theorem i_zip {es : List Expr} {kk : Nat} {tpos : Pos} (hK : X.K = C.K) (hg : Gl X "zip") (hm : X.mg "zip" = none) (hs : notStar a = true) (hs2 : notStar b = true) (ha : PE X a (tE Ce C W f)) (hb : PE X b (tE Ce C W g)) : PI X (.Tuple es kk tpos) (.Call (.Name "zip" p) [a, b] [] pos) (tI Ce C W fun s => (f s).bind fun d s1 => (g s1).bind fun e s2 => match d, e with
    | .list xs, .list ys => .ok (zips xs ys) s2
    | .tuple xs, .tuple ys => .ok (zips xs ys) s2
    | _, _ => .no) :=
  pi_imp (RZ.pi_zipA hg hm (pa_cons ha (pa_cons hb pa_nil (star_cons hs2)) (star_cons hs)) (star_cons hs) (by rw [star_cons hs2]; rfl)) fun σ H R ⟨O, S, E, p⟩ => ⟨O, S, E, p.bind fun d S1 v H1 O1 _ g1 r1 p1 => ⟨O1, S1, g1.ok, p1.bind fun d2 S2 v2 H2 O2 _ g2 r2 p2 => by
    rw [hK]
    have r1' := rp_sub g2.vis _ _ r1
    cases r1' with
    | lst hs hl =>
      cases r2 with
      | lst hs2 hl2 => exact ⟨_, _, _, _, rfl, .inl ⟨SqL.of (vis_sub _ _ hs), SqL.of (vis_sub _ _ hs2), p2 _ H2 O2 (Go.refl g2.ok) (wks_zipL hs hl hs2 hl2)⟩⟩
      | _ => exact p2.elim
    | tup hs hl =>
      cases r2 with
      | tup hs2 hl2 => exact ⟨_, _, _, _, rfl, .inr ⟨sqT_sub vis_sub hs, sqT_sub vis_sub hs2, p2 _ H2 O2 (Go.refl g2.ok) (wks_zipT hs hl hs2 hl2)⟩⟩
      | _ => exact p2.elim
    | _ => cases r2 <;> exact p2.elim⟩⟩
theorem i_enum {es : List Expr} {kk : Nat} {tpos : Pos} (hK : X.K = C.K) (hg : Gl X "enumerate") (hm : X.mg "enumerate" = none) (hs : notStar a = true) (ha : PE X a (tE Ce C W f)) : PI X (.Tuple es kk tpos) (.Call (.Name "enumerate" p) [a] [] pos) (tI Ce C W fun s => (f s).bind fun d s1 => match seqOf d with
    | some ds => .ok (pairs 0 ds) s1
    | none => .no) :=
  pi_imp (pi_enumB hg hm (pa_cons ha pa_nil (star_cons hs)) (star_cons hs)) fun σ H R ⟨O, S, E, p⟩ => ⟨O, S, E, p.bind fun d S1 v H1 O1 _ g1 r1 p1 => by
    rw [hK]
    cases r1 with
    | lst hs hl => exact ⟨_, _, rfl, .inl ⟨SqL.of (vis_sub _ _ hs), p1 _ H1 O1 (Go.refl g1.ok) (wks_enumL (SqL.of hs) hl)⟩⟩
    | tup hs hl => exact ⟨_, _, rfl, .inr ⟨sqT_sub vis_sub hs, p1 _ H1 O1 (Go.refl g1.ok) (wks_enumT hs hl)⟩⟩
    | _ => exact p1.elim⟩
theorem i_scr (x : XC pc N Ce lv cf C X sc W) {i : Nat} (hn : nameB N sc i e = true) : PI X tg e (tI Ce C W fun s => match s.ρ[i]? with
    | some (some (.scr ns)) => .ok (ns.map PyData.int) s
    | _ => .no) :=
  pi_imp (pi_seq (x_slot x hn)) fun σ H R ⟨O, S, E, p⟩ => by
    simp only at p
    split at p
    · rename_i ns hs
      obtain ⟨a, e1, e2⟩ := E.sl _ _ hs
      rw [x.K]
      exact ⟨.ref a, e1, a, rfl, .inl ⟨⟨_, sqL_sub vis_sub e2⟩, p _ H O (Go.refl E) (wks_sql e2 (ints_rp ns))⟩⟩
    · exact p.elim
theorem i_enumScr {es : List Expr} {kk : Nat} {tpos : Pos} (x : XC pc N Ce lv cf C X sc W) {i : Nat} (hg : Gl X "enumerate") (hm : X.mg "enumerate" = none) (hn : nameB N sc i a = true) : PI X (.Tuple es kk tpos) (.Call (.Name "enumerate" p) [a] [] pos) (tI Ce C W fun s => match s.ρ[i]? with
    | some (some (.scr ns)) => .ok (pairs 0 (ns.map PyData.int)) s
    | _ => .no) :=
  pi_imp (pi_enumB hg hm (pa_cons (x_slot x hn) pa_nil (star_cons (name_plain hn).2.1)) (star_cons (name_plain hn).2.1)) fun σ H R ⟨O, S, E, p⟩ => by
    simp only at p
    split at p
    · rename_i ns hs
      obtain ⟨a, e1, e2⟩ := E.sl _ _ hs
      rw [x.K]
      exact ⟨.ref a, e1, a, _, rfl, .inl ⟨sqL_sub vis_sub e2, p _ H O (Go.refl E) (wks_enumL e2 (ints_rp ns))⟩⟩
    · exact p.elim
/-! ### lists of our own -/
theorem rp_atom {K : PySem.W.Frag} {H H' : Hp} {v : V} {d : D} (h : Rp K H v d) (a : atomD d = true) : Rp K H' v d := by
  cases h with
  | non => exact .non
  | bl b => exact .bl b
  | int i => exact .int i
  | str x => exact .str x
  | _ => cases a
theorem x_bun {o : UnO} {i : Nat} (x : XC pc N Ce lv cf C X sc W) (hu : unE pc.nm sc o e = some b) (hn : nameB N sc i b = true) : PE X e (tE Ce C W fun s => match s.own i with
    | some ds => match unD o (.list ds) with
      | some d => if atomD d then .ok d s else .no
      | none => .no
    | none => .no) ∧ PT X e (tT Ce C W fun s => match s.own i with
    | some ds => match unD o (.list ds) with
      | some d => if atomD d then .ok d s else .no
      | none => .no
    | none => .no) := by
  obtain ⟨r, ho, hr⟩ := un_form x.nm hu
  have key : ∀ σ H Q, tE Ce C W (fun s => match s.own i with
    | some ds => match unD o (.list ds) with
      | some d => if atomD d then .ok d s else .no
      | none => .no
    | none => .no) σ H Q → tVar i σ H fun x H1 => r x H1 Q := by
    intro σ H Q ⟨O, S, E, p⟩
    simp only at p
    split at p
    · rename_i ds hds
      obtain ⟨hi, a, vs, e1, e2, e3, e4, e5, e6⟩ := E.own_at hds
      split at p
      · rename_i d hd
        split at p
        · rename_i hat
          have F := E.freeze hi e1 e2 e4 e6
          refine ⟨.ref a, e1, ho (.list ds) d (less O a) H (.ref a) Q F.trk hd ?_ fun v' H' s' r' => ?_⟩
          · rw [x.K]; exact .lst (vis_of (fun z => z.2 rfl) (nt_lst _) e2) (rpAll_sub vis_less _ _ e6)
          · rw [x.K] at r'; exact p v' H' O ((Go.refl E).grow s') (rp_atom r' hat)
        · exact p.elim
      · exact p.elim
    · exact p.elim
  exact ⟨pe_imp (hr _ (x_slot x hn)).1 key, pt_imp (hr _ (x_slot x hn)).2 fun σ H Q q => key σ H _ (tT_of σ H Q q)⟩
theorem x_bnil {i : Nat} {ne : Bool} {op : CmpOp} {lp : Pos} (x : XC pc N Ce lv cf C X sc W) (ho : (if ne then decide (op = .NotEq) else decide (op = .Eq)) = true) (hn : nameB N sc i a = true) : PE X (.Compare a [op] [.List [] lp] pos) (tE Ce C W fun s => match s.own i with
    | some ds => if SeqAt.shaped (.list ds) then .ok (.bool (if ne then !ds.isEmpty else ds.isEmpty)) s else .no
    | none => .no) ∧ PT X (.Compare a [op] [.List [] lp] pos) (tT Ce C W fun s => match s.own i with
    | some ds => if SeqAt.shaped (.list ds) then .ok (.bool (if ne then !ds.isEmpty else ds.isEmpty)) s else .no
    | none => .no) := by
  have go : ∀ (σ : L2.St) (H : Hp) (Q : VK) (O : Addr → Prop) (S : Sg) (r : R2), (∀ u v H Q d e, Dp X.K H u d → Dp X.K H v e → SeqAt.shaped d = true → SeqAt.shaped e = true → Q (.bl (if ne then !(PyData.eqv d e) else PyData.eqv d e)) H → r u v H Q) → EOk C O σ H S → Post Ce C W (Rv C) O σ H Q (match S.own i with
    | some ds => if SeqAt.shaped (.list ds) then .ok (.bool (if ne then !ds.isEmpty else ds.isEmpty)) S else .no
    | none => .no) → tOp r (tVar i) (tLst tNil) σ H Q := by
    intro σ H Q O S r hr E p
    split at p
    · rename_i ds hds
      split at p
      · rename_i hsh
        obtain ⟨hi, a, vs, e1, e2, e3, e4, e5, e6⟩ := E.own_at hds
        refine ⟨.ref a, e1, Nat.zero_le _, fun q n => ?_⟩
        have sv := Sub.upd (o := .lst []) n
        refine hr _ _ _ _ (.list ds) (.list []) (.lst (SqL.of (sv _ _ e2)) ?_) (.lst (SqL.of upd_same) .nil) hsh rfl ?_
        · rw [x.K]
          exact rpAll_dp _ _ (rpAll_sub (vis_sub.trans sv) _ _ e6)
        · have eq : PyData.eqv (.list ds) (.list []) = ds.isEmpty := by cases ds <;> rfl
          rw [eq]
          exact p _ _ O ((Go.refl E).grow sv) (.bl _)
      · exact p.elim
    · exact p.elim
  cases ne with
  | true =>
    have : op = .NotEq := by simpa using ho
    subst this
    have key := fun σ H Q O S => go σ H Q O S (rNeD X.K) (fun u v H Q d e h1 h2 h3 h4 h5 => ⟨d, e, h1, h2, h3, h4, h5⟩)
    exact ⟨pe_imp (pe_cmpR (op_neD x.nm.un) (x_slot x hn) (pe_lst pa_nil) rfl) fun σ H Q ⟨O, S, E, p⟩ => key σ H Q O S E p,
      pt_imp (pt_cmpR (op_neD x.nm.un) (x_slot x hn) (pe_lst pa_nil) rfl) fun σ H Q q => let ⟨O, S, E, p⟩ := tT_of σ H Q q; key σ H _ O S E p⟩
  | false =>
    have : op = .Eq := by simpa using ho
    subst this
    have key := fun σ H Q O S => go σ H Q O S (rEqD X.K) (fun u v H Q d e h1 h2 h3 h4 h5 => ⟨d, e, h1, h2, h3, h4, h5⟩)
    exact ⟨pe_imp (pe_cmpR (op_eqD x.nm.un) (x_slot x hn) (pe_lst pa_nil) rfl) fun σ H Q ⟨O, S, E, p⟩ => key σ H Q O S E p,
      pt_imp (pt_cmpR (op_eqD x.nm.un) (x_slot x hn) (pe_lst pa_nil) rfl) fun σ H Q q => let ⟨O, S, E, p⟩ := tT_of σ H Q q; key σ H _ O S E p⟩
theorem tup_un {nm : Nm} {sc : Scope} {e b : Expr} (h : unE nm sc .tuple e = some b) : ∃ p pos, e = .Call (.Name "tuple" p) [b] [] pos ∧ bi nm sc "tuple" "tuple" = true ∧ notStar b = true := by
  simp only [unE] at h
  split at h <;> try (cases h; done)
  split at h <;> cases h
  rename_i hb
  rw [Bool.and_eq_true] at hb
  obtain ⟨h1, h2⟩ := hb
  have z := h1
  unfold bi at z
  rw [Bool.and_eq_true, Bool.and_eq_true, decide_eq_true_eq] at z
  obtain ⟨⟨rfl, _⟩, _⟩ := z
  exact ⟨_, _, rfl, h1, h2⟩
theorem x_btup {i : Nat} (x : XC pc N Ce lv cf C X sc W) (hu : unE pc.nm sc .tuple e = some b) (hn : nameB N sc i b = true) : PE X e (tE Ce C W fun s => match s.own i with
    | some ds => .ok (.tuple ds) s
    | none => .no) := by
  obtain ⟨p, pos, rfl, hb, hs⟩ := tup_un hu
  obtain ⟨_, hg, hm⟩ := bi_of x.nm hb
  refine pe_imp (pe_callTy call_tuple_of hg hm (by decide +kernel) (pa_cons (x_slot x hn) pa_nil (star_cons hs)) (by decide) (by decide) (star_cons hs)) fun σ H Q ⟨O, S, E, p⟩ => ?_
  simp only at p
  split at p
  · rename_i ds hds
    obtain ⟨hi, a, vs, e1, e2, e3, e4, e5, e6⟩ := E.own_at hds
    refine ⟨.ref a, e1, a, vs, rfl, .inl ⟨SqL.of e2, fun l n => ?_⟩⟩
    have sv := Sub.upd (o := .tup vs) n
    exact p _ _ O ((Go.refl E).grow sv) (.tup (.inl (.inl (vis_new E.trk n (nt_tup _)))) (rpAll_sub (sv.vis fun b z => .inl z) _ _ e6))
  · exact p.elim
theorem idx_bin {nm : Nm} {sc : Scope} {e a b : Expr} (h : binE nm sc .idx e = some (a, b)) : ∃ pos, e = .Subscript a b pos ∧ notSlice b = true := by
  unfold binE at h
  split at h
  · split at h <;> first | contradiction | (cases h; done)
  · split at h
    · split at h <;> first | contradiction | (cases h; done)
    · cases h
  · cases h
  · simp only at h
    split at h
    · cases h; exact ⟨_, rfl, by assumption⟩
    · cases h
  · cases h
theorem x_bidx {i : Nat} (x : XC pc N Ce lv cf C X sc W) (hn : nameB N sc i a = true) (hb : PE X b (tE Ce C W g)) (hs : notSlice b = true) : PE X (.Subscript a b pos) (tE Ce C W fun s => match s.own i with
    | some _ => (g s).bind fun d s1 => match s1.own i, d with
      | some ds, .int n => R.ofOpt (at_ ds n) s1
      | _, _ => .no
    | none => .no) :=
  pe_imp (pe_ix ix_list (x_slot x hn) hb (ix_plain hs)) fun σ H Q ⟨O, S, E, p⟩ => by
    simp only at p
    split at p
    · rename_i ds0 hds0
      obtain ⟨_, a, _, e1, _⟩ := E.own_at hds0
      refine ⟨.ref a, e1, O, S, E, p.bind fun d S1 v H1 O1 _ g1 r1 p1 => ?_⟩
      split at p1
      · rename_i _ _ ds n hds _
        obtain ⟨hi, a', vs, k1, k2, k3, k4, k5, k6⟩ := g1.ok.own_at hds
        rw [e1] at k1
        cases k1
        cases r1
        cases hz : at_ ds n with
        | none => rw [hz] at p1; exact p1.elim
        | some z =>
          rw [hz] at p1
          obtain ⟨u, q1, q2⟩ := atI_of k6 hz
          exact ⟨_, _, n, u, rfl, rfl, SqL.of k2, q1, p1 u H1 O1 (Go.refl g1.ok) q2⟩
      · exact p1.elim
    · exact p.elim
theorem x_pop {i : Nat} {o : Expr} {apos cpos : Pos} (x : XC pc N Ce lv cf C X sc W) (hn : nameB N sc i o = true) (hs : notStar a = true) (hline : (apos.endLine == cpos.line) = true) (ha : PE X a (tE Ce C W g)) : PE X (.Call (.Attribute o "pop" apos) [a] [] cpos) (tE Ce C W fun s => match s.own i with
    | some _ => (g s).bind fun d s1 => match s1.own i, d with
      | some ds, .int n => match seqIndex? n ds.length with
        | some j => match ds[j]? with
          | some y => if -(2 ^ 63) ≤ n ∧ n < 2 ^ 63 then .ok y (s1.put i (.own (ds.eraseIdx j))) else .no
          | none => .no
        | none => .no
      | _, _ => .no
    | none => .no) := by
  obtain ⟨z, zp, rfl⟩ := (name_plain hn).2.2
  refine pe_imp (pe_bm PySem.F.plainAttrs_list PySem.F.slot_list_pop PySem.F.type_list_pop mt_popAt (x_slot x hn) (pa_cons ha pa_nil (star_cons hs)) rfl (by rw [star_cons hs]; rfl) hline (star_cons hs)) fun σ H Q ⟨O, S, E, p⟩ => ?_
  simp only at p
  split at p
  · rename_i ds0 hds0
    obtain ⟨_, a, vs0, e1, e2, _⟩ := E.own_at hds0
    refine ⟨.ref a, e1, .inl ⟨rfl, _, SqL.of e2⟩, O, S, E, p.bind fun d S1 v H1 O1 _ g1 r1 p1 => ?_⟩
    split at p1
    · rename_i _ _ ds n hds _
      obtain ⟨hi, a', vs, k1, k2, k3, k4, k5, k6⟩ := g1.ok.own_at hds
      rw [e1] at k1
      cases k1
      cases r1
      split at p1
      · rename_i j hj
        split at p1
        · rename_i y hy
          split at p1
          · rename_i hb
            obtain ⟨u, q1, q2⟩ := k6.get hy
            obtain ⟨c1, c2⟩ := g1.ok.change hi e1 k2 k3 k4 k5 (k6.erase j)
            refine ⟨_, vs, n, j, u, rfl, rfl, k2, hb.1, hb.2, by rw [k6.len]; exact hj, q1, p1 u _ O1 ⟨fun _ h => h, ⟨fun b o nb t h => ?_⟩, c1⟩ (rp_sub c2 _ _ q2)⟩
            rw [upd_ne (fun z => nb (by rw [z]; exact k3))]; exact h
          · exact p1.elim
        · exact p1.elim
      · exact p1.elim
    · exact p1.elim
  · exact p.elim
end
end Pv

/-! Pv13: comprehensions. -/
namespace Pv
open PySem L2
def Cf.Alike (C' C : Cf) : Prop := C'.K = C.K ∧ C'.tb = C.tb
/-- within a block: the list that grows is somebody else's -/
def Cf.blk (C : Cf) (D : Addr) (vs : List V) : Cf := ⟨C.K, C.W, more C.O0 D, upd C.H0 D (.lst vs), C.tb, C.lm, C.lmS⟩
theorem more_less {O : Addr → Prop} {D : Addr} (h : O D) : more (less O D) D = O := by
  funext b
  apply propext
  constructor
  · rintro (h1 | h1)
    · exact h1.1
    · rw [h1]; exact h
  · intro h1
    by_cases e : b = D
    · exact .inr e
    · exact .inl ⟨h1, e⟩
section
variable {C : Cf} {O : Addr → Prop} {σ : L2.St} {H : Hp} {S : Sg} {D : Addr} {vs : List V} {ds : List PyData}
theorem Fresh.ne (F : Fresh C O σ H S D vs ds) {i : Nat} {x : Sl} {a : Addr} (h : S.ρ[i]? = some (some x)) (w : Ow x) (e : σ[i]? = some (some (.ref a))) : a ≠ D := fun z => F.noown i x h w (by rw [e, z])
theorem Fresh.into (F : Fresh C O σ H S D vs ds) (h0 : ∀ b, C.O0 b → O b) : EOk (C.blk D vs) (more O D) σ H S where
  sl := fun i x h => by
    have q := F.ok.sl i x h
    cases x with
    | dat d => exact q
    | own es =>
      obtain ⟨a, us, e, k1, k2, k3, k4, k5⟩ := q
      have na := F.ne h trivial e
      exact ⟨a, us, e, k1, k2, fun z => z.elim k3 na, fun o n z => k4 o n ((upd_ne na).symm.trans z), k5⟩
    | mm => exact q
    | thk ks =>
      obtain ⟨a, us, e, k1, k2, k3, k4, k5⟩ := q
      have na := F.ne h trivial e
      exact ⟨a, us, e, k1, k2, fun z => z.elim k3 na, fun o n z => k4 o n ((upd_ne na).symm.trans z), k5⟩
    | scr _ => exact q
  dis := F.ok.dis
  trkP := F.ok.trkP
  o0 := fun b h => h.elim (fun z => .inl (h0 b z)) .inr
  m0 := fun b h => .inl (F.ok.m0 b h)
  base := fun b o h1 h2 h3 => by
    by_cases e : b = D
    · subst e
      have z : upd C.H0 b (.lst vs) b = some o := h1
      rw [upd_same] at z
      cases z
      exact F.at_
    · exact F.ok.base b o (by rw [← upd_ne (H := C.H0) (o := .lst vs) e]; exact h1) h2 h3
  tabs := F.ok.tabs
  dok := F.ok.dok
  len := F.ok.len
theorem Fresh.outof (E : EOk (C.blk D vs) O σ H S) (n0 : ¬ C.O0 D) (h0 : NP C.H0 D) (m0 : ∀ b, Mw C.W b → C.O0 b) (r : RpAll C.K (vis O H) vs ds) : Fresh C (less O D) σ H S D vs ds ∧ ∀ b, C.O0 b → less O D b := by
  have oD : O D := E.o0 D (.inr rfl)
  have ml := more_less oD
  refine ⟨⟨?_, fun z => z.2 rfl, h0, E.base D _ upd_same (fun z => n0 (m0 D z)) (nt_lst _), by rw [ml]; exact r, fun i es h wo e => ?_⟩, fun b h => ⟨E.o0 b (.inl h), fun z => n0 (by rw [← z]; exact h)⟩⟩
  · rw [ml]
    refine ⟨fun i x h => ?_, E.dis, E.trkP, fun b h => E.o0 b (.inl h), m0, fun b o h1 h2 h3 => ?_, E.tabs, E.dok, E.len⟩
    · have q := E.sl i x h
      cases x with
      | dat d => exact q
      | own es =>
        obtain ⟨a, us, e, k1, k2, k3, k4, k5⟩ := q
        have na : a ≠ D := fun z => k3 (.inr z)
        exact ⟨a, us, e, k1, k2, fun z => k3 (.inl z), fun o n z => k4 o n ((upd_ne na).trans z), k5⟩
      | mm => exact q
      | thk ks =>
        obtain ⟨a, us, e, k1, k2, k3, k4, k5⟩ := q
        have na : a ≠ D := fun z => k3 (.inr z)
        exact ⟨a, us, e, k1, k2, fun z => k3 (.inl z), fun o n z => k4 o n ((upd_ne na).trans z), k5⟩
      | scr _ => exact q
    · have e : b ≠ D := fun z => h0 o h3 (by rw [← z]; exact h1)
      exact E.base b o (by show upd C.H0 D (.lst vs) b = _; rw [upd_ne e]; exact h1) h2 h3
  · obtain ⟨a, us, e', k1, k2, k3, k4⟩ := (E.sl i _ h).at wo
    rw [e] at e'
    cases e'
    exact k3 (.inr rfl)
/-- one more item -/
theorem Fresh.push (F : Fresh C O σ H S D vs ds) (h0 : ∀ b, C.O0 b → O b) {y : V} {d : PyData} (r : Rp C.K (vis (more O D) H) y d) : Fresh C O σ (upd H D (.lst (vs ++ [y]))) S D (vs ++ [y]) (ds ++ [d]) := by
  have sv : Sub (vis (more O D) H) (vis (more O D) (upd H D (.lst (vs ++ [y])))) := fun b o q => by
    obtain ⟨q1, q2, q3⟩ := of_vis q
    have hb : b ≠ D := fun z => q1 (.inr z)
    exact vis_of q1 q2 (by rw [upd_ne hb]; exact q3)
  have nD : ¬ C.O0 D := fun z => F.out (h0 D z)
  refine ⟨⟨fun i x h => ?_, F.ok.dis, fun b h => ?_, F.ok.o0, F.ok.m0, fun b o h1 h2 h3 => ?_, tabs_upd F.ok.tabs F.at_, fun m e => ?_, F.ok.len⟩, F.out, F.h0, upd_same, rpAll_sub sv _ _ (F.rp.app (.one r)), F.noown⟩
  · refine (F.ok.sl i x h).sub sv fun a e q => ?_
    obtain ⟨a', us, e', k1, k2, k3, k4⟩ := (F.ok.sl i _ h).at e
    rw [q] at e'
    cases e'
    exact ⟨k2, upd_ne (F.ne h e q)⟩
  · by_cases e : b = D
    · subst e; exact ⟨_, .lst _, upd_same⟩
    · obtain ⟨o, n, q⟩ := F.ok.trkP b h; exact ⟨o, n, by rw [upd_ne e]; exact q⟩
  · have e : b ≠ D := fun z => F.h0 o h3 (by rw [← z]; exact h1)
    rw [upd_ne e]; exact F.ok.base b o h1 h2 h3
  · have nm : ∀ b, m.on b → b ≠ D := fun b hb z => nD (by rw [← z]; exact F.ok.m0 b ⟨m, e, hb⟩)
    obtain ⟨h1, h2, h3, h4⟩ := F.ok.dok m e
    exact ⟨by rw [upd_ne (nm _ (.inl rfl))]; exact h1, by rw [upd_ne (nm _ (.inr (.inl rfl)))]; exact h2, by rw [upd_ne (nm _ (.inr (.inr rfl)))]; exact h3, h4⟩
theorem Fresh.grow (F : Fresh C O σ H S D vs ds) {H' : Hp} (s : Sub H H') : Fresh C O σ H' S D vs ds :=
  ⟨F.ok.grow s, F.out, F.h0, s _ _ F.at_, rpAll_sub (s.vis fun b z => .inl z) _ _ F.rp, F.noown⟩
theorem Fresh.blk (F : Fresh C O σ H S D vs ds) (own : List Nat) : Fresh C O (wipe σ own) H { S with ρ := wipeS S.ρ own } D vs ds :=
  ⟨F.ok.blk own, F.out, F.h0, F.at_, F.rp, fun i es h w => by
    obtain ⟨h1, h2⟩ := wipe_get h
    rw [wipeV_get h2]
    exact F.noown i es h1 w⟩
end
theorem Ext.transD {O O' : Addr → Prop} {H H1 H2 : Hp} {D : Addr} (a : Ext O H H1) (n : H D = none) (b : Ext (more O' D) H1 H2) (h : ∀ b, O' b → O b) : Ext O H H2 :=
  ⟨fun c o n1 n2 e => b.keep c o (fun z => z.elim (fun z => n1 (h c z)) fun z => by rw [z, n] at e; cases e) n2 (a.keep c o n1 n2 e)⟩
theorem Ext.mono {O O' : Addr → Prop} {H H' : Hp} (a : Ext O H H') (h : ∀ b, O b → O' b) : Ext O' H H' := ⟨fun b o n t e => a.keep b o (fun z => n (h b z)) t e⟩
theorem wipe_set {σ : L2.St} {i : Nat} {v : Option V} : ∀ {vs : List Nat}, i ∈ vs → wipe (σ.set i v) vs = wipe σ vs
  | [], h => by cases h
  | w :: vs, h => by
    show (wipe (σ.set i v) vs).set w none = (wipe σ vs).set w none
    by_cases hi : i ∈ vs
    · rw [wipe_set hi]
    · have e : i = w := by
        rcases List.mem_cons.mp h with q | q
        · exact q
        · exact absurd q hi
      subst e
      have key : ∀ {ws : List Nat}, i ∉ ws → wipe (σ.set i v) ws = (wipe σ ws).set i v := by
        intro ws
        induction ws with
        | nil => intro _; rfl
        | cons w ws ih =>
          intro hn
          simp only [List.mem_cons, not_or] at hn
          show (wipe (σ.set i v) ws).set w none = ((wipe σ ws).set w none).set i v
          rw [ih hn.2, List.set_comm _ _ hn.1]
      rw [key hi, List.set_set]
theorem wipe_wipe {σ : L2.St} : ∀ {vs ws : List Nat}, (∀ v ∈ vs, v ∈ ws) → wipe (wipe σ vs) ws = wipe σ ws
  | [], _, _ => rfl
  | v :: vs, ws, h => by
    show wipe ((wipe σ vs).set v none) ws = _
    rw [wipe_set (h v (by simp)), wipe_wipe fun u hu => h u (by simp [hu])]
def Tg.slots : Tg → List Nat
  | .one i => [i]
  | .many is => is
theorem wipe_puts {own : List Nat} : ∀ {is : List Nat} {us : List V} {σ : L2.St}, (∀ i ∈ is, i ∈ own) → wipe ((is.zip us).foldl (fun σ p => σ.set p.1 (some p.2)) σ) own = wipe σ own
  | [], _, _, _ => by simp
  | i :: is, [], _, _ => by simp
  | i :: is, u :: us, σ, h => by
    simp only [List.zip_cons_cons, List.foldl_cons]
    rw [wipe_puts fun j hj => h j (by simp [hj]), wipe_set (h i (by simp))]
theorem wipe_setTg {own : List Nat} {tg : Tg} {x : V} {us : List V} {σ : L2.St} (h : ∀ i ∈ tg.slots, i ∈ own) : wipe (setTg tg x us σ) own = wipe σ own := by
  cases tg with
  | one i => exact wipe_set (h i (by simp [Tg.slots]))
  | many is => exact wipe_puts h
def tB (Ce : Ec) (C : Cf) (W : WX) (f : Sg → R Bool) : TT := fun σ H Q => ∃ O S, EOk C O σ H S ∧ Post Ce C W Rb O σ H Q (f S)
def WNo : WX := fun _ _ _ _ => False
theorem Post.quiet {Ce : Ec} {C : Cf} {W : WX} {α β : Type} {Rl : (Addr → Prop) → Hp → β → α → Prop} {O : Addr → Prop} {σ : L2.St} {H : Hp} {Q : β → Hp → Prop} {r : R α} (h : ∃ a s, r = .ok a s) (q : ∀ a s v H' O', r = .ok a s → Go C O O' σ H H' s → Rl O' H' v a → Q v H') : Post Ce C W Rl O σ H Q r := by
  obtain ⟨a, s, e⟩ := h
  subst e
  exact fun v H' O' g rl => q a s v H' O' rfl g rl
/-- a list that nobody else knows is wanted -/
def PostO (Ce : Ec) (C : Cf) (W : WX) (O : Addr → Prop) (σ : L2.St) (H : Hp) (Q : V → Hp → Prop) : R (List D) → Prop
  | .ok ds S' => ∀ a vs H' O', (∀ b, O' b → O b) → Ext O H H' → (O a ∨ NP H a) → Fresh C O' σ H' S' a vs ds → (∀ b, C.O0 b → O' b) → Q (.ref a) H'
  | .er c d S' => ∀ dd v H' O', Go C O O' σ H H' S' → H' dd = some (.xd [(Ce.att c, v)]) → Rp C.K (vis O' H') v d → W (.ref (Ce.cls c)) (some dd) σ H'
  | .no => False
section
variable {Ce : Ec} {C : Cf} {W : WX} {O O' : Addr → Prop} {σ : L2.St} {H H' : Hp} {Q : V → Hp → Prop}
theorem PostO.later {r : R (List D)} {S : Sg} (p : PostO Ce C W O σ H Q r) (g : Go C O O' σ H H' S) : PostO Ce C W O' σ H' Q r := by
  cases r with
  | ok d S' => exact fun a vs H2 O2 s e n F h0 => p a vs H2 O2 (fun b h => g.sub b (s b h)) (g.ext.trans e g.sub) (n.elim (fun z => .inl (g.sub a z)) fun n => by
      by_cases ho : O a
      · exact .inl ho
      · exact .inr fun o t e => n o t (g.ext.keep a o ho t e)) F h0
  | er c d S' => exact fun dd v H2 O2 g2 h1 h2 => p dd v H2 O2 (g.trans g2) h1 h2
  | no => exact p
theorem PostO.bind {α β : Type} {Rl : (Addr → Prop) → Hp → β → α → Prop} {Q1 : β → Hp → Prop} {r : R α} {k : α → Sg → R (List D)} (p : PostO Ce C W O σ H Q (r.bind k))
    (h : ∀ d S' v H' O', r = .ok d S' → Go C O O' σ H H' S' → Rl O' H' v d → PostO Ce C W O' σ H' Q (k d S') → Q1 v H') : Post Ce C W Rl O σ H Q1 r := by
  cases r with
  | ok d S' => exact fun v H2 O2 g2 rl => h d S' v H2 O2 rfl g2 rl (PostO.later (r := k d S') p g2)
  | er c d S' => exact p
  | no => exact p
theorem PostO.of {r : R (List D)} (p : Post Ce C W (Rv C) O σ H Q (r.bind fun ds s => .ok (.list ds) s)) : PostO Ce C W O σ H Q r := by
  cases r with
  | ok d S' => exact fun a vs H2 O2 s e _ F h0 => let z := F.drop h0; p (.ref a) H2 O2 ⟨s, e, z.1⟩ z.2
  | er c d S' => exact p
  | no => exact p
end
def tF (Ce : Ec) (C : Cf) (W : WX) (f : Sg → R (List D)) : TE := fun σ H Q => ∃ O S, EOk C O σ H S ∧ PostO Ce C W O σ H Q (f S)
theorem tF_of {Ce : Ec} {C : Cf} {W : WX} {f : Sg → R (List D)} (σ : L2.St) (H : Hp) (Q : VK) (h : tE Ce C W (fun s => (f s).bind fun ds s1 => .ok (.list ds) s1) σ H Q) : tF Ce C W f σ H Q := by
  obtain ⟨O, S, E, p⟩ := h
  exact ⟨O, S, E, PostO.of p⟩
theorem Fresh.back {C : Cf} {O1 O : Addr → Prop} {σ : L2.St} {H1 H : Hp} {S1 S : Sg} {D : Addr} {vs : List V} {ds : List PyData} {own : List Nat} (F : Fresh C O (wipe σ own) H S D vs ds) (E1 : EOk C O1 σ H1 S1) (s : Sub (vis O1 H1) (vis (more O D) H)) : Fresh C O σ H { S with ρ := backS S1.ρ S.ρ own } D vs ds :=
  ⟨E1.back F.ok s, F.out, F.h0, F.at_, F.rp, fun i es h w e => by
    rcases back_get h with ⟨n, h1⟩ | ⟨d, q, _⟩
    · exact F.noown i es h1 w (by rw [wipeV_get n]; exact e)
    · subst q; exact w.elim⟩
/-- what a comprehension needs -/
structure LcOk (pc : Pc) (N : List Str) (Ce : Ec) (C : Cf) (X : Cx) (sc : Scope) (W : WX) (elt' tg' it' : Expr) (ifs : List Expr) (scope : Scope) (own : List Nat) (tg : Tg) (fI : Sg → R (List D)) (fT : Sg → R Bool) (fE : Sg → R D) : Prop where
  hb : blkC N sc scope (own.map fun i => ((N[i]?).getD ("" : Str), i)) = true
  hi : PI X tg' it' (tI Ce C W fI)
  hs : notSet it' = true
  ht : ∀ i ∈ tg.slots, i ∈ own
  hg : ∀ (s : Shared) (H : Hp) (C : Addr) (cl : List (Str × Addr)) (fp : List Addr), PG (X.blk s H scope (compEnvC scope cl C X.env) fp) tg' (gOf X.K tg)
  hT : ∀ (C' : Cf), C'.Alike C → ∀ (s : Shared) (H : Hp) (C : Addr) (cl : List (Str × Addr)) (fp : List Addr), PTs (X.blk s H scope (compEnvC scope cl C X.env) fp) ifs (tB Ce C' WNo fT)
  hE : ∀ (C' : Cf), C'.Alike C → ∀ (s : Shared) (H : Hp) (C : Addr) (cl : List (Str × Addr)) (fp : List Addr), PE (X.blk s H scope (compEnvC scope cl C X.env) fp) elt' (tE Ce C' WNo fE)
/-- what it does -/
def lcR (own : List Nat) (tg : Tg) (fI : Sg → R (List D)) (fT : Sg → R Bool) (fE : Sg → R D) (s : Sg) : R (List D) :=
  (fI s).bind fun ds s1 => (lcLoop tg.put fT fE own ds [] { s1 with ρ := wipeS s1.ρ own }).bind fun ys s2 => .ok ys { s2 with ρ := backS s1.ρ s2.ρ own }
def tTe (Ce : Ec) (C : Cf) (fT : Sg → R Bool) : TT := fun σ H Q => ∃ C' : Cf, C'.Alike C ∧ tB Ce C' WNo fT σ H Q
def tEe (Ce : Ec) (C : Cf) (fE : Sg → R D) : TE := fun σ H Q => ∃ C' : Cf, C'.Alike C ∧ tE Ce C' WNo fE σ H Q
section
variable {pc : Pc} {N : List Str} {Ce : Ec} {lv : Nat} {cf : Nat → List Sl → G → CR} {C : Cf} {X : Cx} {sc : Scope} {W : WX} {elt' tg' it' : Expr} {ifs : List Expr} {scope : Scope} {pos : Pos} {own : List Nat} {tg : Tg} {fI : Sg → R (List D)} {fT : Sg → R Bool} {fE : Sg → R D}
theorem LcOk.ok (x : XC pc N Ce lv cf C X sc W) (L : LcOk pc N Ce C X sc W elt' tg' it' ifs scope own tg fI fT fE) : BlkOk X.N X.env.scope scope (own.map fun i => ((N[i]?).getD ("" : Str), i)) := by rw [x.hN, x.sc]; exact blkOk_by L.hb
theorem LcOk.hT' (L : LcOk pc N Ce C X sc W elt' tg' it' ifs scope own tg fI fT fE) : ∀ (s : Shared) (H : Hp) (A : Addr) (cl : List (Str × Addr)) (fp : List Addr), PTs (X.blk s H scope (compEnvC scope cl A X.env) fp) ifs (tTe Ce C fT) :=
  fun s H A cl fp => ⟨fun pins s' σ H' Q I ⟨C', e, q⟩ => (L.hT C' e s H A cl fp).run pins s' σ H' Q I q⟩
theorem LcOk.hE' (L : LcOk pc N Ce C X sc W elt' tg' it' ifs scope own tg fI fT fE) : ∀ (s : Shared) (H : Hp) (A : Addr) (cl : List (Str × Addr)) (fp : List Addr), PE (X.blk s H scope (compEnvC scope cl A X.env) fp) elt' (tEe Ce C fE) :=
  fun s H A cl fp => ⟨fun pins s' σ H' Q I ⟨C', e, q⟩ => (L.hE C' e s H A cl fp).run pins s' σ H' Q I q⟩
theorem LcOk.fs (L : LcOk pc N Ce C X sc W elt' tg' it' ifs scope own tg fI fT fE) (env : Env) : ∀ z, foldedSetIterable it' env z = pure z := fun z => by
  have hs := L.hs
  cases it' <;> first | rfl | cases hs
theorem own_snd : (own.map fun i => ((N[i]?).getD ("" : Str), i)).map (·.2) = own := by rw [List.map_map]; exact List.map_id own
theorem LcOk.key (x : XC pc N Ce lv cf C X sc W) (L : LcOk pc N Ce C X sc W elt' tg' it' ifs scope own tg fI fT fE) (σ : L2.St) (H : Hp) (Q : VK) (h : tF Ce C W (lcR own tg fI fT fE) σ H Q) :
    tLc (tI Ce C W fI) (gOf X.K tg) (tTe Ce C fT) (tEe Ce C fE) ((own.map fun i => ((N[i]?).getD ("" : Str), i)).map (·.2)) σ H Q := by
  obtain ⟨O, S, E, p⟩ := h
  have ht := L.ht
  rw [own_snd]
  refine ⟨O, S, E, p.bind fun ds S1 J H1 O1 _ g1 wk p1 D nD => ?_⟩
  have E1 := g1.ok
  have F0 : Fresh C O1 (wipe σ own) (upd H1 D (.lst [])) { S1 with ρ := wipeS S1.ρ own } D [] [] := (Fresh.new E1 nD .nil).blk own
  have X0 : Ext O1 H1 (upd H1 D (.lst [])) := Ext.of_sub (Sub.upd nD)
  generalize hL : lcLoop tg.put fT fE own ds [] { S1 with ρ := wipeS S1.ρ own } = L at p1
  refine ⟨fun i m Hh => m = ds.length - i ∧ ∃ (Oi : Addr → Prop) (Si : Sg) (vs : List V) (acc : List PyData), i ≤ ds.length ∧ (∀ b, Oi b → O1 b) ∧ Ext O1 H1 Hh ∧ Fresh C Oi (wipe σ own) Hh Si D vs acc ∧ (∀ b, C.O0 b → Oi b) ∧ lcLoop tg.put fT fE own (ds.drop i) acc Si = L,
    ⟨_, rfl, O1, _, [], [], Nat.zero_le _, fun _ h => h, X0, F0, E1.o0, hL⟩, ?_⟩
  rintro i m Hh ⟨rfl, Oi, Si, vs, acc, hi', hO, hX, F, h0, hL'⟩
  have sv : Sub (vis O1 H1) (vis (more Oi D) Hh) := fun b o q => by
    obtain ⟨q1, q2, q3⟩ := of_vis q
    exact vis_of (fun z => z.elim (fun z => q1 (hO b z)) fun z => by rw [z, nD] at q3; cases q3) q2 (hX.keep b o q1 q2 q3)
  have wki := wk (more Oi D) Hh sv F.ok.trk
  by_cases hlt : i < ds.length
  · refine .inr ⟨wki.goes i hlt, fun H' => ∃ m', m' < ds.length - i ∧ (m' = ds.length - (i + 1) ∧ ∃ (Oi : Addr → Prop) (Si : Sg) (vs : List V) (acc : List PyData), i + 1 ≤ ds.length ∧ (∀ b, Oi b → O1 b) ∧ Ext O1 H1 H' ∧ Fresh C Oi (wipe σ own) H' Si D vs acc ∧ (∀ b, C.O0 b → Oi b) ∧ lcLoop tg.put fT fE own (ds.drop (i + 1)) acc Si = L), fun _ h => h, fun v H2 hy => ?_⟩
    obtain ⟨d, hd, sH, rv⟩ := wki.yields i v H2 hlt hy
    have F2 := F.grow sH
    have E2 := F2.into h0
    have hdrop : ds.drop i = d :: ds.drop (i + 1) := by
      rw [List.drop_eq_getElem_cons hlt]
      congr 1
      rw [List.getElem?_eq_getElem hlt] at hd
      exact Option.some.inj hd
    rw [hdrop] at hL'
    have nL : L ≠ .no := fun z => by rw [z] at p1; exact p1.elim
    cases hp : tg.put d Si with
    | none => unfold lcLoop at hL'; rw [hp] at hL'; exact absurd hL'.symm nL
    | some S2 =>
      unfold lcLoop at hL'
      rw [hp] at hL'
      dsimp only at hL'
      have e3 : (C.blk D vs).K = X.K := x.K.symm
      refine (e3 ▸ gOf_ok E2 hp rv (Q := fun σ2 H2 => wipe σ2 own = wipe σ own ∧ _) fun us E3 => ?_)
      refine ⟨by rw [wipe_setTg ht, wipe_wipe fun _ h => h], C.blk D vs, ⟨rfl, rfl⟩, more Oi D, S2, E3, ?_⟩
      cases hT3 : fT S2 with
      | no => rw [hT3] at hL'; exact absurd hL'.symm nL
      | er c d2 S3 => rw [hT3] at hL'; exact absurd hL'.symm nL
      | ok b S3 =>
        rw [hT3] at hL'
        intro b' H3 O3 g3 eb
        have eb' : b' = b := eb
        subst eb'
        have hX3 : Ext O1 H1 H3 := (hX.trans (Ext.of_sub (O := O1) sH) fun _ h => h).transD nD g3.ext hO
        have sb3 : ∀ b, less O3 D b → Oi b := fun b h => (g3.sub b h.1).elim id fun z => absurd z h.2
        have rp3 : RpAll C.K (vis O3 H3) vs acc := rpAll_sub g3.vis _ _ F2.rp
        have nO0 : ¬ C.O0 D := fun z => F.out (h0 D z)
        cases b' with
        | false =>
          rw [if_neg Bool.false_ne_true]
          obtain ⟨F4, h04⟩ := Fresh.outof g3.ok nO0 F.h0 F.ok.m0 rp3
          have F5 := F4.blk own
          rw [wipe_setTg ht, wipe_wipe fun _ h => h] at F5
          exact ⟨_, by omega, rfl, _, _, vs, acc, by omega, fun b h => hO b (sb3 b h), hX3, F5, h04, hL'⟩
        | true =>
          rw [if_pos rfl]
          refine ⟨C.blk D vs, ⟨rfl, rfl⟩, O3, S3, g3.ok, ?_⟩
          change ((fE S3).quiet.bind _) = L at hL'
          cases hE4 : fE S3 with
          | no => rw [hE4] at hL'; exact absurd hL'.symm nL
          | er c d2 S4 => rw [hE4] at hL'; exact absurd hL'.symm nL
          | ok y S4 =>
            rw [hE4] at hL'
            change (if acc.length < 1000000 then _ else _) = L at hL'
            split at hL'
            · rename_i hlen
              intro yv H4 O4 g4 ry
              have hX4 : Ext O1 H1 H4 := hX3.transD nD (g4.ext.mono fun b h => by
                by_cases e : b = D
                · exact .inr e
                · exact .inl ⟨h, e⟩) fun b h => hO b (sb3 b h)
              have rp4 : RpAll C.K (vis O4 H4) vs acc := rpAll_sub g4.vis _ _ rp3
              obtain ⟨F4, h04⟩ := Fresh.outof g4.ok nO0 F.h0 F.ok.m0 rp4
              have oD : O4 D := g4.ok.o0 D (.inr rfl)
              have F5 := (F4.push h04 (y := yv) (d := y) (by rw [more_less oD]; exact ry)).blk own
              rw [wipe_setTg ht, wipe_wipe fun _ h => h] at F5
              have hl := F.rp.len
              refine ⟨vs, F4.at_, Nat.lt_of_lt_of_le (by omega) line_big, _, by omega, rfl, _, _, _, _, by omega, fun b h => hO b (sb3 b ⟨g4.sub b h.1, h.2⟩), ?_, F5, h04, hL'⟩
              refine ⟨fun b o n1 n2 e => ?_⟩
              have : b ≠ D := fun z => by rw [z, nD] at e; cases e
              rw [upd_ne this]
              exact hX4.keep b o n1 n2 e
            · exact absurd hL'.symm nL
  · have e : i = ds.length := by omega
    subst e
    refine .inl ⟨wki.stops, ?_⟩
    rw [List.drop_length] at hL'
    unfold lcLoop at hL'
    subst hL'
    exact p1 D vs Hh Oi hO hX (.inr fun o _ e => by rw [nD] at e; cases e) (F.back E1 sv) h0
theorem lcR_bind (s : Sg) : ((fI s).bind fun ds s1 => (lcLoop tg.put fT fE own ds [] { s1 with ρ := wipeS s1.ρ own }).bind fun ys s2 => R.ok (PyData.list ys) { s2 with ρ := backS s1.ρ s2.ρ own }) = (lcR own tg fI fT fE s).bind fun ds s1 => R.ok (PyData.list ds) s1 := by
  unfold lcR
  cases fI s with
  | ok ds s1 =>
    simp only [R.bind]
    cases lcLoop tg.put fT fE own ds [] { s1 with ρ := wipeS s1.ρ own } <;> rfl
  | er _ _ _ => rfl
  | no => rfl
/-- a comprehension: a list that nobody else knows -/
theorem f_lc (x : XC pc N Ce lv cf C X sc W) (L : LcOk pc N Ce C X sc W elt' tg' it' ifs scope own tg fI fT fE) : PE X (.ListComp elt' [⟨tg', it', ifs, 0⟩] scope pos) (tF Ce C W (lcR own tg fI fT fE)) :=
  pe_imp (pe_lc x.calm (by rw [x.hN]; exact x.nd) L.hi (L.ok x) L.hg L.hT' L.hE' (L.fs X.env)) (L.key x)
theorem x_lc (x : XC pc N Ce lv cf C X sc W) (L : LcOk pc N Ce C X sc W elt' tg' it' ifs scope own tg fI fT fE) :
    PE X (.ListComp elt' [⟨tg', it', ifs, 0⟩] scope pos) (tE Ce C W fun s => (fI s).bind fun ds s1 => (lcLoop tg.put fT fE own ds [] { s1 with ρ := wipeS s1.ρ own }).bind fun ys s2 => .ok (.list ys) { s2 with ρ := backS s1.ρ s2.ρ own }) :=
  pe_imp (f_lc x L) fun σ H Q q => tF_of σ H Q (by
    obtain ⟨O, S, E, p⟩ := q
    have e := lcR_bind (own := own) (tg := tg) (fI := fI) (fT := fT) (fE := fE) S
    exact ⟨O, S, E, by dsimp only; rw [← e]; exact p⟩)
end
end Pv

/-! Pv14: an expression that is matched does what the small language says. -/
namespace Pv
open PySem L2
/-! ### targets -/
def NmGood (Y : Cx) (i : Nat) (e : Expr) : Prop := ∃ x p, e = .Name x p ∧ Y.N[i]? = some x ∧ Loc Y.env.scope x ∧ (Y.fn x = true ∨ Y.env.scope.names.lookup x = some .local)
theorem pg_good {Y : Cx} {i : Nat} {e : Expr} (hN : Y.N.Nodup) (h : NmGood Y i e) : PG Y e (gName i) := by
  obtain ⟨x, p, rfl, h1, h2, h3⟩ := h
  exact pg_name hN h1 h2 h3
theorem assignEach_names {Y : Cx} : ∀ {is : List Nat} {es : List Expr}, Fa2 (NmGood Y) is es → (assignEach es Y.env) = es.map fun e => (false, assign e Y.env)
  | [], _, .nil => rfl
  | i :: is, e :: es, .cons h t => by
    obtain ⟨x, p, rfl, _⟩ := h
    show (false, assign _ Y.env) :: assignEach es Y.env = _
    rw [assignEach_names t]; rfl
theorem forall2_len {α β : Type} {r : α → β → Prop} : ∀ {is : List α} {es : List β}, Fa2 r is es → is.length = es.length
  | [], _, .nil => rfl
  | i :: is, e :: es, .cons h t => by simp [forall2_len t]
theorem find_none {α : Type} (f : α → Value → Sem Unit) : ∀ (es : List α), (es.map fun e => (false, f e)).findIdx? (·.1) = none
  | [] => rfl
  | e :: es => by
    rw [List.map_cons, List.findIdx?_cons]
    simp only [Bool.false_eq_true, if_false]
    rw [find_none f es]; rfl
theorem pgs_good {Y : Cx} (hN : Y.N.Nodup) : ∀ {is : List Nat} {es : List Expr}, Fa2 (NmGood Y) is es → PGs Y es (gNames is)
  | [], _, .nil => pgs_nil
  | i :: is, e :: es, .cons h t => by
    have hh := h
    obtain ⟨x, p, rfl, _⟩ := hh
    exact pgs_cons (pg_good hN h) (pgs_good hN t)
theorem pg_of {Y : Cx} {tg : Tg} {e : Expr} (hN : Y.N.Nodup) (hc : Y.calm = true) (h : match tg with
    | .one i => NmGood Y i e
    | .many is => ∃ es k p, e = .Tuple es k p ∧ Fa2 (NmGood Y) is es) : PG Y e (gOf Y.K tg) := by
  cases tg with
  | one i => exact pg_good hN h
  | many is =>
    obtain ⟨es, k, p, rfl, h⟩ := h
    refine pg_tup hc (pgs_good hN h) ?_ ?_
    · rw [assignEach_names h, List.length_map, forall2_len h]
    · rw [assignEach_names h]; exact find_none (fun e => assign e Y.env) es
theorem all2_forall {α β : Type} {f : α → β → Bool} {r : α → β → Prop} (h : ∀ a b, f a b = true → r a b) : ∀ {is : List α} {es : List β}, all2 f is es = true → Fa2 r is es
  | [], [], _ => .nil
  | i :: is, e :: es, q => by
    have q : (f i e && all2 f is es) = true := q
    rw [Bool.and_eq_true] at q
    exact .cons (h _ _ q.1) (all2_forall h q.2)
  | [], _ :: _, q => by cases q
  | _ :: _, [], q => by cases q
section
variable {pc : Pc} {N : List Str} {Ce : Ec} {lv : Nat} {cf : Nat → List Sl → G → CR} {hl : Nat → Sg → R D} {C : Cf} {X : Cx} {sc : Scope} {W : WX}
theorem tg_blk (x : XC pc N Ce lv cf C X sc W) {scope : Scope} {own : List Nat} {tg : Tg} {e : Expr} (h : tgB N scope (relS scope sc) own tg e = true) (s : Shared) (H : Hp) (A : Addr) (cl : List (Str × Addr)) (fp : List Addr) :
    PG (X.blk s H scope (compEnvC scope cl A X.env) fp) e (gOf X.K tg) := by
  have key : ∀ i e, tgName N scope (relS scope sc) own i e = true → NmGood (X.blk s H scope (compEnvC scope cl A X.env) fp) i e := by
    intro i e h
    unfold tgName at h
    split at h
    · rename_i y p
      rw [Bool.and_eq_true, Bool.and_eq_true, decide_eq_true_eq, Bool.or_eq_true] at h
      obtain ⟨⟨h1, h2⟩, h3⟩ := h
      refine ⟨y, p, rfl, by show X.N[i]? = _; rw [x.hN]; exact h1, ?_⟩
      have hsc : (X.blk s H scope (compEnvC scope cl A X.env) fp).env.scope = relS scope sc := by rw [← x.sc]; rfl
      rw [hsc]
      rcases h3 with h3 | h3
      · have hl : (relS scope sc).names.lookup y = some .local := by
          split at h3
          · assumption
          · cases h3
        exact ⟨.inl hl, .inr hl⟩
      · rw [Bool.and_eq_true] at h3
        obtain ⟨h3, h4⟩ := h3
        have hl : (relS scope sc).names.lookup y = some .cell := by
          split at h3
          · assumption
          · cases h3
        exact ⟨.inr hl, .inl h4⟩
    · cases h
  refine pg_of (Y := X.blk s H scope (compEnvC scope cl A X.env) fp) (by show X.N.Nodup; rw [x.hN]; exact x.nd) x.calm ?_
  unfold tgB at h
  cases tg with
  | one i => exact key _ _ h
  | many is =>
    simp only at h
    split at h
    · rename_i es k p
      exact ⟨es, k, p, rfl, all2_forall key h⟩
    · cases h
theorem tg_own {N : List Str} {scope rsc : Scope} {own : List Nat} {tg : Tg} {e : Expr} (h : tgB N scope rsc own tg e = true) : ∀ i ∈ tg.slots, i ∈ own := by
  have key : ∀ i e, tgName N scope rsc own i e = true → i ∈ own := by
    intro i e h
    unfold tgName at h
    split at h
    · rw [Bool.and_eq_true, Bool.and_eq_true] at h
      simpa using h.1.2
    · cases h
  unfold tgB at h
  cases tg with
  | one i =>
    intro j hj
    have : j = i := by simpa [Tg.slots] using hj
    subst this
    exact key _ _ h
  | many is =>
    simp only at h
    split at h
    · rename_i es k p
      intro j hj
      have f := all2_forall key h
      clear h
      have hj : j ∈ is := hj
      clear key
      induction f with
      | nil => cases hj
      | cons a _ ih =>
        rcases List.mem_cons.mp hj with q | q
        · subst q; exact a
        · exact ih q q
    · cases h
theorem XC.blk (x : XC pc N Ce lv cf C X sc W) {C' : Cf} (hK : C'.Alike C) {scope : Scope} (s : Shared) (H : Hp) (A : Addr) (cl : List (Str × Addr)) (fp : List Addr) : XC pc N Ce lv cf C' (X.blk s H scope (compEnvC scope cl A X.env) fp) (relS scope sc) WNo where
  pf := x.pf
  hN := x.hN
  nd := x.nd
  sc := by rw [← x.sc]; rfl
  calm := x.calm
  K := by rw [hK.1]; exact x.K
  tb := by rw [hK.2]; exact x.tb
  room := x.room
  takes := fun u s' ⟨_, _, _, _, _, _, _, _, _, _, _, _, _, _, _, _, w⟩ => w.elim
/-- what is heard of lambdas, where one stands -/
structure HdOk (pc : Pc) (N : List Str) (Ce : Ec) (cf : Nat → List Sl → G → CR) (hl : Nat → Sg → R D) (C : Cf) (X : Cx) (sc : Scope) (W : WX) : Prop where
  one : ∀ k e, mE pc N sc (.heard k) e = true → PE X e (tE Ce C W (evalE cf hl (.heard k)))
  all : ∀ i e, mE pc N sc (.heardAll i) e = true → PE X e (tE Ce C W (evalE cf hl (.heardAll i)))
theorem HdOk.no (h : pc.lsc ≠ some sc.names) : HdOk pc N Ce cf hl C X sc W where
  one := fun k e q => by
    simp only [mE] at q
    split at q
    · simp only [Bool.and_eq_true, decide_eq_true_eq] at q
      exact absurd q.1.1.1.1.1 h
    · cases q
  all := fun i e q => by
    simp only [mE] at q
    split at q
    · simp only [Bool.and_eq_true, decide_eq_true_eq] at q
      exact absurd q.1.1.1.1.1.1.1.1.1.1 h
    · cases q
/-! ### one expression -/
def notBool : Expr → Bool
  | .BoolOp .. => false
  | _ => true
structure Good (Ce : Ec) (C : Cf) (W : WX) (X : Cx) (e : Expr) (f : Sg → R D) : Prop where
  pe : PE X e (tE Ce C W f)
  pt : PT X e (tT Ce C W f)
  pw : notBool e = false → PW X e (tT Ce C W f)
theorem Good.plain {e : Expr} {f : Sg → R D} (h : PE X e (tE Ce C W f)) (p : plainT e = true) : Good Ce C W X e f :=
  ⟨h, pt_imp (pt_tests h p) tT_of, fun q => by cases e <;> first | (cases q; done) | (cases p; done)⟩
theorem Good.to {e : Expr} {f g : Sg → R D} (h : Good Ce C W X e f) (q : f = g) : Good Ce C W X e g := q ▸ h
theorem un_bool {nm : Nm} {o : UnO} {e b : Expr} (h : unE nm sc o e = some b) : notBool e = true := by
  cases e <;> first | rfl | (cases o <;> cases h)
theorem bin_bool {nm : Nm} {o : BinO} {e : Expr} {b : Expr × Expr} (h : binE nm sc o e = some b) : notBool e = true := by
  cases e <;> first | rfl | cases h
theorem g_un {o : UnO} {e b : Expr} {f : Sg → R D} (x : XC pc N Ce lv cf C X sc W) (h : unE pc.nm sc o e = some b) (g : Good Ce C W X b f) : Good Ce C W X e fun s => (f s).bind fun d s1 => R.ofOpt (unD o d) s1 := by
  obtain ⟨r, ho, hr⟩ := un_form x.nm h
  exact ⟨pe_imp (hr _ g.pe).1 (tE_un x.K ho), pt_imp (hr _ g.pe).2 (fun σ H Q q => tE_un x.K ho σ H _ (tT_of σ H Q q)), fun q => by rw [un_bool h] at q; cases q⟩
theorem g_bin {o : BinO} {e a b : Expr} {f g : Sg → R D} (x : XC pc N Ce lv cf C X sc W) (h : binE pc.nm sc o e = some (a, b)) (ga : Good Ce C W X a f) (gb : Good Ce C W X b g) : Good Ce C W X e fun s => (f s).bind fun d s1 => (g s1).bind fun e s2 => R.ofOpt (binD o d e) s2 := by
  obtain ⟨r, ho, hr⟩ := bin_form x.nm h
  exact ⟨pe_imp (hr _ _ ga.pe gb.pe).1 (tE_op x.K ho rfl rfl), pt_imp (hr _ _ ga.pe gb.pe).2 (fun σ H Q q => tE_op x.K ho rfl rfl σ H _ (tT_of σ H Q q)), fun q => by rw [bin_bool h] at q; cases q⟩
theorem g_not {a : Expr} {pos : Pos} {f : Sg → R D} (g : Good Ce C W X a f) : Good Ce C W X (.UnaryOp .Not a pos) fun s => (f s).bind fun d s1 => R.ofOpt (unD .not d) s1 := ⟨x_not g.pe, x_notT g.pt, fun q => by cases q⟩
theorem g_ite {c a b : Expr} {pos : Pos} {h f g : Sg → R D} (gc : Good Ce C W X c h) (ga : Good Ce C W X a f) (gb : Good Ce C W X b g) : Good Ce C W X (.IfExp c a b pos) fun s => (boolR (h s)).bind fun t s1 => if t then f s1 else g s1 :=
  ⟨x_ite gc.pt ga.pe gb.pe, x_iteT gc.pt ga.pt gb.pt, fun q => by cases q⟩
theorem pw_pt {e : Expr} {t : TT} (h : PW X e t) : PT X e t := ⟨fun pins s σ H Q I q => h.run _ pins s σ H Q I q⟩
theorem rest_pe {op : BoolOp} {pos : Pos} {w : Expr} {r : List Expr} {t : TE} (h : PE X (restB op pos (w :: r)) t) : PE X (.BoolOp op (w :: r) pos) t := by
  cases r with
  | nil => exact pe_one h
  | cons _ _ => exact h
theorem rest_and {pos : Pos} {w : Expr} {r : List Expr} {f : Sg → R D} (h : Good Ce C W X (restB .And pos (w :: r)) f) : PW X (.BoolOp .And (w :: r) pos) (tT Ce C W f) := by
  cases r with
  | nil => exact pw_and1 h.pt
  | cons _ _ => exact h.pw rfl
theorem rest_or {pos : Pos} {w : Expr} {r : List Expr} {f : Sg → R D} (h : Good Ce C W X (restB .Or pos (w :: r)) f) : PW X (.BoolOp .Or (w :: r) pos) (tT Ce C W f) := by
  cases r with
  | nil => exact pw_or1 h.pt
  | cons _ _ => exact h.pw rfl
theorem g_and {a w : Expr} {r : List Expr} {pos : Pos} {f g : Sg → R D} (ga : Good Ce C W X a f) (gb : Good Ce C W X (restB .And pos (w :: r)) g) : Good Ce C W X (.BoolOp .And (a :: w :: r) pos) fun s => (boolR (f s)).bind fun c s1 => if c then g s1 else .ok (.bool false) s1 := by
  have q := x_andT ga.pt (rest_and gb)
  exact ⟨x_and ga.pe (rest_pe gb.pe), pw_pt q, fun _ => q⟩
theorem g_or {a w : Expr} {r : List Expr} {pos : Pos} {f g : Sg → R D} (ga : Good Ce C W X a f) (gb : Good Ce C W X (restB .Or pos (w :: r)) g) : Good Ce C W X (.BoolOp .Or (a :: w :: r) pos) fun s => (boolR (f s)).bind fun c s1 => if c then .ok (.bool true) s1 else g s1 := by
  have q := x_orT ga.pt (rest_or gb)
  exact ⟨x_or ga.pe (rest_pe gb.pe), pw_pt q, fun _ => q⟩
theorem set_last {p p' : CmpOp} {y z : Expr} (h : notSet z = true) : lastMarks [p, p'] [y, z] = false := by
  cases z <;> first | rfl | cases h
theorem g_chain {o o' : BinO} {p p' : CmpOp} {a b c : Expr} {pos : Pos} {f g h : Sg → R D} (x : XC pc N Ce lv cf C X sc W) (h1 : opB o p = true) (h2 : opB o' p' = true) (hs : notSet c = true) (ga : Good Ce C W X a f) (gb : Good Ce C W X b g) (gc : Good Ce C W X c h) :
    Good Ce C W X (.Compare a [p, p'] [b, c] pos) fun s => (f s).bind fun d s1 => (g s1).bind fun e s2 => (boolR (R.ofOpt (binD o d e) s2)).bind fun t s3 => if t then (h s3).bind fun k s4 => R.ofOpt (binD o' e k) s4 else .ok (.bool false) s3 := by
  obtain ⟨r, r1, r2⟩ := op_of (X := X) x.nm.un h1
  obtain ⟨r', r3, r4⟩ := op_of (X := X) x.nm.un h2
  refine ⟨pe_imp (pe_chain r1 r3 ga.pe gb.pe gc.pe (set_last hs)) (tE_chain x.K r2 r4), pt_imp (pt_chain r1 r3 ga.pe gb.pe gc.pe (set_last hs)) (fun σ H Q q => tE_chain x.K r2 r4 σ H _ (tT_of σ H Q q)), fun q => by cases q⟩
/-! ### lists -/
variable (Ce C W X cf hl) in
def AllA : List Ex → List Expr → Prop
  | [], [] => True
  | i :: is, e :: es => notStar e = true ∧ PE X e (tE Ce C W (evalE cf hl i)) ∧ PE X e (tA Ce C W fun s => argOf i s (evalE cf hl i s)) ∧ AllA is es
  | _, _ => False
theorem AllA.len : ∀ {is : List Ex} {es : List Expr}, AllA Ce cf hl C X W is es → is.length = es.length
  | [], [], _ => rfl
  | i :: is, e :: es, h => by simp [AllA.len h.2.2.2]
  | [], _ :: _, h => h.elim
  | _ :: _, [], h => h.elim
theorem AllA.star : ∀ {is : List Ex} {es : List Expr}, AllA Ce cf hl C X W is es → es.all notStar = true
  | [], [], _ => rfl
  | i :: is, e :: es, h => by rw [List.all_cons, h.1, AllA.star h.2.2.2]; rfl
  | [], _ :: _, h => h.elim
  | _ :: _, [], h => h.elim
theorem AllA.pa : ∀ {is : List Ex} {es : List Expr}, AllA Ce cf hl C X W is es → PA X es (tEs Ce C W (evalEs cf hl is))
  | [], [], _ => x_nil
  | i :: is, e :: es, h => x_cons h.2.1 h.2.2.2.pa h.1
  | [], _ :: _, h => h.elim
  | _ :: _, [], h => h.elim
theorem AllA.paa : ∀ {is : List Ex} {es : List Expr}, AllA Ce cf hl C X W is es → PA X es (tAs Ce C W (evalAs cf hl is))
  | [], [], _ => x_anil
  | i :: is, e :: es, h => x_acons h.2.2.1 h.2.2.2.paa h.1
  | [], _ :: _, h => h.elim
  | _ :: _, [], h => h.elim
theorem AllA.pk : ∀ {is : List Ex} {kws : List Keyword}, AllA Ce cf hl C X W is (kws.map (·.value)) → PK X kws (tAs Ce C W (evalAs cf hl is))
  | [], [], _ => x_knil
  | i :: is, ⟨a, v, p⟩ :: es, h => x_kcons h.2.2.1 (AllA.pk h.2.2.2)
  | [], _ :: _, h => h.elim
  | _ :: _, [], h => h.elim
theorem AllA.split : ∀ {is : List Ex} {as bs : List Expr}, AllA Ce cf hl C X W is (as ++ bs) → ∃ i1 i2, is = i1 ++ i2 ∧ AllA Ce cf hl C X W i1 as ∧ AllA Ce cf hl C X W i2 bs
  | is, [], bs, h => ⟨[], is, rfl, trivial, h⟩
  | [], _ :: _, _, h => h.elim
  | i :: is, a :: as, bs, h => by
    obtain ⟨i1, i2, e, h1, h2⟩ := AllA.split h.2.2.2
    exact ⟨i :: i1, i2, by rw [e]; rfl, ⟨h.1, h.2.1, h.2.2.1, h1⟩, h2⟩
theorem R.bind_ok {α β : Type} {r : R α} {k : α → Sg → R β} {b : β} {s : Sg} (h : r.bind k = .ok b s) : ∃ a s1, r = .ok a s1 ∧ k a s1 = .ok b s := by
  cases r with
  | ok a s1 => exact ⟨a, s1, rfl, h⟩
  | er _ _ _ => cases h
  | no => cases h
theorem evalEs_len : ∀ {is : List Ex} {S S' : Sg} {ds : List D}, evalEs cf hl is S = .ok ds S' → ds.length = is.length
  | [], _, _, _, h => by cases h; rfl
  | i :: is, _, _, _, h => by
    obtain ⟨d, s1, _, h⟩ := R.bind_ok h
    obtain ⟨ds, s2, h1, h⟩ := R.bind_ok h
    cases h
    simp [evalEs_len h1]
theorem evalAs_len : ∀ {is : List Ex} {S S' : Sg} {ds : List Sl}, evalAs cf hl is S = .ok ds S' → ds.length = is.length
  | [], _, _, _, h => by cases h; rfl
  | i :: is, _, _, _, h => by
    obtain ⟨d, s1, _, h⟩ := R.bind_ok h
    obtain ⟨ds, s2, h1, h⟩ := R.bind_ok h
    cases h
    simp [evalAs_len h1]
theorem R.bind_assoc {α β γ : Type} {r : R α} {k : α → Sg → R β} {l : β → Sg → R γ} : (r.bind k).bind l = r.bind fun a s => (k a s).bind l := by cases r <;> rfl
theorem evalAs_app : ∀ {i1 i2 : List Ex} {S : Sg}, evalAs cf hl (i1 ++ i2) S = (evalAs cf hl i1 S).bind fun xs s1 => (evalAs cf hl i2 s1).bind fun ys s2 => .ok (xs ++ ys) s2
  | [], i2, S => by
    show evalAs cf hl i2 S = (evalAs cf hl i2 S).bind fun ys s2 => .ok ys s2
    cases evalAs cf hl i2 S <;> rfl
  | i :: i1, i2, S => by
    show ((argOf i S (evalE cf hl i S)).bind fun d s1 => (evalAs cf hl (i1 ++ i2) s1).bind fun ds s2 => .ok (d :: ds) s2) = ((argOf i S (evalE cf hl i S)).bind fun d s1 => (evalAs cf hl i1 s1).bind fun ds s2 => .ok (d :: ds) s2).bind _
    rw [R.bind_assoc]
    congr 1
    funext d s1
    rw [evalAs_app, R.bind_assoc, R.bind_assoc]
    congr 1
    funext ds s2
    rw [R.bind_assoc]
    rfl
end
end Pv

/-! Pv15: the main induction over expressions. -/
namespace Pv
open PySem L2
section
variable (pc : Pc) (N : List Str) (Ce : Ec) (lv : Nat) (cf : Nat → List Sl → G → CR) (hl : Nat → Sg → R D)
theorem and3 {a b c : Bool} (h : (a && b && c) = true) : a = true ∧ b = true ∧ c = true := by
  rw [Bool.and_eq_true, Bool.and_eq_true] at h
  exact ⟨h.1.1, h.1.2, h.2⟩
mutual
theorem okE : ∀ (i : Ex) {C : Cf} {X : Cx} {sc : Scope} {W : WX} {e : Expr}, XC pc N Ce lv cf C X sc W → HdOk pc N Ce cf hl C X sc W → mE pc N sc i e = true → Good Ce C W X e (evalE cf hl i)
  | .var i, C, X, sc, W, e, x, dh, h => by
    simp only [mE] at h
    exact .plain (x_var x h) (name_plain h).1
  | .k d, C, X, sc, W, e, x, dh, h => by
    simp only [mE] at h
    exact .plain (x_const h) (const_plain h)
  | .gl y d, C, X, sc, W, e, x, dh, h => by
    simp only [mE] at h
    split at h
    · exact .plain (x_glob x h) rfl
    · cases h
  | .tup es, C, X, sc, W, e, x, dh, h => by
    simp only [mE] at h
    split at h
    · rw [Bool.and_eq_true, decide_eq_true_eq] at h
      have a := okEs es x dh h.1
      refine .plain (x_tup (x1 := true) a.pa fun S ds S' q => ?_) rfl
      rw [evalEs_len q, a.len]; exact h.2
    · cases h
  | .lst es, C, X, sc, W, e, x, dh, h => by
    simp only [mE] at h
    split at h
    · rw [Bool.and_eq_true, decide_eq_true_eq] at h
      have a := okEs es x dh h.1
      refine .plain (x_lst a.pa fun S ds S' q => ?_) rfl
      rw [evalEs_len q, a.len]; exact h.2
    · cases h
  | .un o a, C, X, sc, W, e, x, dh, h => by
    simp only [mE] at h
    split at h
    · exact g_not (okE a x dh h)
    · split at h
      · rename_i b hb
        exact g_un x hb (okE a x dh h)
      · cases h
  | .bin o a b, C, X, sc, W, e, x, dh, h => by
    simp only [mE] at h
    split at h
    · rename_i y z hb
      rw [Bool.and_eq_true] at h
      exact g_bin x hb (okE a x dh h.1) (okE b x dh h.2)
    · cases h
  | .and_ a b, C, X, sc, W, e, x, dh, h => by
    simp only [mE] at h
    split at h
    · rw [Bool.and_eq_true] at h
      exact g_and (okE a x dh h.1) (okE b x dh h.2)
    · cases h
  | .or_ a b, C, X, sc, W, e, x, dh, h => by
    simp only [mE] at h
    split at h
    · rw [Bool.and_eq_true] at h
      exact g_or (okE a x dh h.1) (okE b x dh h.2)
    · cases h
  | .chain o o' a b c, C, X, sc, W, e, x, dh, h => by
    simp only [mE] at h
    split at h
    · simp only [Bool.and_eq_true] at h
      obtain ⟨⟨⟨⟨⟨h1, h2⟩, h3⟩, h4⟩, h5⟩, h6⟩ := h
      exact g_chain x h1 h2 h3 (okE a x dh h4) (okE b x dh h5) (okE c x dh h6)
    · cases h
  | .ite c a b, C, X, sc, W, e, x, dh, h => by
    simp only [mE] at h
    split at h
    · obtain ⟨h1, h2, h3⟩ := and3 h
      exact g_ite (okE c x dh h1) (okE a x dh h2) (okE b x dh h3)
    · cases h
  | .slice a lo hi, C, X, sc, W, e, x, dh, h => by
    simp only [mE] at h
    split at h
    · obtain ⟨h1, h2, h3⟩ := and3 h
      exact .plain (x_slice x.K (okE a x dh h1).pe (okO lo x dh h2) (okO hi x dh h3)) rfl
    · cases h
  | .call f nd es, C, X, sc, W, e, x, dh, h => by
    simp only [mE] at h
    split at h
    · rename_i y p as pos
      split at h
      · rename_i z n k hf
        simp only [Bool.and_eq_true, decide_eq_true_eq] at h
        obtain ⟨⟨⟨⟨⟨⟨h1, h2⟩, h3⟩, h4⟩, h5⟩, h6⟩, h7⟩ := h
        subst h1
        have a := okEs es x dh h7
        cases as with
        | nil => cases h6
        | cons e as =>
          refine .plain (x_call x hf h2 h3 h5 (fun S xs S' q => ?_) a.paa a.star) rfl
          rw [evalAs_len q]; exact h4
      · cases h
    · cases h
  | .callk f perm es, C, X, sc, W, e, x, dh, h => by
    simp only [mE] at h
    split at h
    · rename_i y p as kws pos
      split at h
      · rename_i z n k hf
        simp only [Bool.and_eq_true, decide_eq_true_eq] at h
        obtain ⟨⟨⟨⟨⟨⟨⟨⟨⟨h1, h2⟩, h3⟩, h4⟩, h5⟩, h6⟩, h7⟩, h8⟩, h9⟩, h10⟩ := h
        subst h1
        obtain ⟨i1, i2, e12, a1, a2⟩ := (okEs es x dh h10).split
        obtain ⟨q, hq, eq⟩ := List.any_eq_true.mp h9
        rw [decide_eq_true_eq] at eq
        subst eq
        have st : as.all notStar = true := a1.star
        have r := x_callk x (as := as) (kws := kws) (perm := perm) (f1 := evalAs cf hl i1) (f2 := evalAs cf hl i2) hf h2 h3 h6 hq h7
          (fun z => by
            have l := a1.len
            rw [z] at l
            have : i1 = [] := List.length_eq_zero_iff.mp l
            rw [this]; rfl) (fun S xs S' q => by rw [evalAs_len q, a1.len]) (fun S xs S' q => by rw [evalAs_len q, a2.len, List.length_map]) a1.paa a2.pk st (pos := pos) (p := p)
        refine .plain ?_ rfl
        have e3 : (fun s => (evalAs cf hl i1 s).bind fun xs s1 => (evalAs cf hl i2 s1).bind fun ys s2 => (cf f (perm.map fun j => (xs ++ ys).getD j (.dat .none)) s2.g).to s2) = evalE cf hl (.callk f perm es) := by
          funext s
          rw [e12]
          show _ = (evalAs cf hl (i1 ++ i2) s).bind _
          rw [evalAs_app, R.bind_assoc]
          congr 1
          funext xs s1
          rw [R.bind_assoc]
          rfl
        rw [← e3]
        exact r
      · cases h
    · cases h
  | .lc own tg it test elt, C, X, sc, W, e, x, dh, h => by
    simp only [mE] at h
    split at h
    · rename_i elt' tg' it' ifs scope pos
      simp only [Bool.and_eq_true] at h
      rw [decide_eq_true_eq] at h
      obtain ⟨⟨⟨⟨⟨⟨h0, h1⟩, h2⟩, h3⟩, h4⟩, h5⟩, h6⟩ := h
      have q := x_lc (pos := pos) x ⟨h1, okI it tg x dh h4, h3, tg_own h2, fun s H A cl fp => tg_blk x h2 s H A cl fp, fun C' hK s H A cl fp => okT test (x.blk hK s H A cl fp) (HdOk.no h0) h5, fun C' hK s H A cl fp => (okE elt (x.blk hK s H A cl fp) (HdOk.no h0) h6).pe⟩
      refine .plain (pe_imp q fun σ H Q z => ?_) rfl
      cases test <;> exact z
    · cases h
  | .bun o i, C, X, sc, W, e, x, dh, h => by
    simp only [mE] at h
    split at h
    · rename_i b hb
      have q := x_bun x hb h
      exact ⟨q.1, q.2, fun z => by rw [un_bool hb] at z; cases z⟩
    · cases h
  | .bnil ne i, C, X, sc, W, e, x, dh, h => by
    simp only [mE] at h
    split at h
    · rw [Bool.and_eq_true] at h
      rename_i op lp pos
      have q := x_bnil (pos := pos) (lp := lp) x h.1 h.2
      exact ⟨q.1, q.2, fun z => by cases z⟩
    · cases h
  | .btup i, C, X, sc, W, e, x, dh, h => by
    simp only [mE] at h
    split at h
    · rename_i b hb
      have q := x_btup x hb h
      obtain ⟨p, pos, rfl, _⟩ := tup_un hb
      exact .plain q rfl
    · cases h
  | .bidx i a, C, X, sc, W, e, x, dh, h => by
    simp only [mE] at h
    split at h
    · rename_i y z hb
      rw [Bool.and_eq_true] at h
      obtain ⟨pos, rfl, hs⟩ := idx_bin hb
      exact .plain (x_bidx x h.1 (okE a x dh h.2).pe hs) rfl
    · cases h
  | .pop i a, C, X, sc, W, e, x, dh, h => by
    simp only [mE] at h
    split at h
    · simp only [Bool.and_eq_true, decide_eq_true_eq] at h
      obtain ⟨⟨⟨⟨h1, h2⟩, h3⟩, h4⟩, h5⟩ := h
      subst h1
      exact .plain (x_pop x h2 h3 h4 (okE a x dh h5).pe) rfl
    · cases h
  | .heard k, C, X, sc, W, e, x, dh, h => .plain (dh.one k e h) (by
    simp only [mE] at h
    split at h
    · rfl
    · cases h)
  | .heardAll k, C, X, sc, W, e, x, dh, h => .plain (dh.all k e h) (by
    simp only [mE] at h
    split at h
    · rfl
    · cases h)
theorem okEs : ∀ (is : List Ex) {C : Cf} {X : Cx} {sc : Scope} {W : WX} {es : List Expr}, XC pc N Ce lv cf C X sc W → HdOk pc N Ce cf hl C X sc W → mEs pc N sc is es = true → AllA Ce cf hl C X W is es
  | [], C, X, sc, W, [], x, dh, h => trivial
  | i :: is, C, X, sc, W, e :: es, x, dh, h => by
    simp only [mEs] at h
    obtain ⟨h1, h2, h3⟩ := and3 h
    have g := okE i x dh h2
    refine ⟨h1, g.pe, x_arg x (fun j hj => ?_) g.pe, okEs is x dh h3⟩
    subst hj
    simp only [mE] at h2
    exact h2
  | [], C, X, sc, W, _ :: _, x, dh, h => by simp only [mEs] at h; cases h
  | _ :: _, C, X, sc, W, [], x, dh, h => by simp only [mEs] at h; cases h
theorem okO : ∀ (i : Option Ex) {C : Cf} {X : Cx} {sc : Scope} {W : WX} {e : Option Expr}, XC pc N Ce lv cf C X sc W → HdOk pc N Ce cf hl C X sc W → mO pc N sc i e = true → PO X e (tO Ce C W (evalO cf hl i))
  | none, C, X, sc, W, none, x, dh, h => x_onone
  | some i, C, X, sc, W, some e, x, dh, h => by
    simp only [mO] at h
    exact x_osome (okE i x dh h).pe
  | none, C, X, sc, W, some _, x, dh, h => by simp only [mO] at h; cases h
  | some _, C, X, sc, W, none, x, dh, h => by simp only [mO] at h; cases h
theorem okT : ∀ (i : Option Ex) {C : Cf} {X : Cx} {sc : Scope} {W : WX} {e : List Expr}, XC pc N Ce lv cf C X sc W → HdOk pc N Ce cf hl C X sc W → mT pc N sc i e = true → PTs X e (tB Ce C W fun s => match i with
      | none => .ok true s
      | some t => boolR (evalE cf hl t s))
  | none, C, X, sc, W, [], x, dh, h => ⟨fun pins s σ H Q I ⟨O, S, E, p⟩ => pts_nil.run pins s σ H Q I (p true H O (Go.refl E) rfl)⟩
  | some i, C, X, sc, W, [e], x, dh, h => by
    simp only [mT] at h
    exact pts_one (okE i x dh h).pt
  | none, C, X, sc, W, _ :: _, x, dh, h => by simp only [mT] at h; cases h
  | some _, C, X, sc, W, [], x, dh, h => by simp only [mT] at h; cases h
  | some _, C, X, sc, W, _ :: _ :: _, x, dh, h => by simp only [mT] at h; cases h
theorem okI : ∀ (i : It) (tg : Tg) {C : Cf} {X : Cx} {sc : Scope} {W : WX} {t e : Expr}, XC pc N Ce lv cf C X sc W → HdOk pc N Ce cf hl C X sc W → mI pc N sc tg i t e = true → PI X t e (tI Ce C W (evalI cf hl i))
  | .seq i, tg, C, X, sc, W, t, e, x, dh, h => by
    simp only [mI] at h
    rw [Bool.and_eq_true] at h
    exact i_seq x.K (okE i x dh h.2).pe
  | .rng i, tg, C, X, sc, W, t, e, x, dh, h => by
    simp only [mI] at h
    split at h
    · obtain ⟨h1, h2, h3⟩ := and3 h
      obtain ⟨e1, hg, hm⟩ := bi_of x.nm h1
      subst e1
      exact i_rng hg hm h2 (okE i x dh h3).pe
    · cases h
  | .rng2 i j, tg, C, X, sc, W, t, e, x, dh, h => by
    simp only [mI] at h
    split at h
    · simp only [Bool.and_eq_true] at h
      obtain ⟨⟨⟨⟨h1, h2⟩, h3⟩, h4⟩, h5⟩ := h
      obtain ⟨e1, hg, hm⟩ := bi_of x.nm h1
      subst e1
      exact i_rng2 hg hm h2 h3 (okE i x dh h4).pe (okE j x dh h5).pe
    · cases h
  | .zip i j, tg, C, X, sc, W, t, e, x, dh, h => by
    simp only [mI] at h
    split at h
    · simp only [Bool.and_eq_true] at h
      obtain ⟨⟨⟨⟨⟨h0, h1⟩, h2⟩, h3⟩, h4⟩, h5⟩ := h
      obtain ⟨e1, hg, hm⟩ := bi_of x.nm h1
      subst e1
      cases t <;> first | exact i_zip x.K hg hm h2 h3 (okE i x dh h4).pe (okE j x dh h5).pe | cases h0
    · cases h
  | .enum i, tg, C, X, sc, W, t, e, x, dh, h => by
    simp only [mI] at h
    split at h
    · simp only [Bool.and_eq_true] at h
      obtain ⟨⟨⟨h0, h1⟩, h2⟩, h3⟩ := h
      obtain ⟨e1, hg, hm⟩ := bi_of x.nm h1
      subst e1
      cases t <;> first | exact i_enum x.K hg hm h2 (okE i x dh h3).pe | cases h0
    · cases h
  | .scr i, tg, C, X, sc, W, t, e, x, dh, h => by
    simp only [mI] at h
    exact i_scr x h
  | .enumScr i, tg, C, X, sc, W, t, e, x, dh, h => by
    simp only [mI] at h
    split at h
    · obtain ⟨h0, h1, h2⟩ := and3 h
      obtain ⟨e1, hg, hm⟩ := bi_of x.nm h1
      subst e1
      cases t <;> first | exact i_enumScr x hg hm h2 | cases h0
    · cases h
end
end
end Pv

/-! Pv16: statements: what is wanted, the rules. -/
namespace Pv
open PySem L2
/-- from here on, with what has become our own -/
structure GoS (O O' : Addr → Prop) (H H' : Hp) : Prop where
  sub : ∀ b, O' b → O b ∨ NP H b
  ext : Ext O H H'
theorem GoS.refl (O : Addr → Prop) (H : Hp) : GoS O O H H := ⟨fun _ h => .inl h, .refl _ _⟩
theorem GoS.trans {O O1 O2 : Addr → Prop} {H H1 H2 : Hp} (a : GoS O O1 H H1) (b : GoS O1 O2 H1 H2) : GoS O O2 H H2 where
  sub := fun c h => by
    rcases b.sub c h with z | z
    · exact a.sub c z
    · by_cases ho : O c
      · exact .inl ho
      · exact .inr fun o t e => z o t (a.ext.keep c o ho t e)
  ext := ⟨fun c o n t e => b.ext.keep c o (fun z => (a.sub c z).elim n fun q => q o t e) t (a.ext.keep c o n t e)⟩
theorem GoS.vis {O O' : Addr → Prop} {H H' : Hp} (g : GoS O O' H H') : Sub (vis O H) (vis O' H') := fun b o q => by
  obtain ⟨h1, h2, h3⟩ := of_vis q
  exact vis_of (fun z => (g.sub b z).elim h1 fun w => w o h2 h3) h2 (g.ext.keep b o h1 h2 h3)
theorem Go.s {C : Cf} {O O' : Addr → Prop} {σ : L2.St} {H H' : Hp} {S : Sg} (g : Go C O O' σ H H' S) : GoS O O' H H' := ⟨fun b h => .inl (g.sub b h), g.ext⟩
def PostF (Ce : Ec) (C : Cf) (W : WX) (O : Addr → Prop) (H : Hp) (D : Ends) : Fl → Prop
  | .nx s => ∀ σ' H' O', GoS O O' H H' → EOk C O' σ' H' s → D.nx σ' H'
  | .bk s => ∀ σ' H' O', GoS O O' H H' → EOk C O' σ' H' s → D.bk σ' H'
  | .ct s => ∀ σ' H' O', GoS O O' H H' → EOk C O' σ' H' s → D.ct σ' H'
  | .rt d g => ∀ v H', Aft C.tb C.W C.H0 H' g → Rp C.K (vis C.O0 H') v d → D.rt v H'
  | .er c d s => ∀ σ' dd v H' O', EOk C O' σ' H' s → H' dd = some (.xd [(Ce.att c, v)]) → Rp C.K (vis O' H') v d → W (.ref (Ce.cls c)) (some dd) σ' H'
  | .no => False
def tS (Ce : Ec) (C : Cf) (W : WX) (f : Sg → Fl) : TS := fun D σ H => ∃ O S, EOk C O σ H S ∧ PostF Ce C W O H D (f S)
section
variable {Ce : Ec} {C : Cf} {W : WX} {O O' : Addr → Prop} {σ : L2.St} {H H' : Hp} {D : Ends}
theorem PostF.later {r : Fl} (p : PostF Ce C W O H D r) (g : GoS O O' H H') : PostF Ce C W O' H' D r := by
  cases r with
  | nx s => exact fun σ2 H2 O2 g2 => p σ2 H2 O2 (g.trans g2)
  | bk s => exact fun σ2 H2 O2 g2 => p σ2 H2 O2 (g.trans g2)
  | ct s => exact fun σ2 H2 O2 g2 => p σ2 H2 O2 (g.trans g2)
  | rt d s => exact p
  | er c d s => exact p
  | no => exact p
theorem PostF.bind {α β : Type} {Rl : (Addr → Prop) → Hp → β → α → Prop} {Q1 : β → Hp → Prop} {r : R α} {k : α → Sg → Fl} (p : PostF Ce C W O H D (r.fl k))
    (h : ∀ d S' v H' O', r = .ok d S' → Go C O O' σ H H' S' → Rl O' H' v d → PostF Ce C W O' H' D (k d S') → Q1 v H') : Post Ce C W Rl O σ H Q1 r := by
  cases r with
  | ok d S' => exact fun v H2 O2 g2 rl => h d S' v H2 O2 rfl g2 rl (PostF.later (r := k d S') p g2.s)
  | er c d S' => exact fun dd v H2 O2 g2 h1 h2 => p σ dd v H2 O2 g2.ok h1 h2
  | no => exact p
/-- an expression whose value is stored as our own -/
theorem PostF.bindO {Q1 : V → Hp → Prop} {r : R (List Pv.D)} {k : List Pv.D → Sg → Fl} (p : PostF Ce C W O H D (r.fl k))
    (h : ∀ d S' a vs H' O', r = .ok d S' → (∀ b, O' b → O b) → Ext O H H' → (O a ∨ NP H a) → Fresh C O' σ H' S' a vs d → (∀ b, C.O0 b → O' b) → PostF Ce C W O H D (k d S') → Q1 (.ref a) H') : PostO Ce C W O σ H Q1 r := by
  cases r with
  | ok d S' => exact fun a vs H2 O2 s e n F h0 => h d S' a vs H2 O2 rfl s e n F h0 p
  | er c d S' => exact fun dd v H2 O2 g2 h1 h2 => p σ dd v H2 O2 g2.ok h1 h2
  | no => exact p
theorem PostF.seq {r : Fl} {k : Sg → Fl} (p : PostF Ce C W O H D (r.seq k)) : PostF Ce C W O H { D with nx := tS Ce C W k D } r := by
  cases r with
  | nx s => exact fun σ2 H2 O2 g2 E => ⟨O2, s, E, PostF.later (r := k s) p g2⟩
  | bk s => exact p
  | ct s => exact p
  | rt d s => exact p
  | er c d s => exact p
  | no => exact p
end
/-- a lambda made: number k -/
def tLamN (C : Cf) (k : Nat) : TE := fun σ H Q => ∃ O S, EOk C O σ H S ∧ ∀ f H1, EOk C O σ H1 S → Ext O H H1 → C.lm k f (vis O H1) → Q (.ref f) H1
/-- where a def's statements stand -/
structure XD (pc : Pc) (N : List Str) (Ce : Ec) (lv : Nat) (cf : Nat → List Sl → G → CR) (hl : Nat → Sg → R D) (C : Cf) (X : Cx) (sc : Scope) (W : WX) : Prop extends XC pc N Ce lv cf C X sc W where
  hd0 : HdOk pc N Ce cf hl C X X.env.scope W
  lam : pc.lsc = some X.env.scope.names → ∀ k l, pc.ml X.env.scope k l = true → PE X l (tLamN C k)
  fn : ∀ y, X.fn y = true
  kind : X.env.scope.kind = .function
  own : PassesOwn (model X.prog X.w) X.A X.env X.xe
theorem XD.hd {pc : Pc} {N : List Str} {Ce : Ec} {lv : Nat} {cf : Nat → List Sl → G → CR} {hl : Nat → Sg → R D} {C : Cf} {X : Cx} {sc : Scope} {W : WX} (x : XD pc N Ce lv cf hl C X sc W) : HdOk pc N Ce cf hl C X sc W := x.sc ▸ x.hd0
theorem ps_imp {X : Cx} {st : Stmt} {t t' : TS} (h : PS X st t) (i : ∀ D σ H, t' D σ H → t D σ H) : PS X st t' := ⟨fun pins s σ H D I q => h.run pins s σ H D I (i D σ H q)⟩
theorem pss_imp {X : Cx} {st : List Stmt} {t t' : TS} (h : PSs X st t) (i : ∀ D σ H, t' D σ H → t D σ H) : PSs X st t' := ⟨fun pins s σ H D I q => h.run pins s σ H D I (i D σ H q)⟩
/-! ### the checker -/
def locB (sc : Scope) (x : Str) : Bool := match sc.names.lookup x with
  | some .local => true
  | some .cell => true
  | _ => false
def lclB (sc : Scope) (x : Str) : Bool := match sc.names.lookup x with
  | some .local => true
  | _ => false
/-- a def's target -/
def tnB (N : List Str) (sc : Scope) (i : Nat) (e : Expr) : Bool := match e with
  | .Name x _ => decide (N[i]? = some x) && locB sc x
  | _ => false
def tgD (N : List Str) (sc : Scope) (t : Tg) (e : Expr) : Bool := match t with
  | .one i => tnB N sc i e
  | .many is => match e with
    | .Tuple es _ _ => all2 (tnB N sc) is es
    | _ => false
/-- no comprehension -/
def noComp : Expr → Bool
  | .ListComp .. => false
  | .SetComp .. => false
  | .DictComp .. => false
  | _ => true
/-- name = value -/
def swB (sc : Scope) (y : Str) (py : Pos) : Expr → Bool
  | .ListComp _ _ s p => (lclB sc y && (py.line == p.line) && !(s.names.any fun (n, k) => n == y && (k == .local || k == .cell))) || (decide (sc.names.lookup y = some .cell))
  | e => noComp e
def notTup : Expr → Bool
  | .Tuple .. => false
  | _ => true
/-- a tuple that is made and taken apart -/
def parB (sc : Scope) (ts : List Expr) (v : Expr) : Bool := match v with
  | .Tuple vs _ _ => vs.all (foldedForSure 8) || ts.any fun t => match t with
    | .Name x _ => decide (sc.names.lookup x = some .cell)
    | _ => false
  | _ => true
/-- fresh lists -/
def freshE : Ex → Bool
  | .lst _ => true
  | .lc .. => true
  | .un .list _ => true
  | .bin .mul (.lst _) _ => true
  | _ => false
section
variable {pc : Pc} {N : List Str} {Ce : Ec} {lv : Nat} {cf : Nat → List Sl → G → CR} {hl : Nat → Sg → R D} {C : Cf} {X : Cx} {sc : Scope} {W : WX}
theorem loc_of {x : Str} (hs : X.env.scope = sc) (h : locB sc x = true) : Loc X.env.scope x := by
  subst hs
  unfold locB at h
  split at h
  · exact .inl (by assumption)
  · exact .inr (by assumption)
  · cases h
theorem lcl_of {x : Str} (hs : X.env.scope = sc) (h : lclB sc x = true) : X.env.scope.names.lookup x = some .local := by
  subst hs
  unfold lclB at h
  split at h
  · assumption
  · cases h
theorem tn_good (x : XD pc N Ce lv cf hl C X sc W) {i : Nat} {e : Expr} (h : tnB N sc i e = true) : NmGood X i e := by
  unfold tnB at h
  split at h
  · rename_i y p
    rw [Bool.and_eq_true, decide_eq_true_eq] at h
    exact ⟨y, p, rfl, by rw [x.hN]; exact h.1, loc_of x.sc h.2, .inl (x.fn y)⟩
  · cases h
theorem tg_good (x : XD pc N Ce lv cf hl C X sc W) {t : Tg} {e : Expr} (h : tgD N sc t e = true) : PG X e (gOf X.K t) := by
  refine pg_of (by rw [x.hN]; exact x.nd) x.calm ?_
  unfold tgD at h
  cases t with
  | one i => exact tn_good x h
  | many is =>
    simp only at h
    split at h
    · rename_i es k p
      exact ⟨es, k, p, rfl, all2_forall (fun _ _ => tn_good x) h⟩
    · cases h
theorem bk_fn (x : XD pc N Ce lv cf hl C X sc W) : X.env.blockKind = .function := by unfold Env.blockKind; rw [x.kind]; rfl
theorem sw_no {v : Expr} {t : Option Expr} {l : Nat} {env : Env} (h : noComp v = true) : swapsWith v t l env = pure false := by
  cases v <;> first | rfl | cases h
theorem sw_tup {v : Expr} {es : List Expr} {k p} {l : Nat} {env : Env} : swapsWith v (some (.Tuple es k p)) l env = pure false := by
  cases v <;> rfl
theorem sw_sub {v a b : Expr} {p} {l : Nat} {env : Env} : swapsWith v (some (.Subscript a b p)) l env = pure false := by
  cases v <;> rfl
theorem sw_cell {elt : Expr} {gs : List Comprehension} {scope : Scope} {pos py : Pos} {y : Str} {l : Nat} {env : Env} (hy : env.scope.names.lookup y = some .cell) : swapsWith (.ListComp elt gs scope pos) (some (.Name y py)) l env = pure false := by
  have ky : env.kindOf y = some .cell := hy
  unfold swapsWith
  simp only [ky]
  cases env.blockKind <;> rfl
theorem stores_notTup {ts : List Expr} {v : Expr} {k p} {env : Env} (h : notTup v = true) : swappedStores [.Tuple ts k p] v env = pure none := by
  cases v <;> first | rfl | cases h
theorem stores_one {t v : Expr} {env : Env} (h : ∀ ts k p, t ≠ .Tuple ts k p) (h2 : ∀ ts p, t ≠ .List ts p) : swappedStores [t] v env = pure none := by
  cases t <;> first | rfl | exact absurd rfl (h _ _ _) | exact absurd rfl (h2 _ _)
theorem stores_fold {ts vs : List Expr} {k p k2 p2} {env : Env} (h : vs.all (foldedForSure 8) = true) : swappedStores [.Tuple ts k p] (.Tuple vs k2 p2) env = pure none := by
  unfold swappedStores
  simp only [h]
  repeat (first | rfl | split)
theorem filterMap_lt {α β : Type} {f : α → Option β} : ∀ {l : List α}, (∃ a ∈ l, f a = none) → (l.filterMap f).length < l.length
  | [], h => by obtain ⟨a, h, _⟩ := h; cases h
  | b :: l, h => by
    rw [List.filterMap_cons]
    cases hb : f b with
    | none => exact Nat.lt_succ_of_le (List.length_filterMap_le f l)
    | some c =>
      obtain ⟨a, ha, hn⟩ := h
      rcases List.mem_cons.mp ha with e | e
      · subst e; rw [hb] at hn; cases hn
      · exact Nat.succ_lt_succ (filterMap_lt ⟨a, e, hn⟩)
theorem stores_cell {ts vs : List Expr} {k p k2 p2} {env : Env} (h : ∃ x q, Expr.Name x q ∈ ts ∧ env.kindOf x = some .cell) : swappedStores [.Tuple ts k p] (.Tuple vs k2 p2) env = pure none := by
  obtain ⟨x, q, hm, hk⟩ := h
  unfold swappedStores
  have key : ∀ line : Nat, ((ts.filterMap fun
    | .Name id pos => if env.kindOf id == some .local && pos.line == line then some id else none
    | _ => none).length != ts.length) = true := fun line => by
    have z := filterMap_lt (f := fun (e : Expr) => match e with
      | .Name id pos => if env.kindOf id == some .local && pos.line == line then some id else none
      | _ => none) (l := ts) ⟨_, hm, by simp only [hk]; rfl⟩
    rw [bne_iff_ne]
    omega
  dsimp only
  split
  · rfl
  · split
    · rfl
    · split
      · rfl
      · rename_i hneg
        exact absurd ((Bool.or_eq_true _ _).mpr (.inl (key _))) hneg
end
end Pv

/-! Pv17: fresh lists; the single statements. -/
namespace Pv
open PySem L2
theorem stores_two {x y : Str} {px py pt p2 : Pos} {kt k2 : Nat} {a b : Expr} {env : Env} (hb : env.blockKind = .function) (hx : env.kindOf x = some .local) (hy : env.kindOf y = some .local) (hl : px.line = py.line) (hn : x ≠ y)
    (ha : notStar a = true) (hb2 : notStar b = true) (hf : ([a, b].all (foldedForSure 8)) = false) (hc : ([a, b].all (constantsAlone 8)) = false) :
    swappedStores [.Tuple [.Name x px, .Name y py] kt pt] (.Tuple [a, b] k2 p2) env = pure (some [x, y]) := by
  have st : ([a, b].any fun | .Starred .. => true | _ => false) = false := by
    have s1 : ∀ e : Expr, notStar e = true → (match e with | .Starred .. => true | _ => false) = false := fun e h => by cases e <;> first | rfl | cases h
    rw [List.any_cons, List.any_cons, s1 a ha, s1 b hb2]; rfl
  have fm : ([Expr.Name x px, Expr.Name y py].filterMap fun
    | .Name id pos => if env.kindOf id == some .local && pos.line == px.line then some id else none
    | _ => none) = [x, y] := by
    simp only [List.filterMap_cons, List.filterMap_nil, hx, hy, hl]
    simp
  unfold swappedStores
  dsimp only
  split
  · rename_i h
    simp [hb] at h
  · split
    · rename_i h; exact absurd (st.symm.trans h) (by decide)
    · split
      · rename_i h
        exfalso
        have h2 : (([x, y] : List Str).length != ([Expr.Name x px, Expr.Name y py] : List Expr).length || ([x, y] : List Str).eraseDups.length != ([x, y] : List Str).length) = true := by
          rw [← fm]; exact h
        have e : ([x, y] : List Str).eraseDups = [x, y] := by
          simp [List.eraseDups_cons, Ne.symm hn]
        rw [e] at h2
        simp at h2
      · split
        · rename_i h; rw [hf] at h; cases h
        · split
          · rename_i h; rw [hc] at h; cases h
          · exact congrArg (fun l => pure (some l)) fm
theorem stores_three {x y z : Str} {px py pz pt p2 : Pos} {kt k2 : Nat} {a b c : Expr} {env : Env} (hb : env.blockKind = .function) (hx : env.kindOf x = some .local) (hy : env.kindOf y = some .local) (hz : env.kindOf z = some .local) (hl : px.line = py.line) (hl2 : px.line = pz.line) (hn : x ≠ y) (hn2 : x ≠ z) (hn3 : y ≠ z)
    (ha : notStar a = true) (hb2 : notStar b = true) (hc2 : notStar c = true) (hf : ([a, b, c].all (foldedForSure 8)) = false) (hc : ([a, b, c].all (constantsAlone 8)) = false) :
    swappedStores [.Tuple [.Name x px, .Name y py, .Name z pz] kt pt] (.Tuple [a, b, c] k2 p2) env = pure (some [x, y, z]) := by
  have st : ([a, b, c].any fun | .Starred .. => true | _ => false) = false := by
    have s1 : ∀ e : Expr, notStar e = true → (match e with | .Starred .. => true | _ => false) = false := fun e h => by cases e <;> first | rfl | cases h
    rw [List.any_cons, List.any_cons, List.any_cons, s1 a ha, s1 b hb2, s1 c hc2]; rfl
  have fm : ([Expr.Name x px, Expr.Name y py, Expr.Name z pz].filterMap fun
    | .Name id pos => if env.kindOf id == some .local && pos.line == px.line then some id else none
    | _ => none) = [x, y, z] := by
    simp only [List.filterMap_cons, List.filterMap_nil, hx, hy, hz]
    simp [← hl, ← hl2]
  unfold swappedStores
  dsimp only
  split
  · rename_i h
    simp [hb] at h
  · split
    · rename_i h; exact absurd (st.symm.trans h) (by decide)
    · split
      · rename_i h
        exfalso
        have h2 : (([x, y, z] : List Str).length != ([Expr.Name x px, Expr.Name y py, Expr.Name z pz] : List Expr).length || ([x, y, z] : List Str).eraseDups.length != ([x, y, z] : List Str).length) = true := by
          rw [← fm]; exact h
        have e : ([x, y, z] : List Str).eraseDups = [x, y, z] := by
          simp [List.eraseDups_cons, Ne.symm hn, Ne.symm hn2, Ne.symm hn3]
        rw [e] at h2
        simp at h2
      · split
        · rename_i h; rw [hf] at h; cases h
        · split
          · rename_i h; rw [hc] at h; cases h
          · exact congrArg (fun l => pure (some l)) fm
end Pv

/-! Pv18: fresh lists. -/
namespace Pv
open PySem L2
section
variable (pc : Pc) (N : List Str) (Ce : Ec) (lv : Nat) (cf : Nat → List Sl → G → CR) (hl : Nat → Sg → R D)
def testR (test : Option Ex) : Sg → R Bool := match test with
  | none => fun s => .ok true s
  | some t => fun s => boolR (evalE cf hl t s)
/-- the matched comprehension -/
theorem okL {own : List Nat} {tg : Tg} {it : It} {test : Option Ex} {elt : Ex} {C : Cf} {X : Cx} {sc : Scope} {W : WX} {e : Expr} (x : XC pc N Ce lv cf C X sc W) (dh : HdOk pc N Ce cf hl C X sc W) (h : mE pc N sc (.lc own tg it test elt) e = true) :
    ∃ elt' tg' it' ifs scope pos, e = .ListComp elt' [⟨tg', it', ifs, 0⟩] scope pos ∧ LcOk pc N Ce C X sc W elt' tg' it' ifs scope own tg (evalI cf hl it) (testR cf hl test) (evalE cf hl elt) := by
  simp only [mE] at h
  split at h
  · rename_i elt' tg' it' ifs scope pos
    simp only [Bool.and_eq_true] at h
    rw [decide_eq_true_eq] at h
    obtain ⟨⟨⟨⟨⟨⟨h0, h1⟩, h2⟩, h3⟩, h4⟩, h5⟩, h6⟩ := h
    exact ⟨elt', tg', it', ifs, scope, pos, rfl, h1, okI pc N Ce lv cf hl it tg x dh h4, h3, tg_own h2, fun s H A cl fp => tg_blk x h2 s H A cl fp, fun C' hK s H A cl fp => (by
      have q := okT pc N Ce lv cf hl test (x.blk hK s H A cl fp) (HdOk.no h0) h5
      clear h5
      cases test <;> exact q), fun C' hK s H A cl fp => (okE pc N Ce lv cf hl elt (x.blk hK s H A cl fp) (HdOk.no h0) h6).pe⟩
  · cases h
/-- what a statement that stores a fresh list reads -/
def listR (d : D) (s : Sg) : R (List D) := match d with
  | .list ds => .ok ds s
  | _ => .no
def fO (i : Ex) (s : Sg) : R (List D) := (evalE cf hl i s).bind listR
theorem evalE_lc {own : List Nat} {tg : Tg} {it : It} {test : Option Ex} {elt : Ex} (s : Sg) : fO cf hl (.lc own tg it test elt) s = lcR own tg (evalI cf hl it) (testR cf hl test) (evalE cf hl elt) s := by
  have e : evalE cf hl (.lc own tg it test elt) s = (lcR own tg (evalI cf hl it) (testR cf hl test) (evalE cf hl elt) s).bind fun ds s1 => .ok (.list ds) s1 := by
    rw [← lcR_bind]
    cases test <;> rfl
  unfold fO
  rw [e]
  generalize lcR own tg (evalI cf hl it) (testR cf hl test) (evalE cf hl elt) s = r
  cases r <;> rfl
theorem tF_eq {Ce : Ec} {C : Cf} {W : WX} {f g : Sg → R (List D)} (h : ∀ s, f s = g s) : tF Ce C W f = tF Ce C W g := by
  have : f = g := funext h
  rw [this]
theorem okF (i : Ex) {C : Cf} {X : Cx} {sc : Scope} {W : WX} {e : Expr} (x : XC pc N Ce lv cf C X sc W) (dh : HdOk pc N Ce cf hl C X sc W) (hf : freshE i = true) (h : mE pc N sc i e = true) : PE X e (tF Ce C W (fO cf hl i)) := by
  unfold freshE at hf
  split at hf
  · rename_i es
    simp only [mE] at h
    split at h
    · rw [Bool.and_eq_true, decide_eq_true_eq] at h
      have a := okEs pc N Ce lv cf hl es x dh h.1
      refine pe_imp (pe_lst a.pa) fun σ H Q ⟨O, S, E, p⟩ => ⟨O, S, E, ?_⟩
      have e : fO cf hl (.lst es) S = (evalEs cf hl es S).bind fun ds s1 => .ok ds s1 := by
        show ((evalEs cf hl es S).bind fun ds s1 => .ok (.list ds) s1).bind listR = _
        rw [R.bind_assoc]; rfl
      rw [e] at p
      refine p.bind fun ds S1 vs H1 O1 e1 g1 r1 p1 => ?_
      have l := r1.len
      have l2 := evalEs_len e1
      refine ⟨Nat.le_trans (by rw [l, l2, a.len]; omega) line_big, fun q n => ?_⟩
      exact p1 q vs _ O1 (fun _ z => z) (Ext.of_sub (Sub.upd n)) (.inr fun o _ e => by rw [n] at e; cases e) (Fresh.new g1.ok n r1) g1.ok.o0
    · cases h
  · rename_i own tg it test elt
    obtain ⟨elt', tg', it', ifs, scope, pos, rfl, L⟩ := okL pc N Ce lv cf hl x dh h
    rw [tF_eq (evalE_lc cf hl)]
    exact f_lc x L
  · rename_i a
    simp only [mE] at h
    split at h
    · rename_i b hb
      have g := okE pc N Ce lv cf hl a x dh h
      simp only [unE] at hb
      split at hb <;> try (cases hb; done)
      split at hb <;> cases hb
      rename_i hb
      rw [Bool.and_eq_true] at hb
      obtain ⟨rfl, hg, hm⟩ := bi_of x.nm hb.1
      refine pe_imp (pe_callTy call_list_of hg hm (by decide +kernel) (pa_cons g.pe pa_nil (star_cons hb.2)) (by decide) (by decide) (star_cons hb.2)) fun σ H Q ⟨O, S, E, p⟩ => ⟨O, S, E, ?_⟩
      have e : fO cf hl (.un .list a) S = (evalE cf hl a S).bind fun d s1 => R.ofOpt (seqOf d) s1 := by
        show ((evalE cf hl a S).bind fun d s1 => R.ofOpt (unD .list d) s1).bind listR = _
        rw [R.bind_assoc]
        congr 1
        funext d s
        cases d <;> rfl
      rw [e] at p
      refine p.bind fun d S1 v H1 O1 e1 g1 r1 p1 => ?_
      rw [x.K]
      cases r1 with
      | lst hs hl => exact ⟨_, _, rfl, .inl (SqL.of (vis_sub _ _ hs)), fun q n => p1 q _ _ O1 (fun _ z => z) (Ext.of_sub (Sub.upd n)) (.inr fun o _ e => by rw [n] at e; cases e) (Fresh.new g1.ok n hl) g1.ok.o0⟩
      | tup hs hl => exact ⟨_, _, rfl, .inr (sqT_sub vis_sub hs), fun q n => p1 q _ _ O1 (fun _ z => z) (Ext.of_sub (Sub.upd n)) (.inr fun o _ e => by rw [n] at e; cases e) (Fresh.new g1.ok n hl) g1.ok.o0⟩
      | _ => exact p1.elim
    · cases h
  · rename_i es b
    simp only [mE] at h
    split at h
    · rename_i y z hb
      rw [Bool.and_eq_true] at h
      have ga := okE pc N Ce lv cf hl (.lst es) x dh h.1
      have gb := okE pc N Ce lv cf hl b x dh h.2
      have hb' : ∃ pos, e = .BinOp y .Mult z pos := by
        unfold binE at hb
        split at hb
        · split at hb <;> first | contradiction | (cases hb; exact ⟨_, rfl⟩) | (cases hb; done)
        · split at hb
          · split at hb <;> first | contradiction | (cases hb; done)
          · cases hb
        · cases hb
        · cases hb
        · cases hb
      obtain ⟨pos, rfl⟩ := hb'
      refine pe_imp (pe_op op_rep ga.pe gb.pe) fun σ H Q ⟨O, S, E, p⟩ => ⟨O, S, E, ?_⟩
      have e : fO cf hl (.bin .mul (.lst es) b) S = (evalE cf hl (.lst es) S).bind fun d s1 => (evalE cf hl b s1).bind fun k s2 => (R.ofOpt (binD .mul d k) s2).bind listR := by
        show ((evalE cf hl (.lst es) S).bind fun d s1 => (evalE cf hl b s1).bind fun k s2 => R.ofOpt (binD .mul d k) s2).bind listR = _
        rw [R.bind_assoc]
        congr 1
        funext d s
        rw [R.bind_assoc]
      rw [e] at p
      refine p.bind fun d S1 v H1 O1 e1 g1 r1 p1 => ⟨O1, S1, g1.ok, p1.bind fun k S2 u H2 O2 e2 g2 r2 p2 => ?_⟩
      have hd : ∃ ds, d = .list ds := by
        obtain ⟨ds, s', _, q⟩ := R.bind_ok (show ((evalEs cf hl es S).bind fun ds s1 => .ok (.list ds) s1) = .ok d S1 from e1)
        cases q
        exact ⟨_, rfl⟩
      obtain ⟨ds, rfl⟩ := hd
      have r1' := rp_sub g2.vis _ _ r1
      cases r1' with
      | lst hs hl =>
        cases r2 with
        | int j =>
          simp only [binD] at p2
          split at p2
          · rename_i hj
            obtain ⟨h0, h1, h2⟩ := hj
            have l1 := hl.len
            refine ⟨_, j, _, rfl, rfl, vis_sub _ _ hs, by omega, by omega, Nat.le_trans (Nat.mul_le_mul (show _ ≤ 1000 by omega) (show j.toNat ≤ 1000 by omega)) line_big, fun q n => ?_⟩
            exact p2 q _ _ O2 (fun _ z => z) (Ext.of_sub (Sub.upd n)) (.inr fun o _ e => by rw [n] at e; cases e) (Fresh.new g2.ok n (hl.rep _)) g2.ok.o0
          · exact p2.elim
        | _ => exact p2.elim
    · cases h
  · cases hf
end
end Pv

/-! Pv19: the matched statements. -/
namespace Pv
open PySem L2
/-- an exception is made of one value -/
def MkAt (Ce : Ec) (X : Cx) (y : Str) (c : Nat) : Prop := ∀ (e : Expr) (te : TE) (p pos : Pos), Gl X y → notStar e = true → (∀ σ H Q Q', (∀ v H1, Q v H1 → Q' v H1) → te σ H Q → te σ H Q') → PE X e te →
  PMk X (.Call (.Name y p) [e] [] pos) (fun σ H Q => te σ H fun v H1 => ∀ dd, H1 dd = none → Q (.ref (Ce.cls c)) (some dd) (upd H1 dd (.xd [(Ce.att c, v)])))
def noHA : Ex → Bool
  | .heardAll _ => false
  | _ => true
def nodupB : List Nat → Bool
  | [] => true
  | i :: is => !is.contains i && nodupB is
def lineOf : Expr → Nat
  | .Name _ p => p.line
  | _ => 0
def lnB (N : List Str) (sc : Scope) (i : Nat) (e : Expr) : Bool := match e with
  | .Name x _ => decide (N[i]? = some x) && lclB sc x
  | _ => false
section
variable (pc : Pc) (N : List Str)
mutual
def mS (sc : Scope) : Sx → Stmt → Bool
  | .set i e, st => match st with
    | .Assign [.Name y py] v _ => decide (N[i]? = some y) && locB sc y && swB sc y py v && noHA e && mE pc N sc e v
    | _ => false
  | .setOwn i e, st => match st with
    | .Assign [.Name y py] v _ => decide (N[i]? = some y) && locB sc y && swB sc y py v && freshE e && mE pc N sc e v
    | _ => false
  | .setN is es, st => match st with
    | .Assign [.Tuple ts _ _] (.Tuple vs _ _) _ => (match ts, is with
      | [.Name x px, .Name y py], [i, j] => lnB N sc i (.Name x px) && lnB N sc j (.Name y py) && decide (px.line = py.line) && decide (x ≠ y) && decide (i ≠ j)
      | [.Name x px, .Name y py, .Name z pz], [i, j, l] => lnB N sc i (.Name x px) && lnB N sc j (.Name y py) && lnB N sc l (.Name z pz) && decide (px.line = py.line) && decide (px.line = pz.line) && decide (x ≠ y) && decide (x ≠ z) && decide (y ≠ z) && decide (i ≠ j) && decide (i ≠ l) && decide (j ≠ l)
      | _, _ => false) && decide (vs.length = ts.length) && !(vs.all (foldedForSure 8)) && !(vs.all (constantsAlone 8)) && mEs pc N sc es vs
    | _ => false
  | .unp is e, st => match st with
    | .Assign [.Tuple ts k p] v _ => tgD N sc (.many is) (.Tuple ts k p) && parB sc ts v && mE pc N sc e v
    | _ => false
  | .setIdx i k v, st => match st with
    | .Assign [.Subscript o x _] w _ => nameB N sc i o && notSlice x && mE pc N sc k x && mE pc N sc v w
    | _ => false
  | .app i e, st => match st with
    | .Expr (.Call (.Attribute o m ap) [a] [] cp) _ => decide (m = ("append" : Str)) && nameB N sc i o && notStar a && (ap.endLine == cp.line) && mE pc N sc e a
    | _ => false
  | .expr e, st => match st with
    | .Expr v _ => noComp v && mE pc N sc e v
    | _ => false
  | .ret e, st => match st with
    | .Return (some v) _ => mE pc N sc e v
    | _ => false
  | .if_ c a b, st => match st with
    | .If t x y _ => mE pc N sc c t && mSs sc a x && mSs sc b y
    | _ => false
  | .for_ tg it b, st => match st with
    | .For t i body [] _ => tgD N sc tg t && notSet i && mI pc N sc tg it t i && mSs sc b body
    | _ => false
  | .while_ c b, st => match st with
    | .While t body [] _ => mE pc N sc c t && mSs sc b body
    | _ => false
  | .raise c e, st => match st with
    | .Raise (some (.Call (.Name y _) [a] [] _)) none _ => (pc.xs.any fun q => decide (q = (y, c))) && glB sc y && notStar a && mE pc N sc e a
    | _ => false
  | .brk, st => match st with
    | .Break _ => true
    | _ => false
  | .cnt, st => match st with
    | .Continue _ => true
    | _ => false
  | .pass, st => match st with
    | .Pass _ => true
    | _ => false
  | .lamInit i ks, st => match st with
    | .Assign [.Name y py] (.List ls lp) _ => decide (pc.lsc = some sc.names) && decide (N[i]? = some y) && locB sc y && decide (ls.length ≤ 1000) && ls.all notStar && all2 (fun k l => pc.ml sc k l) ks ls
    | _ => false
  | .lamApp i k, st => match st with
    | .Expr (.Call (.Attribute o m ap) [l] [] cp) _ => decide (pc.lsc = some sc.names) && decide (m = ("append" : Str)) && nameB N sc i o && notStar l && (ap.endLine == cp.line) && pc.ml sc k l
    | _ => false
def mSs (sc : Scope) : List Sx → List Stmt → Bool
  | [], [] => true
  | a :: r, s :: t => mS sc a s && mSs sc r t
  | _, _ => false
end
end
section
variable {pc : Pc} {N : List Str} {Ce : Ec} {lv : Nat} {cf : Nat → List Sl → G → CR} {hl : Nat → Sg → R D} {C : Cf} {X : Cx} {sc : Scope} {W : WX}
theorem s_name (x : XD pc N Ce lv cf hl C X sc W) {i : Nat} {y : Str} {py pos : Pos} {v : Expr} {t : TE} (h1 : N[i]? = some y) (h2 : locB sc y = true) (h3 : noComp v = true) (hv : PE X v t) : PS X (.Assign [.Name y py] v pos) (tAsg t (gName i)) :=
  ps_set (by rw [x.hN]; exact x.nd) (by rw [x.hN]; exact h1) (loc_of x.sc h2) hv (sw_no h3) (.inl (x.fn y))
/-- name = value, by what the value's reading tells -/
theorem s_asg (x : XD pc N Ce lv cf hl C X sc W) {i : Nat} {y : Str} {py pos : Pos} {v : Expr} {e : Ex} {t : TE} (h1 : N[i]? = some y) (h2 : locB sc y = true) (h3 : swB sc y py v = true) (hna : noHA e = true) (hm : mE pc N sc e v = true) (hv : PE X v t)
    (hk : ∀ own tg it test elt, e = .lc own tg it test elt → ∀ σ H Q, t σ H Q → tF Ce C W (fO cf hl e) σ H Q) : PS X (.Assign [.Name y py] v pos) (tAsg t (gName i)) := by
  by_cases hn : noComp v = true
  · exact s_name x h1 h2 hn hv
  · unfold swB at h3
    split at h3
    · rename_i el gs s p
      rw [Bool.or_eq_true] at h3
      have hNd : X.N.Nodup := by rw [x.hN]; exact x.nd
      have hNi : X.N[i]? = some y := by rw [x.hN]; exact h1
      rcases h3 with h3 | h3
      · obtain ⟨h4, h5, h6⟩ := and3 h3
        have hly := lcl_of x.sc h4
        cases e with
        | lc own tg it test elt =>
          obtain ⟨elt', tg', it', ifs, scope, pos', e1, L⟩ := okL pc N Ce lv cf hl x.toXC x.hd hm
          cases e1
          refine ps_imp (ps_setLc (spos := pos) x.calm hNd hNi hly (sw_true x.kind hly h5 (by rw [← Bool.not_eq_true']; exact h6)) L.hi (L.ok x.toXC) L.hg L.hT' L.hE' (L.fs X.env)) fun D σ H q => ?_
          have q' := hk _ _ _ _ _ rfl σ H _ q
          rw [tF_eq (evalE_lc cf hl)] at q'
          exact L.key x.toXC σ H _ q'
        | un o a => cases o <;> simp [mE, unE] at hm
        | bun o a => cases o <;> simp [mE, unE] at hm
        | heardAll a => cases hna
        | _ => simp [mE, nameB, constB, unE, binE] at hm
      · rw [decide_eq_true_eq] at h3
        exact ps_set hNd hNi (loc_of x.sc h2) hv (sw_cell (by rw [x.sc]; exact h3)) (.inl (x.fn y))
    · exact absurd h3 hn
theorem tE_S {f : Sg → R D} {k : D → Sg → Fl} {D0 : Ends} {σ : L2.St} {H : Hp} {Q1 : V → Hp → Prop} (q : tS Ce C W (fun s => (f s).fl k) D0 σ H)
    (h : ∀ d S' v H' O', EOk C O' σ H' S' → Rp C.K (vis O' H') v d → PostF Ce C W O' H' D0 (k d S') → Q1 v H') : tE Ce C W f σ H Q1 := by
  obtain ⟨O, S, E, p⟩ := q
  exact ⟨O, S, E, p.bind fun d S' v H' O' _ g r p' => h d S' v H' O' g.ok r p'⟩
theorem tT_S {f : Sg → R D} {k : Bool → Sg → Fl} {D0 : Ends} {σ : L2.St} {H : Hp} {Q1 : Bool → Hp → Prop} (q : tS Ce C W (fun s => (boolR (f s)).fl k) D0 σ H)
    (h : ∀ b S' H' O', EOk C O' σ H' S' → PostF Ce C W O' H' D0 (k b S') → Q1 b H') : tT Ce C W f σ H Q1 := by
  obtain ⟨O, S, E, p⟩ := q
  exact ⟨O, S, E, p.bind (Rl := Rb) fun d S' v H' O' _ g r p' => by cases r; exact h d S' H' O' g.ok p'⟩
theorem nx_at {S : Sg} {O : Addr → Prop} {σ : L2.St} {H : Hp} {D0 : Ends} (E : EOk C O σ H S) (p : PostF Ce C W O H D0 (.nx S)) : D0.nx σ H := p σ H O (GoS.refl O H) E
theorem s_set (x : XD pc N Ce lv cf hl C X sc W) {i : Nat} {y : Str} {py pos : Pos} {v : Expr} {e : Ex} (h1 : N[i]? = some y) (h2 : locB sc y = true) (h3 : swB sc y py v = true) (hna : noHA e = true) (hm : mE pc N sc e v = true) :
    PS X (.Assign [.Name y py] v pos) (tS Ce C W (evalS cf hl (.set i e))) := by
  have g := okE pc N Ce lv cf hl e x.toXC x.hd hm
  refine ps_imp (s_asg x h1 h2 h3 hna hm g.pe fun own tg it test elt he σ H Q q => ?_) fun D0 σ H q => tE_S q fun d S' v H' O' E r p => p _ _ O' (GoS.refl _ _) (E.put r)
  subst he
  refine tF_of σ H Q ?_
  obtain ⟨O, S, E, p⟩ := q
  refine ⟨O, S, E, ?_⟩
  have e0 : evalE cf hl (.lc own tg it test elt) S = (fO cf hl (.lc own tg it test elt) S).bind fun ds s1 => .ok (.list ds) s1 := by
    rw [evalE_lc, ← lcR_bind]
    cases test <;> rfl
  rw [e0] at p
  exact p
theorem s_setOwn (x : XD pc N Ce lv cf hl C X sc W) {i : Nat} {y : Str} {py pos : Pos} {v : Expr} {e : Ex} (h1 : N[i]? = some y) (h2 : locB sc y = true) (h3 : swB sc y py v = true) (hf : freshE e = true) (hm : mE pc N sc e v = true) :
    PS X (.Assign [.Name y py] v pos) (tS Ce C W (evalS cf hl (.setOwn i e))) := by
  refine ps_imp (s_asg x h1 h2 h3 (by cases e <;> first | rfl | cases hf) hm (okF pc N Ce lv cf hl e x.toXC x.hd hf hm) fun own tg it test elt he σ H Q q => q) fun D0 σ H q => ?_
  obtain ⟨O, S, E, p⟩ := q
  have e0 : evalS cf hl (.setOwn i e) S = (fO cf hl e S).fl fun ds s1 => .nx (s1.put i (.own ds)) := by
    show ((evalE cf hl e S).fl _) = ((evalE cf hl e S).bind listR).fl _
    cases evalE cf hl e S with
    | ok d s => cases d <;> rfl
    | er _ _ _ => rfl
    | no => rfl
  rw [e0] at p
  refine ⟨O, S, E, p.bindO fun ds S' a vs H' O' _ hs hx hn F h0 p' => ?_⟩
  by_cases hi : i < S'.ρ.length
  · exact p' _ _ (more O' a) ⟨fun b z => z.elim (fun z => .inl (hs b z)) fun q => by rw [q]; exact hn, hx⟩ (F.store h0 hi)
  · obtain ⟨E', r'⟩ := F.drop h0
    have e1 : σ.set i (some (.ref a)) = σ := List.set_eq_of_length_le (by rw [E'.len]; omega)
    have e2 : S'.put i (.own ds) = S' := by
      unfold Sg.put
      rw [List.set_eq_of_length_le (by omega)]
    show D0.nx (σ.set i (some (.ref a))) H'
    rw [e1]
    rw [e2] at p'
    exact p' _ _ O' ⟨fun b z => .inl (hs b z), hx⟩ E'
end
end Pv

/-! Pv20: the main induction over statements. -/
namespace Pv
open PySem L2
section
variable {pc : Pc} {N : List Str} {Ce : Ec} {lv : Nat} {cf : Nat → List Sl → G → CR} {hl : Nat → Sg → R D} {C : Cf} {X : Cx} {sc : Scope} {W : WX}
theorem fa2_app {α β : Type} {r : α → β → Prop} {a : α} {b : β} : ∀ {as : List α} {bs : List β}, Fa2 r as bs → r a b → Fa2 r (as ++ [a]) (bs ++ [b])
  | [], [], .nil, h => .cons h .nil
  | _ :: _, _ :: _, .cons q t, h => .cons q (fa2_app t h)
theorem EOk.base_keep {O : Addr → Prop} {σ : L2.St} {H : Hp} {S : Sg} (E : EOk C O σ H S) : ∀ b o, ¬ Mw C.W b → Nt o → C.H0 b = some o → H b = some o := fun b o h1 h2 h3 => E.base b o h3 h1 h2
theorem EOk.out {O : Addr → Prop} {σ : L2.St} {H : Hp} {S : Sg} (E : EOk C O σ H S) : Sub (vis O H) (vis C.O0 H) := (Sub.refl H).vis fun b z => .inl (E.o0 b z)
theorem s_unp (x : XD pc N Ce lv cf hl C X sc W) {is : List Nat} {ts : List Expr} {k : Nat} {tp pos : Pos} {v : Expr} {e : Ex} (h1 : tgD N sc (.many is) (.Tuple ts k tp) = true) (h2 : parB sc ts v = true) (hm : mE pc N sc e v = true) :
    PS X (.Assign [.Tuple ts k tp] v pos) (tS Ce C W (evalS cf hl (.unp is e))) := by
  have g := okE pc N Ce lv cf hl e x.toXC x.hd hm
  have hw : swappedStores [.Tuple ts k tp] v X.env = pure none := by
    unfold parB at h2
    split at h2
    · rename_i vs k2 p2
      rw [Bool.or_eq_true] at h2
      rcases h2 with h2 | h2
      · exact stores_fold h2
      · obtain ⟨t, ht, hx⟩ := List.any_eq_true.mp h2
        split at hx
        · rename_i y q
          rw [decide_eq_true_eq] at hx
          exact stores_cell ⟨y, q, ht, by show X.env.scope.names.lookup y = _; rw [x.sc]; exact hx⟩
        · cases hx
    · exact stores_notTup (by cases v <;> first | rfl | (rename_i q; exact absurd rfl (q _ _ _)))
  refine ps_imp (ps_asg g.pe (tg_good x h1) (show swapsWith v (some (.Tuple ts k tp)) pos.line X.env = pure false from sw_tup) hw) fun D0 σ H q => tE_S q fun d S' v H' O' E r p => ?_
  cases hp : (Tg.many is).put d S' with
  | none => simp only [hp] at p; exact p.elim
  | some S2 =>
    simp only [hp] at p
    rw [x.K]
    exact gOf_ok E hp r fun vs E2 => p _ _ O' (GoS.refl _ _) E2
theorem s_setIdx (x : XD pc N Ce lv cf hl C X sc W) {i : Nat} {k v : Ex} {o kx w : Expr} {tp pos : Pos} (h1 : nameB N sc i o = true) (h2 : notSlice kx = true) (hk : mE pc N sc k kx = true) (hv : mE pc N sc v w = true) :
    PS X (.Assign [.Subscript o kx tp] w pos) (tS Ce C W (evalS cf hl (.setIdx i k v))) := by
  have gk := okE pc N Ce lv cf hl k x.toXC x.hd hk
  have gv := okE pc N Ce lv cf hl v x.toXC x.hd hv
  refine ps_imp (ps_asg gv.pe (pg_sub (x_slot x.toXC h1) gk.pe set_list (fun v => by cases kx <;> first | rfl | cases h2)) (show swapsWith w (some (.Subscript o kx tp)) pos.line X.env = pure false from sw_sub) (stores_one (fun _ _ _ z => by cases z) fun _ _ z => by cases z)) fun D0 σ H q => tE_S q fun d S1 u H1 O1 E1 r1 p => ?_
  split at p
  · rename_i ds0 hds0
    obtain ⟨_, a, _, e1, _⟩ := E1.own_at hds0
    refine ⟨.ref a, e1, O1, S1, E1, p.bind (Rl := Rv C) fun d2 S2 v2 H2 O2 _ g2 r2 p2 => ?_⟩
    split at p2
    · rename_i _ _ ds n hds _
      obtain ⟨hi, a', vs, k1, k2, k3, k4, k5, k6⟩ := g2.ok.own_at hds
      rw [e1] at k1
      cases k1
      cases r2
      split at p2
      · rename_i j hj
        have r1' := rp_sub g2.vis _ _ r1
        obtain ⟨c1, c2⟩ := g2.ok.change hi e1 k2 k3 k4 k5 (k6.set r1' j)
        refine ⟨a, vs, n, j, rfl, rfl, k2, by rw [k6.len]; exact hj, p2 _ _ O2 ⟨fun b h => .inl h, ⟨fun b ob nb t h => ?_⟩⟩ c1⟩
        rw [upd_ne (fun z => nb (by rw [z]; exact k3))]; exact h
      · exact p2.elim
    · exact p2.elim
  · exact p.elim
theorem s_app (x : XD pc N Ce lv cf hl C X sc W) {i : Nat} {e : Ex} {o a : Expr} {apos cpos pos : Pos} (h1 : nameB N sc i o = true) (hs : notStar a = true) (hline : (apos.endLine == cpos.line) = true) (hm : mE pc N sc e a = true) :
    PS X (.Expr (.Call (.Attribute o "append" apos) [a] [] cpos) pos) (tS Ce C W (evalS cf hl (.app i e))) := by
  have g := okE pc N Ce lv cf hl e x.toXC x.hd hm
  obtain ⟨z, zp, rfl⟩ := (name_plain h1).2.2
  refine ps_imp (ps_expr (pe_bm PySem.F.plainAttrs_list PySem.F.slot_list_append PySem.F.type_list_append mt_append (x_slot x.toXC h1) (pa_cons g.pe pa_nil (star_cons hs)) rfl (by rw [star_cons hs]; rfl) hline (star_cons hs))) fun D0 σ H q => ?_
  obtain ⟨O, S, E, p⟩ := q
  unfold evalS at p
  split at p
  · rename_i ds0 hds0
    obtain ⟨_, a', vs0, e1, e2, _⟩ := E.own_at hds0
    refine ⟨.ref a', e1, .inl ⟨rfl, _, SqL.of e2⟩, O, S, E, p.bind (Rl := Rv C) fun d S1 v H1 O1 _ g1 r1 p1 => ?_⟩
    split at p1
    · rename_i ds hds
      obtain ⟨hi, a2, vs, k1, k2, k3, k4, k5, k6⟩ := g1.ok.own_at hds
      rw [e1] at k1
      cases k1
      split at p1
      · rename_i hlen
        obtain ⟨c1, c2⟩ := g1.ok.change hi e1 k2 k3 k4 k5 (k6.app (.one r1))
        have l := k6.len
        refine ⟨a', vs, v, rfl, rfl, k2, Nat.lt_of_lt_of_le (by omega) line_big, p1 _ _ O1 ⟨fun b h => .inl h, ⟨fun b ob nb t h => ?_⟩⟩ c1⟩
        rw [upd_ne (fun z => nb (by rw [z]; exact k3))]; exact h
      · exact p1.elim
    · exact p1.elim
  · exact p.elim
theorem foldl_two {S : Sg} {i j : Nat} {d e : D} : (([i, j].zip [d, e]).foldl (fun s p => s.put p.1 (.dat p.2)) S) = (S.put i (.dat d)).put j (.dat e) := rfl
theorem s_setN2 (x : XD pc N Ce lv cf hl C X sc W) {i j : Nat} {es : List Ex} {y z : Str} {py pz pt p2 pos : Pos} {kt k2 : Nat} {vs : List Expr} (h1 : lnB N sc i (.Name y py) = true) (h2 : lnB N sc j (.Name z pz) = true) (hq : py.line = pz.line) (hn : y ≠ z) (hij : i ≠ j)
    (hlen : vs.length = 2) (hf : (vs.all (foldedForSure 8)) = false) (hc : (vs.all (constantsAlone 8)) = false) (hm : mEs pc N sc es vs = true) :
    PS X (.Assign [.Tuple [.Name y py, .Name z pz] kt pt] (.Tuple vs k2 p2) pos) (tS Ce C W (evalS cf hl (.setN [i, j] es))) := by
  obtain ⟨a, b, rfl⟩ : ∃ a b, vs = [a, b] := by
    match vs, hlen with
    | [a, b], _ => exact ⟨a, b, rfl⟩
  have A := okEs pc N Ce lv cf hl es x.toXC x.hd hm
  have st := A.star
  simp only [List.all_cons, List.all_nil, Bool.and_true, Bool.and_eq_true] at st
  unfold lnB at h1 h2
  rw [Bool.and_eq_true, decide_eq_true_eq] at h1 h2
  have l1 := lcl_of x.sc h1.2
  have l2 := lcl_of x.sc h2.2
  have hNd : X.N.Nodup := by rw [x.hN]; exact x.nd
  refine ps_imp (ps_par x.calm hNd (by rw [x.hN]; exact h1.1) (by rw [x.hN]; exact h2.1) hij l1 l2 A.pa (stores_two (bk_fn x) l1 l2 hq hn st.1 st.2 hf hc) rfl) fun D0 σ H q => ?_
  obtain ⟨O, S, E, p⟩ := q
  unfold evalS at p
  refine ⟨O, S, E, p.bind (Rl := Rvs C) fun ds S1 us H1 O1 e1 g1 r1 p1 => ?_⟩
  have hl2 := evalEs_len e1
  rw [A.len] at hl2
  cases r1 with
  | nil => simp at hl2
  | cons q1 r2 =>
    cases r2 with
    | nil => simp at hl2
    | cons q2 r3 =>
      cases r3 with
      | cons _ _ => simp at hl2
      | nil => exact ⟨_, _, rfl, p1 _ _ O1 (GoS.refl _ _) ((g1.ok.put q1).put q2)⟩
theorem s_setN3 (x : XD pc N Ce lv cf hl C X sc W) {i j l : Nat} {es : List Ex} {y z u : Str} {py pz pu pt p2 pos : Pos} {kt k2 : Nat} {vs : List Expr} (h1 : lnB N sc i (.Name y py) = true) (h2 : lnB N sc j (.Name z pz) = true) (h3 : lnB N sc l (.Name u pu) = true) (hq : py.line = pz.line) (hq2 : py.line = pu.line) (hn : y ≠ z) (hn2 : y ≠ u) (hn3 : z ≠ u) (hij : i ≠ j) (hil : i ≠ l) (hjl : j ≠ l)
    (hlen : vs.length = 3) (hf : (vs.all (foldedForSure 8)) = false) (hc : (vs.all (constantsAlone 8)) = false) (hm : mEs pc N sc es vs = true) :
    PS X (.Assign [.Tuple [.Name y py, .Name z pz, .Name u pu] kt pt] (.Tuple vs k2 p2) pos) (tS Ce C W (evalS cf hl (.setN [i, j, l] es))) := by
  obtain ⟨a, b, c, rfl⟩ : ∃ a b c, vs = [a, b, c] := by
    match vs, hlen with
    | [a, b, c], _ => exact ⟨a, b, c, rfl⟩
  have A := okEs pc N Ce lv cf hl es x.toXC x.hd hm
  have st := A.star
  simp only [List.all_cons, List.all_nil, Bool.and_true, Bool.and_eq_true] at st
  unfold lnB at h1 h2 h3
  rw [Bool.and_eq_true, decide_eq_true_eq] at h1 h2 h3
  have l1 := lcl_of x.sc h1.2
  have l2 := lcl_of x.sc h2.2
  have l3 := lcl_of x.sc h3.2
  have hNd : X.N.Nodup := by rw [x.hN]; exact x.nd
  refine ps_imp (ps_par3 x.calm hNd (by rw [x.hN]; exact h1.1) (by rw [x.hN]; exact h2.1) (by rw [x.hN]; exact h3.1) hij hil hjl l1 l2 l3 A.pa (stores_three (bk_fn x) l1 l2 l3 hq hq2 hn hn2 hn3 st.1 st.2.1 st.2.2 hf hc) rfl) fun D0 σ H q => ?_
  obtain ⟨O, S, E, p⟩ := q
  unfold evalS at p
  refine ⟨O, S, E, p.bind (Rl := Rvs C) fun ds S1 us H1 O1 e1 g1 r1 p1 => ?_⟩
  have hl2 := evalEs_len e1
  rw [A.len] at hl2
  cases r1 with
  | nil => simp at hl2
  | cons q1 r2 =>
    cases r2 with
    | nil => simp at hl2
    | cons q2 r3 =>
      cases r3 with
      | nil => simp at hl2
      | cons q3 r4 =>
        cases r4 with
        | cons _ _ => simp at hl2
        | nil => exact ⟨_, _, _, rfl, p1 _ _ O1 (GoS.refl _ _) (((g1.ok.put q1).put q2).put q3)⟩
theorem s_if {c : Expr} {a b : List Stmt} {pos : Pos} {f : Sg → R D} {g h : Sg → Fl} (hc : PT X c (tT Ce C W f)) (ha : PSs X a (tS Ce C W g)) (hb : PSs X b (tS Ce C W h)) :
    PS X (.If c a b pos) (tS Ce C W fun s => (boolR (f s)).fl fun t s1 => if t then g s1 else h s1) :=
  ps_imp (ps_if hc ha hb) fun D0 σ H q => tT_S q fun t S' H' O' E p => by
    cases t with
    | true => rw [if_pos rfl] at p ⊢; exact ⟨O', S', E, p⟩
    | false => rw [if_neg Bool.false_ne_true] at p ⊢; exact ⟨O', S', E, p⟩
theorem s_while (x : XD pc N Ce lv cf hl C X sc W) {c : Expr} {a : List Stmt} {pos : Pos} {f : Sg → R D} {g : Sg → Fl} (hc : PT X c (tT Ce C W f)) (ha : PSs X a (tS Ce C W g)) :
    PS X (.While c a [] pos) (tS Ce C W fun s => whileLoop (fun s => boolR (f s)) g wTurns s) := by
  refine ps_imp (ps_while x.own hc ha) fun D0 σ H q => ?_
  generalize wTurns = n at q
  refine ⟨fun m σ H => tS Ce C W (fun s => whileLoop (fun s => boolR (f s)) g m s) D0 σ H, ⟨n, q⟩, fun m σ H w => ?_⟩
  obtain ⟨O, S, E, p⟩ := w
  cases m with
  | zero => exact p.elim
  | succ m =>
    refine tT_S (k := fun c s1 => if c then (match g s1 with
      | .nx s2 => whileLoop (fun s => boolR (f s)) g m s2
      | .ct s2 => whileLoop (fun s => boolR (f s)) g m s2
      | .bk s2 => .nx s2
      | r => r) else .nx s1) ⟨O, S, E, p⟩ fun t S' H' O' E' p' => ?_
    cases t with
    | false => exact nx_at E' p'
    | true =>
      rw [if_pos rfl] at p' ⊢
      refine ⟨fun σ H => tS Ce C W (fun s => whileLoop (fun s => boolR (f s)) g m s) D0 σ H, fun σ' H' z => ⟨m, Nat.lt_succ_self m, z⟩, O', S', E', ?_⟩
      cases hg : g S' with
      | nx s2 => rw [hg] at p'; exact fun σ2 H2 O2 gs E2 => ⟨O2, s2, E2, PostF.later p' gs⟩
      | ct s2 => rw [hg] at p'; exact fun σ2 H2 O2 gs E2 => ⟨O2, s2, E2, PostF.later p' gs⟩
      | bk s2 => rw [hg] at p'; exact p'
      | rt d s2 => rw [hg] at p'; exact p'
      | er c d s2 => rw [hg] at p'; exact p'
      | no => rw [hg] at p'; exact p'
theorem s_for (x : XD pc N Ce lv cf hl C X sc W) {t i : Expr} {a : List Stmt} {pos : Pos} {tg : Tg} {f : Sg → R (List D)} {g : Sg → Fl} (ht : tgD N sc tg t = true) (hs : notSet i = true) (hi : PI X t i (tI Ce C W f)) (ha : PSs X a (tS Ce C W g)) :
    PS X (.For t i a [] pos) (tS Ce C W fun s => (f s).fl fun ds s1 => forLoop tg.put g ds s1) := by
  refine ps_imp (ps_for x.own x.calm hi (tg_good x ht) ha (fun z => by cases i <;> first | rfl | cases hs)) fun D0 σ H q => ?_
  obtain ⟨O, S, E, p⟩ := q
  refine ⟨O, S, E, p.bind (Rl := Wks C.K) fun ds S1 J H1 O1 _ g1 wk p1 => ?_⟩
  refine ⟨fun n m σ H => m = ds.length - n ∧ n ≤ ds.length ∧ ∃ (On : Addr → Prop) (Sn : Sg), GoS O1 On H1 H ∧ EOk C On σ H Sn ∧ PostF Ce C W On H D0 (forLoop tg.put g (ds.drop n) Sn),
    ⟨_, rfl, Nat.zero_le _, O1, S1, GoS.refl _ _, g1.ok, by rw [List.drop_zero]; exact p1⟩, ?_⟩
  rintro n m σ2 H2 ⟨rfl, hn, On, Sn, gs, En, pn⟩
  have wki := wk On H2 gs.vis En.trk
  by_cases hlt : n < ds.length
  · refine .inr ⟨wki.goes n hlt, fun σ3 H3 => (∃ (On : Addr → Prop) (Sn : Sg), GoS O1 On H1 H3 ∧ EOk C On σ3 H3 Sn ∧ PostF Ce C W On H3 D0 (forLoop tg.put g (ds.drop (n + 1)) Sn)), fun σ3 H3 z => ⟨ds.length - (n + 1), by omega, rfl, hlt, z⟩, fun v H3 hy => ?_⟩
    obtain ⟨d, hd, sH, rv⟩ := wki.yields n v H3 hlt hy
    have E3 := En.grow sH
    have gs3 : GoS On On H2 H3 := ⟨fun b h => .inl h, Ext.of_sub sH⟩
    have p3 := PostF.later pn gs3
    have hdrop : ds.drop n = d :: ds.drop (n + 1) := by
      rw [List.drop_eq_getElem_cons hlt]
      congr 1
      rw [List.getElem?_eq_getElem hlt] at hd
      exact Option.some.inj hd
    rw [hdrop] at p3
    unfold forLoop at p3
    cases hp : tg.put d Sn with
    | none => rw [hp] at p3; exact p3.elim
    | some S4 =>
      rw [hp] at p3
      dsimp only at p3
      rw [x.K]
      refine gOf_ok E3 hp rv fun us E4 => ⟨On, S4, E4, ?_⟩
      cases hg : g S4 with
      | nx s2 => rw [hg] at p3; exact fun σ5 H5 O5 g5 E5 => ⟨O5, s2, (gs.trans gs3).trans g5, E5, PostF.later p3 g5⟩
      | ct s2 => rw [hg] at p3; exact fun σ5 H5 O5 g5 E5 => ⟨O5, s2, (gs.trans gs3).trans g5, E5, PostF.later p3 g5⟩
      | bk s2 => rw [hg] at p3; exact p3
      | rt d s2 => rw [hg] at p3; exact p3
      | er c d s2 => rw [hg] at p3; exact p3
      | no => rw [hg] at p3; exact p3
  · have e : n = ds.length := by omega
    subst e
    refine .inl ⟨wki.stops, ?_⟩
    rw [List.drop_length] at pn
    exact nx_at En pn
theorem s_ret {v : Expr} {pos : Pos} {f : Sg → R D} (hv : PE X v (tE Ce C W f)) : PS X (.Return (some v) pos) (tS Ce C W fun s => (f s).fl fun d s1 => .rt d s1.g) :=
  ps_imp (ps_ret hv) fun D0 σ H q => tE_S q fun d S' v H' O' E r p => p v H' ⟨E.base_keep, E.tabs, E.dok⟩ (rp_sub E.out _ _ r)
theorem s_raise (x : XD pc N Ce lv cf hl C X sc W) {y : Str} {c : Nat} {a : Expr} {p2 p3 pos : Pos} {f : Sg → R D} (mk : MkAt Ce X y c) (hg : glB sc y = true) (hs : notStar a = true) (ha : PE X a (tE Ce C W f)) :
    PS X (.Raise (some (.Call (.Name y p2) [a] [] p3)) none pos) (tS Ce C W fun s => (f s).fl fun d s1 => .er c d s1) :=
  ps_imp (ps_raise x.calm x.takes (mk a _ p2 p3 (gl_of x.sc hg) hs (fun σ H Q Q' i ⟨O, S, E, p⟩ => ⟨O, S, E, p.imp i⟩) ha)) fun D0 σ H q => tE_S q fun d S' v H' O' E r p dd hn => by
    have s := Sub.upd (o := .xd [(Ce.att c, v)]) hn
    exact p σ dd v _ O' (E.grow s) upd_same (rp_sub (s.vis fun b z => .inl z) _ _ r)
theorem s_expr (x : XD pc N Ce lv cf hl C X sc W) {v : Expr} {pos : Pos} {f : Sg → R D} (hn : noComp v = true) (hv : PE X v (tE Ce C W f)) : PS X (.Expr v pos) (tS Ce C W fun s => (f s).fl fun _ s1 => .nx s1) :=
  ps_imp (ps_expr hv (sw_no hn)) fun D0 σ H q => tE_S q fun d S' v H' O' E r p => nx_at E p
/-- lambdas, one after another -/
def tLams (C : Cf) (ks : List Nat) : TA := fun σ H Q => ∃ O S, EOk C O σ H S ∧ ∀ fs H1, EOk C O σ H1 S → Ext O H H1 → Fa2 (fun f k => C.lm k f (vis O H1)) fs ks → Q (fs.map V.ref) H1
theorem x_lams : ∀ {ks : List Nat} {ls : List Expr}, Fa2 (fun k l => notStar l = true ∧ PE X l (tLamN C k)) ks ls → PA X ls (tLams C ks)
  | [], [], .nil => pa_imp pa_nil fun σ H Q ⟨O, S, E, p⟩ => p [] H E (.refl _ _) .nil
  | k :: ks, l :: ls, .cons h t => pa_imp (pa_cons h.2 (x_lams t) (star_cons h.1)) fun σ H Q ⟨O, S, E, p⟩ => ⟨O, S, E, fun f H1 E1 x1 m1 => ⟨O, S, E1, fun fs H2 E2 x2 m2 =>
      p (f :: fs) H2 E2 (x1.trans x2 fun _ h => h) (.cons (C.lmS k f _ _ (x2.vis fun _ h => h) m1) m2)⟩⟩
theorem fa2_and {α β : Type} {r s : α → β → Prop} : ∀ {as : List α} {bs : List β}, Fa2 r as bs → (∀ b ∈ bs, ∀ a, r a b → s a b) → Fa2 s as bs
  | [], [], .nil, _ => .nil
  | _ :: _, _ :: _, .cons h t, i => .cons (i _ (by simp) _ h) (fa2_and t fun b hb a => i b (by simp [hb]) a)
theorem s_lamInit (x : XD pc N Ce lv cf hl C X sc W) {i : Nat} {ks : List Nat} {y : Str} {py lp pos : Pos} {ls : List Expr} (h0 : pc.lsc = some sc.names) (h1 : N[i]? = some y) (h2 : locB sc y = true) (h3 : ls.length ≤ 1000) (h4 : ls.all notStar = true) (h5 : all2 (fun k l => pc.ml sc k l) ks ls = true) :
    PS X (.Assign [.Name y py] (.List ls lp) pos) (tS Ce C W (evalS cf hl (.lamInit i ks))) := by
  have f : Fa2 (fun k l => notStar l = true ∧ PE X l (tLamN C k)) ks ls := fa2_and (all2_forall (r := fun k l => pc.ml sc k l = true) (fun _ _ h => h) h5) fun l hl k hk => ⟨List.all_eq_true.mp h4 l hl, x.lam (by rw [x.sc]; exact h0) k l (by rw [x.sc]; exact hk)⟩
  have hkl : ks.length = ls.length := forall2_len f
  refine ps_imp (s_name x h1 h2 rfl (pe_lst (x_lams f))) fun D0 σ H ⟨O, S, E, p⟩ => ⟨O, S, E, fun fs H1 E1 x1 m => ?_⟩
  have hfl := forall2_len m
  refine ⟨Nat.le_trans (by rw [List.length_map]; omega) line_big, fun q hn => ?_⟩
  refine p _ _ (more O q) ⟨fun b z => z.elim .inl fun e => ?_, x1.trans (Ext.of_sub (O := O) (Sub.upd hn)) fun _ h => h⟩ (E1.storeNew hn fun sv => ⟨q, fs, rfl, upd_same, .inr rfl, fun z => E1.trk q (E1.o0 q z) hn, E1.np hn, m.imp fun f k z => C.lmS k f _ _ sv z⟩)
  by_cases ho : O b
  · exact .inl ho
  · refine .inr fun o t eo => ?_
    have := x1.keep b o ho t eo
    rw [e, hn] at this
    cases this
theorem s_lamApp (x : XD pc N Ce lv cf hl C X sc W) {i k : Nat} {o l : Expr} {apos cpos pos : Pos} (h0 : pc.lsc = some sc.names) (h1 : nameB N sc i o = true) (hs : notStar l = true) (hline : (apos.endLine == cpos.line) = true) (hm : pc.ml sc k l = true) :
    PS X (.Expr (.Call (.Attribute o "append" apos) [l] [] cpos) pos) (tS Ce C W (evalS cf hl (.lamApp i k))) := by
  have g := x.lam (by rw [x.sc]; exact h0) k l (by rw [x.sc]; exact hm)
  obtain ⟨z, zp, rfl⟩ := (name_plain h1).2.2
  refine ps_imp (ps_expr (pe_bm PySem.F.plainAttrs_list PySem.F.slot_list_append PySem.F.type_list_append mt_append (x_slot x.toXC h1) (pa_cons g pa_nil (star_cons hs)) rfl (by rw [star_cons hs]; rfl) hline (star_cons hs))) fun D0 σ H q => ?_
  obtain ⟨O, S, E, p⟩ := q
  unfold evalS at p
  split at p
  · rename_i ks hks
    obtain ⟨a, fs, e1, e2, e3, e4, e5, e6⟩ := E.sl _ _ hks
    refine ⟨.ref a, e1, .inl ⟨rfl, _, SqL.of e2⟩, O, S, E, fun f H1 E1 x1 m1 => ?_⟩
    obtain ⟨a', fs', k1, k2, k3, k4, k5, k6⟩ := E1.sl _ _ hks
    rw [e1] at k1
    cases k1
    split at p
    · rename_i hlen
      have hfl := forall2_len k6
      obtain ⟨c1, c2⟩ := E1.changeG (x1 := .thk (ks ++ [k])) (l' := fs'.map V.ref ++ [.ref f]) hks trivial trivial e1 k2 k3 k4 k5 fun sv => ⟨a, fs' ++ [f], rfl, by rw [upd_same, List.map_append]; rfl, k3, k4, k5, fa2_app (k6.imp fun f k z => C.lmS k f _ _ sv z) (C.lmS k f _ _ sv m1)⟩
      refine ⟨a, _, .ref f, rfl, rfl, k2, Nat.lt_of_lt_of_le (by rw [List.length_map]; omega) line_big, p _ _ O ⟨fun b h => .inl h, ⟨fun b ob nb t h => ?_⟩⟩ c1⟩
      rw [upd_ne (fun z => nb (by rw [z]; exact k3))]; exact x1.keep b ob nb t h
    · exact p.elim
  · exact p.elim
theorem s_cons {st : Stmt} {r : List Stmt} {f g : Sg → Fl} (h1 : PS X st (tS Ce C W f)) (h2 : PSs X r (tS Ce C W g)) : PSs X (st :: r) (tS Ce C W fun s => (f s).seq g) :=
  pss_imp (pss_cons h1 h2) fun D0 σ H ⟨O, S, E, p⟩ => ⟨O, S, E, p.seq⟩
end
section
variable (pc : Pc) (N : List Str) (Ce : Ec) (lv : Nat) (cf : Nat → List Sl → G → CR) (hl : Nat → Sg → R D) (C : Cf) (X : Cx) (sc : Scope) (W : WX)
mutual
theorem okS (x : XD pc N Ce lv cf hl C X sc W) (mk : ∀ y c, (y, c) ∈ pc.xs → MkAt Ce X y c) : ∀ (i : Sx) {st : Stmt}, mS pc N sc i st = true → PS X st (tS Ce C W (evalS cf hl i))
  | .set i e, st, h => by
    simp only [mS] at h
    split at h
    · simp only [Bool.and_eq_true, decide_eq_true_eq] at h
      exact s_set x h.1.1.1.1 h.1.1.1.2 h.1.1.2 h.1.2 h.2
    · cases h
  | .setOwn i e, st, h => by
    simp only [mS] at h
    split at h
    · simp only [Bool.and_eq_true, decide_eq_true_eq] at h
      exact s_setOwn x h.1.1.1.1 h.1.1.1.2 h.1.1.2 h.1.2 h.2
    · cases h
  | .setN is es, st, h => by
    simp only [mS] at h
    split at h
    · rename_i ts k tp vs k2 p2 pos
      rw [Bool.and_eq_true, Bool.and_eq_true, Bool.and_eq_true, Bool.and_eq_true, decide_eq_true_eq, Bool.not_eq_true', Bool.not_eq_true'] at h
      obtain ⟨⟨⟨⟨h1, h2⟩, h3⟩, h4⟩, h5⟩ := h
      split at h1
      · simp only [Bool.and_eq_true, decide_eq_true_eq] at h1
        obtain ⟨⟨⟨⟨a1, a2⟩, a3⟩, a4⟩, a5⟩ := h1
        exact s_setN2 x a1 a2 a3 a4 a5 h2 h3 h4 h5
      · simp only [Bool.and_eq_true, decide_eq_true_eq] at h1
        obtain ⟨⟨⟨⟨⟨⟨⟨⟨⟨⟨a1, a2⟩, a3⟩, a4⟩, a5⟩, a6⟩, a7⟩, a8⟩, a9⟩, a10⟩, a11⟩ := h1
        exact s_setN3 x a1 a2 a3 a4 a5 a6 a7 a8 a9 a10 a11 h2 h3 h4 h5
      · cases h1
    · cases h
  | .unp is e, st, h => by
    simp only [mS] at h
    split at h
    · obtain ⟨h1, h2, h3⟩ := and3 h
      exact s_unp x h1 h2 h3
    · cases h
  | .setIdx i k v, st, h => by
    simp only [mS] at h
    split at h
    · simp only [Bool.and_eq_true] at h
      exact s_setIdx x h.1.1.1 h.1.1.2 h.1.2 h.2
    · cases h
  | .app i e, st, h => by
    simp only [mS] at h
    split at h
    · simp only [Bool.and_eq_true, decide_eq_true_eq] at h
      obtain ⟨⟨⟨⟨h1, h2⟩, h3⟩, h4⟩, h5⟩ := h
      subst h1
      exact s_app x h2 h3 h4 h5
    · cases h
  | .expr e, st, h => by
    simp only [mS] at h
    split at h
    · rw [Bool.and_eq_true] at h
      exact s_expr x h.1 (okE pc N Ce lv cf hl e x.toXC x.hd h.2).pe
    · cases h
  | .ret e, st, h => by
    simp only [mS] at h
    split at h
    · exact s_ret (okE pc N Ce lv cf hl e x.toXC x.hd h).pe
    · cases h
  | .if_ c a b, st, h => by
    simp only [mS] at h
    split at h
    · obtain ⟨h1, h2, h3⟩ := and3 h
      exact s_if (okE pc N Ce lv cf hl c x.toXC x.hd h1).pt (okSs x mk a h2) (okSs x mk b h3)
    · cases h
  | .for_ tg it b, st, h => by
    simp only [mS] at h
    split at h
    · simp only [Bool.and_eq_true] at h
      obtain ⟨⟨⟨h1, h2⟩, h3⟩, h4⟩ := h
      exact s_for x h1 h2 (okI pc N Ce lv cf hl it tg x.toXC x.hd h3) (okSs x mk b h4)
    · cases h
  | .while_ c b, st, h => by
    simp only [mS] at h
    split at h
    · rw [Bool.and_eq_true] at h
      exact s_while x (okE pc N Ce lv cf hl c x.toXC x.hd h.1).pt (okSs x mk b h.2)
    · cases h
  | .raise c e, st, h => by
    simp only [mS] at h
    split at h
    · rename_i y p2 a p3 pos
      simp only [Bool.and_eq_true] at h
      obtain ⟨⟨⟨h1, h2⟩, h3⟩, h4⟩ := h
      obtain ⟨q, hq, eq⟩ := List.any_eq_true.mp h1
      rw [decide_eq_true_eq] at eq
      subst eq
      exact s_raise x (mk _ _ hq) h2 h3 (okE pc N Ce lv cf hl e x.toXC x.hd h4).pe
    · cases h
  | .brk, st, h => by
    simp only [mS] at h
    split at h
    · exact ps_imp ps_break fun D0 σ H ⟨O, S, E, p⟩ => p σ H O (GoS.refl _ _) E
    · cases h
  | .cnt, st, h => by
    simp only [mS] at h
    split at h
    · exact ps_imp ps_continue fun D0 σ H ⟨O, S, E, p⟩ => p σ H O (GoS.refl _ _) E
    · cases h
  | .pass, st, h => by
    simp only [mS] at h
    split at h
    · exact ps_imp ps_pass fun D0 σ H ⟨O, S, E, p⟩ => p σ H O (GoS.refl _ _) E
    · cases h
  | .lamInit i ks, st, h => by
    simp only [mS] at h
    split at h
    · simp only [Bool.and_eq_true, decide_eq_true_eq] at h
      obtain ⟨⟨⟨⟨⟨h0, h1⟩, h2⟩, h3⟩, h4⟩, h5⟩ := h
      exact s_lamInit x h0 h1 h2 h3 h4 h5
    · cases h
  | .lamApp i k, st, h => by
    simp only [mS] at h
    split at h
    · simp only [Bool.and_eq_true, decide_eq_true_eq] at h
      obtain ⟨⟨⟨⟨⟨h0, h1⟩, h2⟩, h3⟩, h4⟩, h5⟩ := h
      subst h1
      exact s_lamApp x h0 h2 h3 h4 h5
    · cases h
theorem okSs (x : XD pc N Ce lv cf hl C X sc W) (mk : ∀ y c, (y, c) ∈ pc.xs → MkAt Ce X y c) : ∀ (i : List Sx) {st : List Stmt}, mSs pc N sc i st = true → PSs X st (tS Ce C W (evalSs cf hl i))
  | [], [], _ => pss_imp pss_nil fun D0 σ H ⟨O, S, E, p⟩ => p σ H O (GoS.refl _ _) E
  | a :: r, s :: t, h => by
    simp only [mSs] at h
    rw [Bool.and_eq_true] at h
    exact s_cons (okS x mk a h.1) (okSs x mk r h.2)
  | [], _ :: _, h => by simp only [mSs] at h; cases h
  | _ :: _, [], h => by simp only [mSs] at h; cases h
end
end
end Pv

/-! Pv21: a def by its small text; all defs by fuel. -/
namespace Pv
open PySem L2
section
variable {P : Program} {w : World} {K : PySem.W.Frag} {mg : Str → Option Value} {base : Heap} {Ce : Ec}
theorem ArgsOk.get {K : PySem.W.Frag} {W : Option MA} {O : Addr → Prop} {H : Hp} {vs : List V} {xs : List Sl} (h : ArgsOk K W O H vs xs) {i : Nat} {x : Sl} (e : xs[i]? = some x) : ∃ v, vs[i]? = some v ∧ ArgOk K W O H v x := by
  induction h generalizing i with
  | nil => simp at e
  | cons a _ ih =>
    cases i with
    | zero => simp at e; subst e; exact ⟨_, rfl, a⟩
    | succ i =>
      obtain ⟨v, e1, e2⟩ := ih (by simpa using e)
      exact ⟨v, by simpa using e1, e2⟩
/-- the frame at the entry -/
theorem EOk.entry {W : Option MA} {O : Addr → Prop} {H : Hp} {vs : List V} {xs : List Sl} {g : G} {N : List Str} {slots : Nat} {T : List (Addr × Str)} {lm : Nat → Addr → Hp → Prop} {lmS : ∀ k f H H', Sub H H' → lm k f H → lm k f H'} (r : ArgsOk K W O H vs xs) (trk : ∀ b, O b → ∃ o, Ol o ∧ H b = some o) (mw : ∀ b, Mw W b → O b) (tbs : LamX.Tabs T H) (dok : DrawOk H W g) (hs : slots = N.length) (hl : xs.length ≤ slots) :
    EOk ⟨K, W, O, H, T, lm, lmS⟩ O (start N vs) H ⟨xs.map some ++ List.replicate (slots - xs.length) none, g⟩ := by
  have lv := r.len
  have at_ : ∀ (i : Nat) (x : Sl), (xs.map some ++ List.replicate (slots - xs.length) none)[i]? = some (some x) → xs[i]? = some x := by
    intro i x h
    by_cases hi : i < xs.length
    · rw [List.getElem?_append_left (by simpa using hi), List.getElem?_map] at h
      cases e : xs[i]? with
      | none => rw [e] at h; cases h
      | some a => rw [e] at h; cases h; rfl
    · rw [List.getElem?_append_right (by simpa using hi)] at h
      rw [List.getElem?_replicate] at h
      split at h <;> cases h
  refine ⟨fun i x h => ?_, fun i j x y a h1 _ o1 => ?_, trk, fun b h => h, mw, fun b o h _ _ => h, tbs, dok, ?_⟩
  · obtain ⟨v, e1, e2⟩ := r.get (at_ i x h)
    have hi : i < vs.length := (List.getElem?_eq_some_iff.mp e1).1
    have e3 : (start N vs)[i]? = some (some v) := by
      unfold L2.start
      rw [List.getElem?_append_left (by simpa using hi), List.getElem?_map, e1]; rfl
    cases x with
    | dat d => exact ⟨v, e3, e2⟩
    | mm => obtain ⟨m, k1, k2⟩ := e2; exact ⟨m, k1, by rw [e3, k2]⟩
    | own ds => exact e2.elim
    | thk _ => exact e2.elim
    | scr ns => obtain ⟨a, k1, k2⟩ := e2; exact ⟨a, by rw [e3, k1], k2⟩
  · obtain ⟨v, e1, e2⟩ := r.get (at_ i _ h1)
    cases x with
    | own ds => exact e2.elim
    | thk ks => exact e2.elim
    | _ => exact o1.elim
  · unfold L2.start
    rw [List.length_append, List.length_map, List.length_replicate]
    show _ = (xs.map some ++ List.replicate (slots - xs.length) none).length
    rw [List.length_append, List.length_map, List.length_replicate]
    omega
def lmNo : Nat → Addr → Hp → Prop := fun _ _ _ => False
theorem lmNoS : ∀ k f H H', Sub H H' → lmNo k f H → lmNo k f H' := fun _ _ _ _ _ h => h
/-- what makes exceptions, everywhere -/
def MkAll (P : Program) (w : World) (K : PySem.W.Frag) (mg : Str → Option Value) (base : Heap) (Ce : Ec) (lv : Nat) (xs : List (Str × Nat)) : Prop :=
  ∀ X : Cx, X.prog = P → X.w = w → X.K = K → X.mg = mg → X.base = base → X.calm = true → Room lv X.A → ∀ y c, (y, c) ∈ xs → MkAt Ce X y c
theorem spF_len {F : List Sl → G → CR} {n : Nat} {vs : List V} {H : Hp} {Q : VK} {E : XK} (h : spF K Ce (fun xs g => if xs.length = n then F xs g else .no) vs H Q E) : vs.length = n := by
  obtain ⟨W, O, xs, g, r, _, _, _, _, h⟩ := h
  rw [r.len]
  by_cases e : xs.length = n
  · exact e
  · dsimp only at h; rw [if_neg e] at h; exact h.elim
theorem df_ok {pc : Pc} {lv : Nat} {cf : Nat → List Sl → G → CR} {x qual : Str} {params : Arguments} {body : List Stmt} {scope : Scope} {dvs : List V} {kws : List (Str × V)} {fa : Addr} {fd : FuncData} {N ps : List Str} {d : Df} {hl : Nat → Sg → R D}
    (F : FunD K x qual params body scope dvs kws fa fd) (S : FnScope N ps scope) (hd : d.slots = N.length) (hm : mSs pc N scope d.body body = true) (hls : pc.lsc = none) (pf : Pf pc P w K mg base Ce lv cf) (mk : MkAll P w K mg base Ce lv pc.xs) :
    FnOk P w K mg base (L2.CX P w) (lv + 1) fa fd ps (spF K Ce fun xs g => if xs.length = ps.length then (evalSs cf hl d.body ⟨xs.map some ++ List.replicate (d.slots - xs.length) none, g⟩).cr else .no) := by
  refine F.ok S (fun vs H Q E h => spF_len h) fun cdv A outer s H vs Q E hr h => ?_
  obtain ⟨W, O, xs, g, r, trk, mw, tbs, dok, h⟩ := h
  have hlen : xs.length = ps.length := by
    by_cases e : xs.length = ps.length
    · exact e
    · dsimp only at h; rw [if_neg e] at h; exact h.elim
  dsimp only at h
  rw [if_pos hlen] at h
  have hpl : ps.length ≤ N.length := by have := congrArg List.length S.pre; rw [List.length_take] at this; omega
  generalize hX : cxOf (L2.CX P w) P w K mg base N qual scope fa cdv A outer s H E = X
  have xd : XD pc N Ce lv cf hl ⟨K, W, O, H, Ce.tb, lmNo, lmNoS⟩ X scope (fun cls d _ H' => E cls d H') := by
    subst hX
    exact { pf := pf, hN := rfl, nd := S.nd, sc := rfl, calm := rfl, K := rfl, tb := rfl, room := hr, takes := takes_of rfl rfl rfl rfl, hd0 := HdOk.no (by rw [hls]; intro z; cases z), lam := (fun z => by rw [hls] at z; cases z), fn := fun _ => rfl, kind := S.kind, own := passes_of rfl }
  refine ⟨tS Ce ⟨K, W, O, H, Ce.tb, lmNo, lmNoS⟩ (fun cls d _ H' => E cls d H') (evalSs cf hl d.body), okSs pc N Ce lv cf hl _ X scope _ xd (mk X (by subst hX; rfl) (by subst hX; rfl) (by subst hX; rfl) (by subst hX; rfl) (by subst hX; rfl) (by subst hX; rfl) xd.room) d.body hm, ?_⟩
  refine ⟨O, _, EOk.entry r trk mw tbs dok hd (by omega), ?_⟩
  generalize evalSs cf hl d.body ⟨xs.map some ++ List.replicate (d.slots - xs.length) none, g⟩ = f at h
  cases f with
  | nx s' => exact fun σ' H' O' gs E' => h .non H' ⟨E'.base_keep, E'.tabs, E'.dok⟩ .non
  | rt d' g' => exact h
  | er c d' s' => exact fun σ' dd v H' O' E' h1 h2 => h dd v H' ⟨E'.base_keep, E'.tabs, E'.dok⟩ h1 (rp_sub E'.out _ _ h2)
  | bk s' => exact h.elim
  | ct s' => exact h.elim
  | no => exact h.elim
end
end Pv
namespace Pv
open PySem L2
section
variable {P : Program} {w : World} {K : PySem.W.Frag} {mg : Str → Option Value} {base : Heap} {Ce : Ec}
theorem fn_no {lv : Nat} {fa : Addr} {fd : FuncData} {ps : List Str} : FnOk P w K mg base (L2.CX P w) lv fa fd ps (spF K Ce fun _ _ => .no) where
  len := fun vs H Q E h => by
    obtain ⟨_, _, _, _, _, _, _, _, _, h⟩ := h
    exact h.elim
  run := fun A outer s H args us vs Q E _ _ _ _ h => by
    obtain ⟨_, _, _, _, _, _, _, _, _, h⟩ := h
    exact h.elim
/-- all defs, whatever the fuel -/
theorem Pf.all {pc : Pc} {hs : Hd} {tab : Nat → Fn} (lv0 : Nat) (no : ∀ x, pc.nm.no.contains x = true → mg x = none) (gcd : pc.nm.gcd = true → mg ("gcd" : Str) = some (.builtin "math.gcd"))
    (gl : ∀ x d, (x, d) ∈ pc.gls → ∃ v u, mg x = some u ∧ RelV v u ∧ Rp K (fun _ => none) v d)
    (fn : ∀ f x n k, pc.fs[f]? = some (x, n, k) → ∃ fa fd ps, mg x = some (.ref fa) ∧ PySem.W.keepIn K (.ref fa) = true ∧ ps.length = n ∧
      (∀ nd, nd ≤ k → Binds K fd ps (List.replicate nd .none)) ∧
      (∀ m ks perm, (f, m, ks, perm) ∈ pc.kbs → ∀ (s : Shared) (us ws : List Value), K.In s.heap → us.length = m → ws.length = ks.length → BindsTo s fd ⟨us, ks.zip ws⟩ (ps.zip (perm.map fun j => (us ++ ws).getD j .none))) ∧
      ∀ m, Pf pc P w K mg base Ce (lv0 + m) (callF hs tab m) → FnOk P w K mg base (L2.CX P w) (lv0 + m + 1) fa fd ps (spF K Ce fun xs g => if xs.length = n then callF hs tab (m + 1) f xs g else .no)) :
    ∀ m, Pf pc P w K mg base Ce (lv0 + m) (callF hs tab m)
  | 0 => ⟨no, gcd, gl, fun f x n k e => by
      obtain ⟨fa, fd, ps, h1, h2, h3, h4, h5, h6⟩ := fn f x n k e
      refine ⟨fa, fd, ps, h1, h2, h3, ?_, h4, h5⟩
      have z : (fun (xs : List Sl) (g : G) => if xs.length = n then callF hs tab 0 f xs g else CR.no) = fun _ _ => CR.no := by
        funext xs g
        split <;> rfl
      rw [z]
      exact fn_no⟩
  | m + 1 => ⟨no, gcd, gl, fun f x n k e => by
      obtain ⟨fa, fd, ps, h1, h2, h3, h4, h5, h6⟩ := fn f x n k e
      exact ⟨fa, fd, ps, h1, h2, h3, h6 m (Pf.all lv0 no gcd gl fn m), h4, h5⟩⟩
end
end Pv

/-! Pv22: an own exception whose __init__ says super().__init__(text) and keeps its value. -/
namespace Pv
open PySem PySem.Spec PyProof.Rows L2
/-- the bound built-in __init__, called -/
theorem mw_call {prog : Program} {w : World} {A : Around} {E : Value → Shared → Prop} {h : Heap} {g : Array GenState} {d : Drawn} {t : Nat} {os : OsState} {nm q : Str} {C N : Addr} {bs bm : List Value} {hdct : Bool} {sn : List Str} {sub : List Value} {ab : Bool} {col : Option Bool} {dd : Option Addr} {k0 k1 k2 k3 k5 : Option Value} {u e t0 : Addr} {rest : List Value} {Q : Value → Shared → Prop}
    (hC : h.get? C = some (excClassObj nm q C N bs bm hdct sn sub ab col dd k0 k1 k2 k3 k5 "ValueError.__new__")) (he : h.get? e = some (PySem.HandSPX.excO C t0)) (hu : h.get? u = some (PySem.W.kxs_mw "ValueError.__init__" e)) (hz : rest.length ≤ sizeLine)
    (hq : ∀ h' t1, (∀ b o, b ≠ e → h.get? b = some o → h'.get? b = some o) → h'.get? e = some (PySem.HandSPX.excO C t1) → Q .none ⟨h', g, d, t, os⟩) :
    wpAny (model prog w) A (call (.ref u) rest) Q E ⟨h, g, d, t, os⟩ := by
  refine wpAny_call (codeAny_of_tree ?_)
  show wpAny _ A.in1 (callAny (.ref u) ⟨rest, []⟩) _ _ _
  have FB := F.excBase_ValueError
  simp only [callAny]
  refine wpAny_bind (wpAny_load hu ?_)
  simp only [PySem.W.kxs_mw, show ((Value.type "method-wrapper" == Value.type "method") || (Value.type "method-wrapper" == Value.type "builtin_function_or_method") || (Value.type "method-wrapper" == Value.type "method-wrapper")) = true from by decide, if_true]
  refine PySem.W.KFB.if_so (by decide) ?_
  refine wpAny_bind (PySem.W.check_bound_init FB.toExcCallFacts hC he rfl ?_)
  refine wpAny_bind (wpAny_pure (wpAny_pure ?_))
  refine ⟨plainId_quiet FB.init.plain _, codeAny_builtin FB.initEntry ?_⟩
  exact PySem.W.exc_init_tree (cls := .ref C) (t0 := t0) (dv := none) (c2 := .none) (c3 := .none) (b4 := .bool false) he hz fun h' k e' _ => hq h' _ k e'
/-- the text of such an __init__ -/
abbrev initB (pn att : Str) (z : Str) (j : Nat) (p0 p1 p2 p3 p4 p5 p6 p7 p8 p9 : Pos) : List Stmt :=
  [.Expr (.Call (.Attribute (.Call (.Name "super" p0) [] [] p1) "__init__" p2) [.Constant (.str z) j p3] [] p4) p5, .Assign [.Attribute (.Name "self" p6) att p7] (.Name pn p8) p9]
/-- what its scope is -/
structure InitS (pn : Str) (sc : Scope) : Prop where
  kind : sc.kind = .function
  co : sc.isCoroutine = false
  gen : sc.isGenerator = false
  self : sc.names.lookup ("self" : Str) = some .local
  par : sc.names.lookup pn = some .local
  ne : pn ≠ ("self" : Str)
  dbg : (pn == ("__debug__" : Str)) = false ∧ (pn == ("__classdict__" : Str)) = false
  sup : sc.names.lookup ("super" : Str) = some .globalImplicit
  cl : sc.names.lookup ("__class__" : Str) = some .free
  nocell : ∀ y ∈ sc.names, y.2 ≠ .cell
  free : ∀ y ∈ sc.names, y.2 = .free → y.1 = ("__class__" : Str)
/-- what the written part says of it -/
structure InitK (prog : Program) (K : PySem.W.Frag) (C fI cc : Addr) (att : Str) (name qual : Str) (params : Arguments) (body : List Stmt) (scope : Scope) (fd : FuncData) : Prop where
  oex : OexC K C
  def_ : ∃ oc od dV kV doc pm an cdv cda ct osl, fd = PySem.W.ksFn name qual params body scope dV kV doc pm an cdv ct cc ∧ K.lookup fI = some ⟨oc, od, .func fd, osl⟩ ∧ PySem.W.codeIn K cdv qual = true ∧ cdv = .ref cda ∧
    ∃ ccl cdd vs ccs file tf, K.lookup cda = some ⟨ccl, cdd, .fields vs, ccs⟩ ∧ vs[2]? = some (.str file tf) ∧ ((prog.main.file : Str) == file) = true
  cell : ∃ cl cld csl, K.lookup cc = some ⟨cl, cld, .cell (some (.ref C)), csl⟩
  cls : ∃ cd, PySem.W.clsIn K C = some cd ∧ PySem.W.alongIn K "__init__" ((cd.mro.dropWhile (· != .ref C)).drop 1) = some (some (.builtin "ValueError.__init__"))
  mro : PySem.W.mroIn K C (.ref C) = some true
  sub : PySem.W.subIn K (.ref C) (.type "ValueError") = some true
  third : PySem.W.nsIn K PySem.cStatics "thirdparty.any" = some none
  att : PySem.W.findIn K (.ref C) att = some none
  top : (prog.main.scope.names.lookup ("super" : Str)).isSome = false
  first : ∃ ar, (params.posonlyargs ++ params.args).head? = some ar ∧ ar.arg = ("self" : Str)
/-- the context of its body -/
def iCx (P : Program) (w : World) (K : PySem.W.Frag) (mg : Str → Option Value) (base : Heap) (pn qual : Str) (scope : Scope) (f cc : Addr) (cd : Value) (A : Around) (outer : List Env) (s : Shared) (H : Hp) : Cx where
  prog := P
  w := w
  K := K
  mg := mg
  base := base
  A := A.deeper (PySem.W.ksEnv qual scope s.heap.objs.size f cd cc)
  N := ["self", pn]
  s_0 := s
  H_0 := H
  env := PySem.W.ksEnv qual scope s.heap.objs.size f cd cc
  outer := outer
  stack := PySem.W.ksEnv qual scope s.heap.objs.size f cd cc :: outer
  ex := []
  calm := true
  fn := fun _ => false
  pn := []
  xe := fun _ _ => False
theorem one_lookup {cc c : Addr} {y : Str} (h : ([(("__class__" : Str), cc)] : List (Str × Addr)).lookup y = some c) : y = "__class__" ∧ c = cc := by
  by_cases e : y = ("__class__" : Str)
  · subst e
    simp at h
    exact ⟨rfl, h.symm⟩
  · have e' : (y == ("__class__" : Str)) = false := by simp [e]
    simp [List.lookup, e'] at h
section
variable {P : Program} {w : World} {K : PySem.W.Frag} {mg : Str → Option Value} {base : Heap}
theorem i_start {pn qual : Str} {scope : Scope} {f cc C : Addr} {cd : Value} {A : Around} {outer : List Env} {s : Shared} {H : Hp} {h₀ : Heap} {tk : Nat} {u0 u1 : Value} {v0 v1 : V} (S : InitS pn scope) (hd : A.handled = none) (e0 : Env0 P w K mg base A outer s H) (r0 : RelV v0 u0) (r1 : RelV v1 u1)
    (hcell : ∃ cl cld csl, K.lookup cc = some ⟨cl, cld, .cell (some (.ref C)), csl⟩)
    (hns : h₀.Ns s.heap.objs.size fun x => ([(("self" : Str), u0), (pn, u1)] : List (Str × Value)).reverse.lookup x) (kp : ∀ b o, s.heap.get? b = some o → h₀.get? b = some o) :
    L2.Inv (iCx P w K mg base pn qual scope f cc cd A outer s H) [] [some v0, some v1] H { s with heap := h₀, toks := tk } := by
  obtain ⟨cl, cld, csl, hcl⟩ := hcell
  have KX : K.In s.heap := e0.mod.kin.keeps fun b o e => (e0.bs b o e).1
  have hcs := KX _ _ hcl
  have noA : ∀ b : Addr, b ∉ (iCx P w K mg base pn qual scope f cc cd A outer s H).ex := fun b z => absurd (show b ∈ ([] : List Addr) from z) (by simp)
  have hcc : H cc = none := (e0.bs cc _ (e0.mod.kin _ _ hcl)).2
  refine ⟨⟨e0.mod, S.kind, rfl, rfl, Nat.le_refl _, fun y z c e1 e2 => ?_, fun y hy => ?_, fun y c z _ => ?_, fun _ => hd, Around.frames_deeper e0.frames, .inr ⟨rfl, rfl⟩, fun b z => absurd z (noA b), e0.bs, e0.bsz, fun b _ _ => noA b, fun b z => absurd z (noA b), e0.funs, e0.frf⟩,
    rfl, e0.bare, Un.kept kp, ⟨_, hns, fun i y v e1 e2 e3 => ?_⟩, fun y c e => ?_, e0.hok.fresh (Nat.le_refl _), fun y c e => ?_, fun q hq => absurd (show q ∈ ([] : List (Addr × Obj)) ++ [] from hq) (by simp), e0.hok.kept kp, rfl⟩
  · exact (one_lookup e1).1.trans (one_lookup e2).1.symm
  · have hy : scope.names.lookup y = some .cell ∨ scope.names.lookup y = some .free := hy
    rcases hy with k | k
    · exact absurd rfl (S.nocell _ (PySem.mem_of_lookup k))
    · have := S.free _ (PySem.mem_of_lookup k) rfl
      have e : y = ("__class__" : Str) := this
      subst e
      exact ⟨cc, by simp [iCx]⟩
  · have z : false = true := z
    cases z
  · have hx : (pn == ("self" : Str)) = false := by simp [S.ne]
    have hx2 : (("self" : Str) == pn) = false := by simp [Ne.symm S.ne]
    match i, e1, e2 with
    | 0, e1, e2 =>
      have e1 : some ("self" : Str) = some y := e1
      cases e1
      cases e2
      refine ⟨u0, r0, .inl ⟨S.self, ?_⟩⟩
      show ([(pn, u1), (("self" : Str), u0)] : List (Str × Value)).lookup ("self" : Str) = some u0
      simp [List.lookup, hx2]
    | 1, e1, e2 =>
      have e1 : some pn = some y := e1
      cases e1
      cases e2
      refine ⟨u1, r1, .inl ⟨S.par, ?_⟩⟩
      show ([(pn, u1), (("self" : Str), u0)] : List (Str × Value)).lookup pn = some u1
      simp [List.lookup]
    | i + 2, e1, e2 => cases e2
  · have e := (one_lookup e).2
    subst e
    exact ⟨_, _, kp _ _ hcs, rfl⟩
  · have e := (one_lookup e).2
    subst e
    exact hcc
end
end Pv

/-! Pv23: __init__ keeps its promise; exceptions are made. -/
namespace Pv
open PySem PySem.Spec PyProof.Rows L2
def spI (C : Addr) (att : Str) : Sp := fun vs H Q _ => ∃ (a : Addr) (v : V), vs = [.ref a, v] ∧ H a = some (exo a C none) ∧ ∀ dx, H dx = none → dx ≠ a → Q .non (upd (upd H dx (exd dx [(att, v)])) a (exo a C (some dx)))
theorem mcall_line {o e : Expr} {n : Str} {p2 p4 : Pos} {env : Env} (hln : (p2.endLine == p4.line) = true) (hs : starEach [e] env = [(false, eval e env)]) : eval (.Call (.Attribute o n p2) [e] [] p4) env = (do
      let ov ← attributeBase o n env (eval o env)
      standAt p2.atName
      let (f, first) ← holding [ov] (getMethod ov n (do return (← importBound o env).getD true))
      callWith p4 f first (backTo p4 (starEach [e] env)) []) := by
  have e1 : methodCallPos true o env p2 p4 = pure p4 := by
    unfold methodCallPos
    rw [if_pos (by rw [hln]; rfl)]
  have e2 : ∀ ov, methodCall o n p2 p4 env ov 1 (backTo p4 (starEach [e] env)) [] = (do
      let (f, first) ← holding [ov] (getMethod ov n (do return (← importBound o env).getD true))
      callWith p4 f first (backTo p4 (starEach [e] env)) []) := fun ov => by
    rw [hs]
    show (do
      let (f, first) ← holding [ov] (calleeOf true o env ov n)
      let callPos ← methodCallPos true o env p2 p4
      callWith callPos f first (backTo p4 [(false, eval e env)]) []) = _
    rw [e1]
    rfl
  show (do
    let ov ← attributeBase o n env (eval o env)
    standAt p2.atName
    methodCall o n p2 p4 env ov 1 (backTo p4 (starEach [e] env)) []) = _
  simp only [e2]
section
variable {P : Program} {w : World} {K : PySem.W.Frag} {mg : Str → Option Value} {base : Heap}
theorem init_ok {C fI cc : Addr} {pn att z name qual : Str} {params : Arguments} {scope : Scope} {fd : FuncData} {j : Nat} {p0 p1 p2 p3 p4 p5 p6 p7 p8 p9 : Pos} (hln : (p2.endLine == p4.line) = true) (IK : InitK P K C fI cc att name qual params (initB pn att z j p0 p1 p2 p3 p4 p5 p6 p7 p8 p9) scope fd) (S : InitS pn scope) (hm : mg ("super" : Str) = none) :
    FnOk P w K mg base (L2.CX P w) 2 fI fd [("self" : Str), pn] (spI C att) := by
  refine ⟨fun vs H Q E ⟨a, v, e, _⟩ => by rw [e]; rfl, fun A outer s H args us vs Q E hr e0 hb r hsp => ?_⟩
  obtain ⟨a, v, rfl, ha, hq⟩ := hsp
  obtain ⟨oc, od, dV, kV, doc, pm, an, cdv, cda, ct, osl, rfl, lk, hcd, rfl, ccl, cdd, cvs, ccs, file, tf, lkc, hvs, hfile⟩ := IK.def_
  obtain ⟨cd, hcls, halong⟩ := IK.cls
  obtain ⟨ar, har, harg⟩ := IK.first
  have KX : K.In s.heap := e0.mod.kin.keeps fun b o e => (e0.bs b o e).1
  have lim : s.heap.NoLimit := e0.mod.nolimit.keeps fun b o e => (e0.bs b o e).1
  obtain ⟨u0, u1, rfl, r0, r1⟩ : ∃ u0 u1, us = [u0, u1] ∧ RelV (.ref a) u0 ∧ RelV v u1 := by
    cases r with
    | cons q0 r =>
      cases r with
      | cons q1 r =>
        cases r
        exact ⟨_, _, rfl, q0, q1⟩
  have eu : u0 = Value.ref a := r0
  subst eu
  refine PySem.ks_codeAny_call_defAt (fd := PySem.W.ksFn name qual params (initB pn att z j p0 p1 p2 p3 p4 p5 p6 p7 p8 p9) scope dV kV doc pm an (.ref cda) ct cc) hr.depth (KX _ _ lk) rfl lim (PySem.W.codeRec_of KX hcd) rfl hb S.nocell (fun x hx => ?_) (fun h₀ hns kp => ?_) S.co S.gen S.kind
  · have hx : x ∈ [(("self" : Str), Value.ref a), (pn, u1)] := hx
    rcases List.mem_cons.mp hx with e | hx
    · subst e; exact S.self
    · rcases List.mem_cons.mp hx with e | hx
      · subst e; exact S.par
      · cases hx
  generalize hX : iCx P w K mg base pn qual scope fI cc (.ref cda) A outer s H = X
  have I0 : L2.Inv X [] [some (.ref a), some v] H { s with heap := h₀, toks := s.toks + ([("self" : Str), pn].zip [Value.ref a, u1]).length } := by
    subst hX
    exact i_start (C := C) S hr.hd e0 r0 r1 IK.cell hns kp
  have henv : callEnv (PySem.W.ksFn name qual params (initB pn att z j p0 p1 p2 p3 p4 p5 p6 p7 p8 p9) scope dV kV doc pm an (.ref cda) ct cc) s.heap.objs.size fI = X.env := by subst hX; rfl
  have hA : A.deeper X.env = X.A := by subst hX; rfl
  rw [henv, hA]
  -- the second statement and the end
  have second : ∀ s1, L2.Inv X [] [some (.ref a), some v] H s1 → wpAny (model P w) X.A (execs [.Assign [.Attribute (.Name "self" p6) att p7] (.Name pn p8) p9] X.env) (fun f s' => L2.CR (L2.CX P w) outer P w H s Q E (.ok (.ret (match f with | .ret v => v | _ => .none))) s') (fun _ _ => False) s1 := by
    intro s1 I1
    have hXN : X.N = [("self" : Str), pn] := by subst hX; rfl
    have hsc : X.env.scope = scope := by subst hX; rfl
    have hxe : X.xe = fun _ _ => False := by subst hX; rfl
    have hKX : X.K = K := by subst hX; rfl
    have pS := ps_ost (X := X) (f := att) (pos := p9) (p' := p7) (pe_var (pos := p6) (i := 0) (x := ("self" : Str)) (by rw [hXN]; rfl) (.inl (by rw [hsc]; exact S.self))) (pe_var (pos := p8) (i := 1) (x := pn) (by rw [hXN]; rfl) (.inl (by rw [hsc]; exact S.par)) S.dbg.1 S.dbg.2)
    have hPX : X.prog = P := by subst hX; rfl
    have hwX : X.w = w := by subst hX; rfl
    have q := (pss_one pS).run [] s1 [some (.ref a), some v] H { nx := fun _ H' => Q .non H', rt := fun _ _ => False } I1
      ⟨v, rfl, .ref a, rfl, a, C, rfl, by rw [hKX]; exact IK.oex, by rw [hKX]; exact IK.att, .inl ⟨ha, fun dx h1 h2 => hq dx h1 h2⟩⟩
    rw [hPX, hwX, hxe] at q
    refine wpAny_mono q (fun f s' h => ?_) fun _ _ h => h
    cases f with
    | next =>
      obtain ⟨σ', H', J, q3⟩ := h
      subst hX
      exact ⟨.non, H', J.os, J.bare, J.base, J.hok, rfl, q3⟩
    | ret u => obtain ⟨_, _, _, _, _, h⟩ := h; exact h.elim
    | brk => obtain ⟨_, _, _, h⟩ := h; exact h.elim
    | cont => obtain ⟨_, _, _, h⟩ := h; exact h.elim
  have KX0 : K.In h₀ := KX.keeps kp
  obtain ⟨t1, hao⟩ := exo_at I0.hok ha
  obtain ⟨nm, q, N', bs, bm, sn, sub, ab, col, dd, k0, k1, k2, k3, k5, hCl, hbm⟩ := IK.oex.cls
  obtain ⟨cl, cld, csl, hcl⟩ := IK.cell
  obtain ⟨mb, hb1, hb2⟩ := I0.mod.blt
  have hmgX : X.mg = mg := by subst hX; rfl
  have hglX : X.env.globals = mainGlobals := by subst hX; rfl
  have hblX : X.env.builtins = builtinsNs := by subst hX; rfl
  have hscX : X.env.scope = scope := by subst hX; rfl
  have hD1 : ∃ oD, h₀.get? C = some oD ∧ oD.data = .cls cd := by
    unfold PySem.W.clsIn at hcls
    split at hcls
    · rename_i ho
      cases hcls
      exact ⟨_, KX0 _ _ ho, rfl⟩
    · cases hcls
  obtain ⟨oD, hD, hDd⟩ := hD1
  refine PySem.ks_wpAt_mono (E := fun _ _ => False) ?_ (fun _ _ h => h) fun _ _ h => h.elim
  refine PySem.ks_wpAt_execs_cons (PySem.ks_wpAt_Expr_any (PySem.ks_wpAt_MethodCall ?_ (mcall_line hln rfl)) (by subst hX; show interactive _ = false; simp [interactive, iCx, S.kind])) 
  refine PySem.ks_wpAt_super_base (f := fI) (cc := cda) (ar := ar) (by subst hX; exact S.sup) (by subst hX; exact S.cl) (by decide) (by subst hX; rfl) (KX0 _ _ lk) rfl har (by subst hX; rfl) (KX0 _ _ lkc) rfl hvs hfile IK.top ?_
  rw [harg]
  have bk0 : ∀ {b : Addr} {m : Str → Option Value}, X.base.Ns b m → h₀.Ns b m := fun n => n.keeps I0.bk
  refine PySem.W.ks_loadName_global (by rw [hscX]; exact S.kind) (by show X.env.scope.names.lookup _ = _; rw [hscX]; exact S.sup) (PySem.Calls.loadGlobal_builtin (mg := X.mg) (mb := mb) (by rw [hglX]; exact bk0 I0.mod.glob) (by rw [hmgX]; exact hm) (by rw [hblX]; exact bk0 hb1) ((hb2 _ (by decide)).trans (by decide +kernel)) ⟨rfl, ?_⟩)
  refine wpAny_loadName_free (by rw [hscX]; exact S.kind) (by show X.env.scope.names.lookup _ = _; rw [hscX]; exact S.cl) (c := cc) (by subst hX; simp [iCx]) ⟨_, KX0 _ _ hcl, rfl⟩ ?_
  refine wpAny_loadName_local (by rw [hscX]; exact S.kind) (by show X.env.scope.names.lookup _ = _; rw [hscX]; exact S.self) (by subst hX; exact hns) (v := .ref a) ?_ ?_
  · have hx2 : (("self" : Str) == pn) = false := by simp [Ne.symm S.ne]
    show ([(pn, u1), (("self" : Str), Value.ref a)] : List (Str × Value)).lookup ("self" : Str) = some (.ref a)
    simp [List.lookup, hx2]
  refine PySem.ks_wpAny_isType_cls hD hDd ⟨rfl, ?_⟩
  refine PySem.ks_wpAny_call_super hD hDd hao rfl (fun c e => by cases e) (PySem.W.looks_mroIn KX0 IK.mro) fun h1 hso k1 => ?_
  have KX1 : K.In h1 := KX0.keeps k1
  have hxC : a ≠ C := fun e => by
    rw [e] at hao
    rw [hao] at hD
    cases hD
    cases hDd
  have I1 : PySem.W.InstAt h1 a (PySem.HandSPX.excO C t1) C none := ⟨k1 _ _ hao, rfl, rfl, trivial⟩
  refine PySem.W.kxs_getMethod PySem.W.kxs_ValueError hso (PySem.W.looks_opaque KX1 IK.third) (l₀ := cd.mro) ?_ rfl KX1 halong (I1.type.andThen (PySem.W.looks_subIn KX1 IK.sub)) hxC (by decide) ?_
  · exact fun A Q E s k q => wpAny_bind ((PySem.W.looks_clsIn KX1 hcls) A _ E s k (wpAny_pure q))
  refine PySem.W.kxs_callWith (i := "ValueError.__init__") (x := a) rfl (PySem.Calls.evalArgs_plain (PySem.Calls.spliced_cons (PySem.Calls.Constant_str (k := j) (pos := p3) (PySem.Calls.spliced_nil ⟨?_, ?_⟩))))
  · exact Heap.get?_push_size _ rfl
  have k2 : ∀ b o, h₀.get? b = some o → (h1.push (PySem.W.kxs_mw "ValueError.__init__" a)).get? b = some o := fun b o e => Heap.get?_push_of_some _ (k1 b o e)
  refine mw_call (KX1.keeps (fun b o e => Heap.get?_push_of_some _ e) _ _ hCl) (k2 _ _ hao) (Heap.get?_push_size _ rfl) (by rw [sizeLine_eq]; show 1 ≤ 16777216; decide) fun h' t2 k' e' => ?_
  have J1 : L2.Inv X [] [some (.ref a), some v] H ⟨h1.push (PySem.W.kxs_mw "ValueError.__init__" a), s.gens, s.drawn, s.toks, s.os⟩ := I0.kept k2
  have J2 := J1.write (t' := s.toks) (x := a) (e := a) (o := exo a C none) (by rw [ha]; exact True.intro) (.inl rfl) (fun b o hb e => k' b o hb e) ⟨_, e'⟩ (exo_ok e')
  have eu : upd H a (exo a C none) = H := by
    funext b
    by_cases hb : b = a
    · rw [hb, upd_same, ha]
    · rw [upd_ne hb]
  rw [eu] at J2
  exact wpAt_of_wpAny (second _ (J2.kept fun b o e => e))
end
end Pv
namespace Pv
open PySem PySem.Spec PyProof.Rows L2
/-- what the written part says of a class whose exceptions are raised -/
structure ExK (prog : Program) (K : PySem.W.Frag) (mg : Str → Option Value) (y : Str) (C : Addr) (att : Str) : Prop where
  ex : ∃ (fI cc : Addr) (pn z name qual : Str) (params : Arguments) (scope : Scope) (fd : FuncData) (j : Nat) (p0 p1 p2 p3 p4 p5 p6 p7 p8 p9 : Pos),
    InitK prog K C fI cc att name qual params (initB pn att z j p0 p1 p2 p3 p4 p5 p6 p7 p8 p9) scope fd ∧ InitS pn scope ∧ (p2.endLine == p4.line) = true ∧ PySem.W.findIn K (.ref C) "__init__" = some (some (.ref fI)) ∧ PySem.W.typeIn K (.ref fI) = some (.type "function") ∧ Binds K fd [("self" : Str), pn] []
  gl : mg y = some (.ref C)
  dbg : (y == ("__debug__" : Str)) = false
theorem mk_at {Ce : Ec} {X : Cx} {y : Str} {c : Nat} (E : ExK X.prog X.K X.mg y (Ce.cls c) (Ce.att c)) (hm : X.mg ("super" : Str) = none) (hr : Room 3 X.A) : MkAt Ce X y c := by
  intro e te p pos hg hs mono he
  obtain ⟨fI, cc, pn, z, name, qual, params, scope, fd, j, p0, p1, p2, p3, p4, p5, p6, p7, p8, p9, IK, S, hl, iC, tI, hb⟩ := E.ex
  have F1 := init_ok (w := X.w) (mg := X.mg) (base := X.base) hl IK S hm
  have q := pmk_oex (pos := pos) (p := p) IK.oex iC tI F1 hr hb .nil passL hg E.gl (pa_cons he pa_nil (star_cons hs)) E.dbg (star_cons hs)
  intro pins s σ H Q I h
  refine q pins s σ H Q I ?_
  refine mono σ H _ _ (fun v H1 h1 => ⟨by show 1 ≤ 1000; decide, fun a ha => ?_⟩) h
  refine ⟨a, v, rfl, upd_same, fun dx k1 k2 => ⟨rfl, dx, [(Ce.att c, v)], upd_same, ?_, ?_, ?_⟩⟩
  · rw [upd_ne k2, upd_same]
  · rw [upd_ne k2] at k1; exact k1
  · rw [upd_ne k2] at k1
    have e1 : upd (del (upd (upd (upd H1 a (exo a (Ce.cls c) none)) dx (exd dx [(Ce.att c, v)])) a (exo a (Ce.cls c) (some dx))) a) dx (.xd [(Ce.att c, v)]) = upd H1 dx (.xd [(Ce.att c, v)]) := by
      funext b
      by_cases hb : b = dx
      · rw [hb, upd_same, upd_same]
      · rw [upd_ne hb, upd_ne hb]
        by_cases hb2 : b = a
        · rw [hb2, del_same, ha]
        · rw [del_ne hb2, upd_ne hb2, upd_ne hb, upd_ne hb2]
    rw [e1]
    exact h1 dx k1
end Pv

/-! Pv24: several except clauses, each with a name. -/
namespace Pv
open PySem PySem.Spec PyProof.Rows L2
abbrev Suit := Addr → Value → Option Addr → TS
/-- behind such a suite its name is gone -/
def Ends.gone (D : Ends) (i : Nat) : Ends := ⟨fun τ G => D.nx (τ.set i none) G, D.rt, fun τ G => D.bk (τ.set i none) G, fun τ G => D.ct (τ.set i none) G⟩
/-- what the clauses wish: each a class, a slot, the suite's reading -/
def wClauses (K : PySem.W.Frag) (Wo : WX) (D : Ends) : List (Value × Nat × Suit) → WX
  | [] => Wo
  | (c, i, ts) :: r => fun cls d σ H => ∃ b, PySem.W.exmOne K cls c = some b ∧ (b = true → ∀ e, H e = none → ts e cls d (Ends.gone D i) (σ.set i (some (.ref e))) H) ∧ (b = false → wClauses K Wo D r cls d σ H)
inductive ClOk (X : Cx) : List ExceptHandler → List (Value × Nat × Suit) → Prop
  | nil : ClOk X [] []
  | cons {x n : Str} {c : Value} {i : Nat} {ts : Suit} {st : Stmt} {sts : List Stmt} {np hp : Pos} {hds : List ExceptHandler} {l : List (Value × Nat × Suit)} (hc : Names X x c) (hi : X.N[i]? = some n) (hk : X.env.kindOf n = some .local)
      (hsu : ∀ (e : Addr) (oe : Obj) (cls : Value) (d : Option Addr) (pn : List (Addr × Obj)), Zc cls d oe → (∃ vs, oe.data = .fields vs) → PSs (X.suite e ((e, oe) :: pn)) (st :: sts) (ts e cls d)) (r : ClOk X hds l) :
      ClOk X (.ExceptHandler (some (.Name x np)) (some n) (st :: sts) hp :: hds) ((c, i, ts) :: l)
section
variable {X : Cx} {body : List Stmt} {hd1 : ExceptHandler} {hds : List ExceptHandler} {l : List (Value × Nat × Suit)} {pos : Pos} {tb : WX → TS} {Wo : WX}
theorem SP.ofTry {pins pn' : List (Addr × Obj)} {xe : Value → Shared → Prop} {D : Ends} (ok : X.Ok) {f : Flow} {s : Shared} (h : SP (X.tr (X.pn ++ pins) xe) pn' D f s) : SP X pins D f s := by
  cases f with
  | next => obtain ⟨τ, G, J, q⟩ := h; exact ⟨τ, G, J.ofTry ok, q⟩
  | brk => obtain ⟨τ, G, J, q⟩ := h; exact ⟨τ, G, J.ofTry ok, q⟩
  | cont => obtain ⟨τ, G, J, q⟩ := h; exact ⟨τ, G, J.ofTry ok, q⟩
  | ret u => obtain ⟨v, τ, G, J, r, q⟩ := h; exact ⟨v, τ, G, J.ofTry ok, r, q⟩
theorem ps_clauses (hs : X.stack = X.env :: X.outer) (hf : X.env.frame = some X.env.locals) (hN : X.N.Nodup) (tk : Takes X Wo)
    (hb : ∀ (W : WX) (pn : List (Addr × Obj)) (xe : Value → Shared → Prop), Takes (X.tr pn xe) W → PassesOwn (model X.prog X.w) X.A X.env xe → PSs (X.tr pn xe) body (tb W))
    (hh : ClOk X (hd1 :: hds) l) : PS X (.Try body (hd1 :: hds) [] [] pos) (fun D σ H => tb (wClauses X.K Wo D l) D σ H) := by
  refine ⟨fun pins s σ H D I h => ?_⟩
  have ok := I.ok
  have frm : X.A.frames = some (X.env :: X.outer) := ok.frames.trans (by rw [hs])
  refine wpAny_Try_except (wpAny_mono ((hb (wClauses X.K Wo D l) (X.pn ++ pins) (fun ev sa => wpAny (model X.prog X.w) X.A (noteFrame ev X.env) (fun _ sb => wpAny (model X.prog X.w) X.A (setFlight ev none) (fun _ sc =>
    wpAny (model X.prog X.w) X.A (handleBy ev X.env (hd1 :: hds)) (SP X pins D) X.xe sc) X.xe sb) X.xe sa) (fun u s' xx => ?_) PassesOwn.looking).run [] s σ H D (I.toTry _) h) (fun f s1 hsp => ?_) (fun ev s1 z => z))
  · obtain ⟨e, B, sI, pins', σ', H', cls, d, rfl, J', nb, up, sky, na, os, ag, wsh⟩ := xx
    have J : L2.Inv X pins σ' H' sI := J'.ofTry ok
    have sky' : Sky B (X.env :: X.outer) e (Zc cls d) X.env.locals s'.heap := by rw [← hs]; exact sky
    show wpAny (model X.prog X.w) X.A (noteFrame (.ref e) X.env) _ _ _
    refine Sky.land Zc.steady frm hf sky' fun g3 fl3 up3 => ?_
    have J3 : L2.Inv X pins σ' H' { s' with heap := g3 } := J.landed nb fl3.1 (up.trans up3) os ag
    obtain ⟨oe3, vs3, at3, z3, d3⟩ := fl3.there
    have nfr : e ∉ frs (X.env :: X.outer) := fun hm => by
      obtain ⟨_, o', e', hnf⟩ := fl3.2.2.1.mem hm
      rw [at3] at e'
      cases e'
      exact hnf _ d3
    have nL : e ≠ X.env.locals := fun z => nfr (List.mem_filterMap.mpr ⟨X.env, List.mem_cons_self, hf.trans (by rw [z])⟩)
    have nF : e ∉ X.fs := fun hm => by
      obtain ⟨ev, m1, m2⟩ := List.mem_filterMap.mp hm
      exact nfr (List.mem_filterMap.mpr ⟨ev, .tail _ m1, m2⟩)
    have S3 := J3.suite at3 d3 na nL nF
    suffices go : ∀ {hs' : List ExceptHandler} {l' : List (Value × Nat × Suit)}, ClOk X hs' l' → wClauses X.K Wo D l' cls d σ' H' → wpAny (model X.prog X.w) X.A (handleBy (.ref e) X.env hs') (SP X pins D) X.xe { s' with heap := g3 } from go hh wsh
    intro hs' l' hk
    induction hk with
    | nil =>
      intro wsh
      refine wpAny_handleBy_nil ?_
      obtain ⟨_, _, _, oe, vs, T, _, _, he, _, hd, h1, _⟩ := id fl3
      unfold PySem.passOn
      refine wpAny_bind (wpAny_field he hd h1 ?_)
      rw [if_neg (by simp : ¬ ((Value.ref T == Value.none) = true))]
      have fin : wpAny (model X.prog X.w) X.A (setFlight (.ref e) X.env.frame) (fun _ sd => wpAny (model X.prog X.w) X.A (throw (.ref e) : Sem Flow) (SP X pins D) X.xe sd) X.xe { s' with heap := g3 } := by
        rw [hf]
        exact HandSPX.setFlight_upZ fl3 fun g4 hg4 up4 => wpAny_throw (tk _ _ ⟨e, B, sI, pins, σ', H', cls, d, rfl, J, nb, (up.trans up3).trans up4, .inr (.inr (hs.symm ▸ hg4)), na, os, ag, wsh⟩)
      first
        | exact wpAny_bind (wpAny_pure (wpAny_bind fin))
        | exact wpAny_bind fin
    | @cons x n c i ts st sts np hp hds2 l2 hc hi hk hsu r ih =>
      intro wsh
      obtain ⟨b, hb1, yes, no⟩ := wsh
      refine wpAny_handleBy_cons (codeAny_handlers_test ?_) (by intro q; cases q)
      have LT : PySem.W.Looks (model X.prog X.w) g3 (typeOf (.ref e)) cls := fun A Q E s k q => wpAny_typeOf_ref (k _ _ at3) (z3.1.symm ▸ q)
      have LM := PySem.W.exm_one (M := model X.prog X.w) J3.kIn LT hb1
      have test : ∀ {Q : Value → Shared → Prop} {E : Value → Shared → Prop}, Q c { s' with heap := g3 } → wpAny (model X.prog X.w) (X.A.mark (some (.ref e))) (eval (.Name x np) X.env) Q E { s' with heap := g3 } := by
        intro Q E q
        obtain ⟨hg, hdbg, hm⟩ := hc
        rcases hm with hm | ⟨hm, hv, hnn⟩
        · exact ld_glob (X := X.suite e ((e, oe3) :: (X.pn ++ pins))) S3 hg hm q hdbg
        · exact ld_blt (X := X.suite e ((e, oe3) :: (X.pn ++ pins))) S3 hg hm hv q hnn hdbg
      refine test (LM.here ?_)
      cases b with
      | false => exact ih (no rfl)
      | true =>
        refine codeAny_handlers_suite_as (HandSPX.lands_againZ fl3 fun g4 fl4 up4 => ?_)
        have J4 : L2.Inv X pins σ' H' { s' with heap := g4 } := J.landed nb fl4.1 ((up.trans up3).trans up4) os ag
        obtain ⟨oe4, vs4, at4, z4, d4⟩ := fl4.there
        have S4 := J4.suite at4 d4 na nL nF
        refine store_ok (X := X.suite e ((e, oe4) :: (X.pn ++ pins))) (v := .ref e) S4 hN hi (.inl hk) rfl (fun s5 S5 => ?_) (.inr hk)
        refine wpAny_mono ((hsu e oe4 cls d (X.pn ++ pins) z4 ⟨_, d4⟩).run [] s5 _ H' _ S5 (yes rfl e na)) (fun f s6 hsp => ?_) (fun _ _ z => z.elim)
        have out : ∀ {τ : L2.St} {G : Hp} {Q : Shared → Prop}, L2.Inv (X.suite e ((e, oe4) :: (X.pn ++ pins))) [] τ G s6 → (∀ s7, L2.Inv X pins (τ.set i none) G s7 → Q s7) → wpAny (model X.prog X.w) X.A (do bindName X.env n .none; unbindBehindTheSuite X.env n hp) (fun _ s7 => Q s7) X.xe s6 :=
          fun S6 hq => gone_ok (S6.unsuite ok) hN hi hk hq
        cases f with
        | next => obtain ⟨τ, G, S6, q6⟩ := hsp; exact out S6 fun s7 J7 => ⟨_, _, J7, q6⟩
        | brk => obtain ⟨τ, G, S6, q6⟩ := hsp; exact out S6 fun s7 J7 => ⟨_, _, J7, q6⟩
        | cont => obtain ⟨τ, G, S6, q6⟩ := hsp; exact out S6 fun s7 J7 => ⟨_, _, J7, q6⟩
        | ret u => obtain ⟨v6, τ, G, S6, r6, q6⟩ := hsp; exact out S6 fun s7 J7 => ⟨_, _, _, J7, r6, q6⟩
  · have q := SP.ofTry ok hsp
    cases f with
    | next => exact wpAny_execs_nil q
    | brk => exact q
    | cont => exact q
    | ret u => exact q
end
end Pv

/-! Pv25: lambdas without parameters: made, kept, called. -/
namespace Pv
open PySem PySem.Spec PyProof.Rows L2 LamX
/-- a lambda's object at f -/
def LamO (X : Cx) (params : Arguments) (body : Expr) (scope : Scope) (f c' : Addr) (pm ctv : Value) : HO :=
  .ext fun h => h.get? f = some (PySem.W.kla_obj "<lambda>" (X.env.qual ++ "<lambda>") params body scope (cloFrom X.env.cells scope.names []) pm c' ctv)
theorem nt_ext (φ : Heap → Prop) : Nt (.ext φ) := fun _ z => nomatch z
/-- at f stands such a lambda, its code is known -/
def LamIs (X : Cx) (params : Arguments) (body : Expr) (scope : Scope) (f : Addr) (H : Hp) : Prop :=
  ∃ (c' : Addr) (pm ctv : Value), H f = some (LamO X params body scope f c' pm ctv) ∧ H c' = some (CodeO c' (X.env.qual ++ "<lambda>"))
theorem LamIs.sub {X : Cx} {params : Arguments} {body : Expr} {scope : Scope} {f : Addr} {H H' : Hp} (s : Sub H H') (h : LamIs X params body scope f H) : LamIs X params body scope f H' := by
  obtain ⟨c', pm, ctv, h1, h2⟩ := h
  exact ⟨c', pm, ctv, s _ _ h1, s _ _ h2⟩
section
variable {X : Cx} {pins : List (Addr × Obj)} {σ : L2.St} {H : Hp} {s : Shared}
theorem lam_new {T : List (Addr × Str)} {c P : Addr} {params : Arguments} {body : Expr} {scope : Scope} {pos : Pos} {E : Value → Shared → Prop} {Q : Value → Shared → Prop} (I : L2.Inv X pins σ H s) (TB : TabB X.base X.mg c P) (hcode : X.env.code = .ref c)
    (hm : (P, X.env.qual ++ "<lambda>") ∈ T) (hu : ∀ p ∈ T, p.1 = P → p.2 = X.env.qual ++ "<lambda>") (hT : Tabs T H) (hdef : defaultsOf params X.env = ([], [])) (hfree : ∀ y ∈ scope.names, y.2 = .free → ∃ c, X.env.cells.lookup y.1 = some c)
    (h : ∀ (f : Addr) (H1 : Hp) (s' : Shared), L2.Inv X pins σ H1 s' → ExtN H H1 → Tabs T H1 → LamIs X params body scope f H1 → H f = none → Q (.ref f) s') : wpAny (model X.prog X.w) X.A (eval (.Lambda params body scope pos) X.env) Q E s := by
  obtain ⟨ps, tP, trip, hcs⟩ := hT _ hm
  have bP : s.heap.BuiltinsAt X.mg P := TB.bm.keeps I.bk
  have atP : s.heap.get? P = some { cls := .none, data := .fields ps } := I.hok P _ tP
  have hcl := closure_ok (env := X.env) hfree
  have hgl := I.mod.glob.keeps I.bk
  have hch := TB.code.keeps I.bk
  refine PySem.W.kla_eval hdef ?_
  -- behind a state in which the code is known, the object is laid
  have lay : ∀ {H1 : Hp} {h1 : Heap} {tk1 tk2 : Nat} {c' : Addr} {pm ctv : Value}, L2.Inv X pins σ H1 { s with heap := h1, toks := tk1 } → ExtN H H1 → Tabs T H1 → H1 c' = some (CodeO c' (X.env.qual ++ "<lambda>")) → s.heap.objs.size ≤ h1.objs.size →
      Q (.ref h1.objs.size) { s with heap := h1.push (PySem.W.kla_obj "<lambda>" (X.env.qual ++ "<lambda>") params body scope (cloFrom X.env.cells scope.names []) pm c' ctv), toks := tk2 } := by
    intro H1 h1 tk1 tk2 c' pm ctv I1 eN T1 hc' hsz
    have hn : H1 h1.objs.size = none := I1.hok.fresh (Nat.le_refl _)
    have at_ : (h1.push (PySem.W.kla_obj "<lambda>" (X.env.qual ++ "<lambda>") params body scope (cloFrom X.env.cells scope.names []) pm c' ctv)).get? h1.objs.size = some _ := Heap.get?_push_size _ rfl
    have I2 : L2.Inv X pins σ (upd H1 h1.objs.size (LamO X params body scope h1.objs.size c' pm ctv)) { s with heap := h1.push (PySem.W.kla_obj "<lambda>" (X.env.qual ++ "<lambda>") params body scope (cloFrom X.env.cells scope.names []) pm c' ctv), toks := tk2 } :=
      I1.laid (t' := tk2) (fun b u e => Heap.get?_push_of_some _ e) (Nat.le_refl _) ⟨at_, ⟨_, at_⟩, fun g1 g2 z k => k _ z⟩
    have up : ∀ b o, H1 b = some o → upd H1 h1.objs.size (LamO X params body scope h1.objs.size c' pm ctv) b = some o := fun b o e => by rw [upd_ne (ne_of_none e hn)]; exact e
    exact h _ _ _ I2 (eN.trans (ExtN.of up)) (T1.ext up) ⟨c', pm, ctv, upd_same, up _ _ hc'⟩ (I.hok.fresh hsz)
  cases hc : codeAmong pos ps.toList with
  | some cv =>
    obtain ⟨c', e, hco⟩ := hcs pos cv hc
    subst e
    refine PySem.W.kla_makeFunctionHit (mg := X.mg) (c := c) (P := P) (ps := ps) hcl I.ok.glob hgl hcode hch atP trip hc bP fun ctv h' tk hx hsz => ?_
    exact lay (tk1 := tk) (I.kept (h' := h') hx) (ExtN.refl H) hT hco hsz
  | none =>
    refine PySem.W.kla_makeFunction (mg := X.mg) (c := c) (P := P) (ps := ps) hcl I.ok.glob hgl hcode hch atP trip hc TB.gP bP fun c' ctv h' tk hx hge hlt hrec htb => ?_
    obtain ⟨c2, oc, vs, t, e2, hoc, hd, hv⟩ := hrec
    cases e2
    have nC : H c' = none := I.hok.fresh hge
    have I1 := inv_table (t' := tk) (q := X.env.qual ++ "<lambda>") (more := #[rawInt pos.line, rawInt pos.col, .ref c']) (h' := h') I tP (fun b o hb e => hx b o hb e) htb hge ⟨oc, vs, t, hoc, hd, hv⟩
    generalize hH1 : upd (upd H P (.tbl (ps ++ #[rawInt pos.line, rawInt pos.col, .ref c']))) c' (CodeO c' (X.env.qual ++ "<lambda>")) = H1 at I1
    have eN : ExtN H H1 := fun b o e n => by
      rw [← hH1, upd_ne (ne_of_none e nC), upd_ne (fun z => n ps (Option.some.inj (e.symm.trans (by rw [z]; exact tP))))]
      exact e
    have cH1 : H1 c' = some (CodeO c' (X.env.qual ++ "<lambda>")) := by rw [← hH1]; exact upd_same
    have eL : (ps ++ #[rawInt pos.line, rawInt pos.col, .ref c']).toList = ps.toList ++ [rawInt pos.line, rawInt pos.col, .ref c'] := by simp
    refine lay I1 eN (fun p hp => ?_) cH1 (Nat.le_trans hge (Nat.le_of_lt hlt))
    by_cases hb : p.1 = P
    · rw [hu p hp hb, hb]
      refine ⟨_, (by rw [← hH1, upd_ne (ne_of_none tP nC), upd_same]), (by rw [eL]; exact PySem.TriplesOk_snoc _ _ _ _ trip), fun p' cv hcv => ?_⟩
      rw [eL] at hcv
      rcases among_app _ trip hcv with z | z
      · obtain ⟨c0, e1, e2⟩ := hcs p' cv z
        exact ⟨c0, e1, eN _ _ e2 codeO_ne⟩
      · exact ⟨c', z, cH1⟩
    · obtain ⟨ps', a1, a2, a3⟩ := hT p hp
      refine ⟨ps', (by rw [← hH1, upd_ne (ne_of_none a1 nC), upd_ne hb]; exact a1), a2, fun p' cv hcv => ?_⟩
      obtain ⟨c0, e1, e2⟩ := a3 p' cv hcv
      exact ⟨c0, e1, eN _ _ e2 codeO_ne⟩
/-- x(), in the def that got the lambda -/
theorem lam_act {CXg : CXT} {Eg : XK} {Ng : List Str} {qg : Str} {sg : Scope} {g f : Addr} {cdg : Value} {params : Arguments} {body : Expr} {scope : Scope} {k i : Nat} {a : Str} {pn : List (Addr × Obj)} {xe : Value → Shared → Prop} {W : WX} {E : XK} {tb : TE} {p1 p2 : Pos}
    (I : L2.Inv X pins σ H s) (L : LamS X.env.scope scope)
    (hbind : ∀ (pm cv ctv : Value), bindArgs (PySem.W.kla_fn "<lambda>" (X.env.qual ++ "<lambda>") params body scope (cloFrom X.env.cells scope.names []) pm cv ctv) ⟨[], []⟩ = pure [])
    (tk : Takes ((cxOf CXg X.prog X.w X.K X.mg X.base Ng qg sg g cdg X.A X.stack s H Eg).tr pn xe) W) (hW : ∀ cls d σ' H', σ'.length = Ng.length → E cls d H' → W cls d σ' H') (hr : Room (k + 1) (X.A.deeper (envOfC qg sg s.heap.objs.size g cdg)))
    (hbody : ∀ (A : Around) (outer : List Env) (s : Shared) (H : Hp) (c' : Addr), Room k (A.deeper (lamEnv X scope s.heap.objs.size f c')) → PE (lamCx X A outer s H E scope f c') body tb)
    (hN : Ng[i]? = some a) (hv : Vis sg a) (hd : (a == ("__debug__" : Str)) = false) (hcd : (a == ("__classdict__" : Str)) = false) :
    PE ((cxOf CXg X.prog X.w X.K X.mg X.base Ng qg sg g cdg X.A X.stack s H Eg).tr pn xe) (.Call (.Name a p1) [] [] p2) (fun σZ HZ Q => σZ[i]? = some (some (.ref f)) ∧ LamIs X params body scope f HZ ∧ tb σ HZ Q) := by
  refine ⟨fun pinsZ sZ σZ HZ Q IZ h => ?_⟩
  obtain ⟨hs, hlam, ht⟩ := h
  refine wpAny_Call_Name_kw (thn ((pe_var (pos := p1) (i := i) hN hv hd hcd).run pinsZ sZ σZ HZ (fun v H1 => v = .ref f ∧ H1 = HZ) IZ ⟨.ref f, hs, rfl, rfl⟩) fun u s1 ⟨v, H1, I1, r1, ev, eH⟩ => ?_)
  subst ev eH
  obtain rfl : u = Value.ref f := r1
  obtain ⟨c', pm, ctv, hf, hc⟩ := hlam
  have of1 : s1.heap.get? f = some (PySem.W.kla_obj "<lambda>" (X.env.qual ++ "<lambda>") params body scope (cloFrom X.env.cells scope.names []) pm c' ctv) := (I1.hok f _ hf).1
  refine PySem.W.callWith_F0 ⟨_, _, _, _, of1⟩ ?_
  have un : Un (frs X.stack) [] H H1 s.heap s1.heap := I1.base
  obtain ⟨⟨oc, vs, t, hoc, hdc, hvc⟩, _, _⟩ := I1.hok c' _ hc
  have rc : codeAny (model X.prog X.w) (X.A.deeper (envOfC qg sg s.heap.objs.size g cdg)) (.call (.ref f) ⟨[], []⟩) (L2.CR (L2.CX X.prog X.w) (envOfC qg sg s.heap.objs.size g cdg :: X.stack) X.prog X.w H1 s1 Q E) s1 := by
    refine PySem.W.kla_callFunE hr.depth of1 rfl L.co L.gen rfl ⟨c', oc, vs, t, rfl, hoc, hdc, hvc⟩ ?_
    rw [hbind]
    refine wpAny_pure (wpAny_newFunctionEnv (fun y hy => (L.own y hy).2) (fun y hy => absurd hy (by simp)) (fun h₁ hns hsb => ⟨I1.nolimit.fresh _ hsb, ?_⟩) L.kind)
    show codeAny _ _ (.expr body (lamEnv X scope s1.heap.objs.size f c')) _ _
    have kp : ∀ b o, s1.heap.get? b = some o → h₁.get? b = some o := fun b o e => hsb.extBut b o (Nat.ne_of_lt (Heap.lt_size e)) (Heap.get?_push_of_some _ e)
    have J : L2.Inv (lamCx X (X.A.deeper (envOfC qg sg s.heap.objs.size g cdg)) (envOfC qg sg s.heap.objs.size g cdg :: X.stack) s1 H1 E scope f c') [] σ H1 { s1 with heap := h₁, toks := s1.toks + ([] : List (Str × Value)).length } :=
      lam_start2 I L I1.env0 hr.hd un hns kp
    refine PySem.W.kla_codeExpr (wpAny_mono ((hbody _ _ s1 H1 c' (hr.deeper _)).run [] _ _ H1 Q J ht) (fun v s' hq => ?_) fun e s' hq => hq)
    obtain ⟨w', H', J', rv, q⟩ := hq
    exact ⟨w', H', J'.os, J'.bare, J'.base, J'.hok, rv, q⟩
  have hlenZ : σZ.length = Ng.length := I1.len
  refine wpAny_call (codeAny_mono rc fun r s' hq => ?_)
  cases r with
  | error e => exact tk e s' (XE.of_call I1 (fun cls d H' h => hW cls d σZ H' hlenZ h) hq)
  | ok fl =>
    cases fl with
    | ret u => exact I1.after hq
    | next => exact hq.elim
    | brk => exact hq.elim
    | cont => exact hq.elim
end
end Pv

/-! Pv26: a comprehension whose element may ask the def's own frame. -/
namespace Pv
open PySem PySem.Spec PyProof.Rows L2
section
variable {X : Cx} {pins : List (Addr × Obj)} {σ : L2.St} {H : Hp} {s : Shared}
/-- as HandS's rule for comprehensions, without tests; the element is told how the def's invariants come back -/
theorem lc_back {Q : VK} {elt tg iter : Expr} {scope : Scope} {own : List (Str × Nat)} {pos : Pos} {wi : TI} {g : TG} {te : TE} (hc : X.calm = true) (hN : X.N.Nodup) (I : L2.Inv X pins σ H s) (hi : PI X tg iter wi) (ok : BlkOk X.N X.env.scope scope own)
    (hg : ∀ (s : Shared) (H : Hp) (C : Addr) (cl : List (Str × Addr)) (fp : List Addr), PG (X.blk s H scope (compEnvC scope cl C X.env) fp) tg g)
    (he : ∀ (s0 : Shared) (H0 : Hp) (C : Addr) (cl : List (Str × Addr)) (fp : List Addr), (∀ pins' σ' H' s', L2.Inv (X.blk s0 H0 scope (compEnvC scope cl C X.env) fp) pins' σ' H' s' → L2.Inv X pins σ H' s') → PE (X.blk s0 H0 scope (compEnvC scope cl C X.env) fp) elt te)
    (hs : ∀ x, foldedSetIterable iter X.env x = pure x) (h : tLc wi g tYes te (own.map (·.2)) σ H Q) : wpAny (model X.prog X.w) X.A (eval (.ListComp elt [⟨tg, iter, [], 0⟩] scope pos) X.env) (EP X pins σ Q) X.xe s := by
  have hfree : ∀ y ∈ scope.names, y.2 = .free → ∃ c, X.env.cells.lookup y.1 = some c := fun y hy e => (ok.free y hy e).elim (fun k => I.ok.has _ (.inl k)) fun k => I.ok.has _ (.inr k)
  rw [eval_ListComp]
  refine wpAny_comprehension_free (use := none) rfl hs (closure_ok hfree) ok.kind (fun y hy e => (ok.uniq y hy).trans (by rw [e])) (thn (hi.run pins s σ H _ I h) fun xv s1 hx => thn hx fun itv s2 h2 => ?_)
  obtain ⟨it, fp, tn, J, H2, e, I2, T, st2, f2, q⟩ := h2
  subst e
  refine wpAny_newObj_type (newEnv_comp ?_) (Nat.zero_le _)
  generalize hD : s2.heap.objs.size = D
  have hDn : H2 D = none := I2.hok.fresh (Nat.le_of_eq hD)
  obtain ⟨Wv, ⟨m0, w0⟩, turn⟩ := q D hDn
  generalize hs3 : ({ s2 with heap := s2.heap.push { cls := .type "list", data := .seq ([] : List Value).toArray } } : Shared) = s3
  have h3 : s3.heap = s2.heap.push { cls := .type "list", data := .seq ([] : List Value).toArray } := hs3 ▸ rfl
  have I3 : L2.Inv X pins σ (upd H2 D (.lst [])) s3 := by
    subst hs3
    exact I2.laid (t' := s2.toks) (fun b o e => Heap.get?_push_of_some _ e) (Nat.le_of_eq hD) ⟨Nat.zero_le _, [], 0, .nil, hD ▸ Heap.get?_push_size _ rfl⟩
  have f3 : ∀ b ∈ fp, FpOk X pins (upd H2 D (.lst [])) b ∧ b < s3.heap.objs.size := fun b hb => by
    obtain ⟨o, e, _⟩ := T.obj _ _ st2 b hb
    have hlt : b < s2.heap.objs.size := Heap.lt_size e
    exact ⟨⟨(upd_ne (by rw [← hD]; exact Nat.ne_of_lt hlt)).trans (f2 b hb).1, (f2 b hb).2⟩, by rw [h3, Heap.size_push]; exact Nat.lt_succ_of_lt hlt⟩
  have st3 : tn 0 s3.heap := T.keep _ _ _ st2 fun b _ o e => h3 ▸ Heap.get?_push_of_some _ e
  have I4 := block_start I3 ok hN f3
  -- the def's invariants from the block's
  have back : ∀ pins' σ' H' s', L2.Inv (X.blk s3 (upd H2 D (.lst [])) scope (compEnvC scope (cellsFrom (s3.heap.objs.size + 1) scope.names (cloFrom X.env.cells scope.names [])) s3.heap.objs.size X.env) fp) pins' σ' H' s' → L2.Inv X pins σ H' s' :=
    fun pins' σ' H' s' J' => I3.call' (ch := fp) J'.os J'.base J'.hok J'.bare fun b hb => ⟨(f3 b hb).1.2.2.2.1, (f3 b hb).1.2.1, (f3 b hb).1.2.2.2.2.1, (f3 b hb).1.2.2.2.2.2⟩
  have pg := hg s3 (upd H2 D (.lst [])) s3.heap.objs.size (cellsFrom (s3.heap.objs.size + 1) scope.names (cloFrom X.env.cells scope.names [])) fp
  have pe := he s3 (upd H2 D (.lst [])) s3.heap.objs.size (cellsFrom (s3.heap.objs.size + 1) scope.names (cloFrom X.env.cells scope.names [])) fp back
  show codeAny _ _ (.compStart (.ListComp elt [⟨tg, iter, [], 0⟩] scope pos) 0 (.ref it) (.ref D) (compEnvC scope (cellsFrom (s3.heap.objs.size + 1) scope.names (cloFrom X.env.cells scope.names [])) s3.heap.objs.size X.env)) (compPost (model X.prog X.w) X.A X.xe none (fun v s' => EP X pins σ Q v s') (.ref D) s3.heap.objs.size) { s3 with heap := pushCells (s3.heap.push { cls := .type "dict", data := .dict #[] }) scope.names }
  have nfp : ∀ b ∈ fp, (upd H2 D (.lst [])) b = none := fun b hb => (f3 b hb).1.1
  generalize hce : compEnvC scope (cellsFrom (s3.heap.objs.size + 1) scope.names (cloFrom X.env.cells scope.names [])) s3.heap.objs.size X.env = ce at I4 pg pe back ⊢
  have cL : ce.locals = s3.heap.objs.size := hce ▸ rfl
  generalize hH3 : upd H2 D (.lst []) = H3 at I3 I4 pg pe back w0 nfp f3
  generalize hs4 : ({ s3 with heap := pushCells (s3.heap.push { cls := .type "dict", data := .dict #[] }) scope.names } : Shared) = s4 at I4 ⊢
  have st4 : tn 0 s4.heap := T.keep _ _ _ st3 fun b _ o e => hs4 ▸ pushCells_keeps _ _ _ _ (Heap.get?_push_of_some _ e)
  have stat : ∀ {σ' : L2.St} {H' : Hp} {s' : Shared}, L2.Inv (X.blk s3 H3 scope ce fp) [] σ' H' s' → (∀ b ∈ fp, H' b = none) → ∀ b ∈ fp, FpOk (X.blk s3 H3 scope ce fp) [] H' b := fun I' hn b hb =>
    ⟨hn b hb, (I'.ok.exf b hb).1, I'.ok.exfs b hb, .inl hb, fun x c e => (I'.ok.exf b hb).2 x c e, fun p hp => absurd (show p ∈ ([] : List (Addr × Obj)) ++ [] from hp) (by simp)⟩
  suffices loop : codeAny (model X.prog X.w) X.A (.compLoop (.ListComp elt [⟨tg, iter, [], 0⟩] scope pos) 0 (.ref it) (.ref D) ce) (compPost (model X.prog X.w) X.A X.xe none (fun v s' => EP X pins σ Q v s') (.ref D) s3.heap.objs.size) s4 from codeAny_compStart_list loop (T.self X.A 0 _ _ _ st4 loop)
  refine compLoop_any (fun n s' => ∃ i H', L2.Inv (X.blk s3 H3 scope ce fp) [] (wipe σ (own.map (·.2))) H' s' ∧ tn i s'.heap ∧ (∀ b ∈ fp, H' b = none) ∧ Wv i n H') ?_ m0 ⟨0, H3, I4, st4, nfp, w0⟩
  rintro n s5 ⟨i, H5, I5, st5, n5, w5⟩
  rcases turn i n H5 w5 with ⟨stop, qq⟩ | ⟨go, Nx, hNx, step⟩
  · refine thnF (T.done (X.blk s3 H3 scope ce fp) rfl rfl rfl hc i [] s5 _ H5 (fun _ _ => False) I5 (stat I5 n5) st5 stop) fun r s6 ⟨hr, I6⟩ => ?_
    subst hr
    have I7 := back _ _ _ _ I6
    have nC : H5 s3.heap.objs.size = none := by
      have z : H5 ce.locals = none := I6.free
      rw [cL] at z
      exact z
    obtain ⟨m, hn, _⟩ := I6.loc
    have hn : s6.heap.Ns ce.locals m := hn
    rw [cL] at hn
    obtain ⟨q0, q1, q2, q3, q4, q5⟩ := I3.fpOk (Nat.le_refl _) nC
    exact ⟨m, hn, fun h'' sb => ⟨.ref D, H5, I7.turned (t' := s6.toks) (fun b o hb e => (sb.2 b hb).trans e) q0 q1 q3 q4 q5, rfl, qq⟩⟩
  · refine thnF (T.item (X.blk s3 H3 scope ce fp) rfl rfl rfl hc i [] s5 _ H5 (fun _ _ => False) I5 (stat I5 n5) st5 go) fun r s6 ⟨u, hr, h6⟩ => ?_
    subst hr
    refine thnF h6 fun _ s7 ⟨x, H7, I7, r7, y7, st7, n7⟩ => ?_
    have I7' := I7.pinned (stat I7 n7) (T.obj _ _ st7)
    refine thnF (pg.run _ s7 _ H7 x u _ I7' r7 (step x H7 y7)) fun _ s8 ⟨σ8, H8, I8, hw8, q8⟩ => ?_
    refine wpAny_tests_nil ?_
    have q8 := q8
    simp only [if_true] at q8 ⊢
    refine thnF (pe.run _ s8 σ8 H8 _ I8 q8) fun z s10 ⟨yv, G, J, r10, acc, hDG, hz, nx⟩ => ?_
    refine app_ok (X := X.blk s3 H3 scope ce fp) J hDG hz r10 fun s11 J11 => ?_
    obtain ⟨m', hm, w'⟩ := hNx _ nx
    have pin' : ∀ b ∈ fp, ∀ o, s7.heap.get? b = some o → s11.heap.get? b = some o ∧ upd G D (.lst (acc ++ [yv])) b = none := fun b hb o e =>
      let z := J11.pin (b, o) (List.mem_append_right _ (List.mem_append_right _ (mem_pinsAt hb e)))
      ⟨z.1, z.2.1⟩
    have hl : (wipe σ (own.map (·.2))).length = σ8.length := by rw [← hw8, wipe_length]
    refine ⟨m', hm, i + 1, _, (J11.unpinned (pins := [])).weak hl (fun k v e => ?_), T.keep _ _ _ st7 fun b hb o e => (pin' b hb o e).1, fun b hb => ?_, w'⟩
    · rw [← hw8] at e
      exact (wipe_some e).1
    · obtain ⟨o, e, _⟩ := T.obj _ _ st7 b hb
      exact (pin' b hb o e).2
end
end Pv

/-! Pv27: _law_heard: what a lambda tells, or the exception's word and value. -/
namespace Pv
open PySem PySem.Spec PyProof.Rows L2 LamX
/-- a clause: the class's name, its number, the word, the field -/
abbrev Cl := Str × Nat × Str × Str
def mClause (t e : Str) (q : Cl) : ExceptHandler → Bool
  | .ExceptHandler (some (.Name x _)) (some n) [.Assign [.Name t' _] (.List [.Constant (.str w) _ _, .Attribute (.Name e' _) att _] _) _] _ => decide (x = q.1) && decide (n = e) && decide (t' = t) && decide (w = q.2.2.1) && decide (e' = e) && decide (att = q.2.2.2)
  | _ => false
def mHeard (a t e : Str) (qs : List Cl) : List Stmt → Bool
  | [.Try [.Assign [.Name t1 _] (.List [.Constant (.str w) _ _, .Call (.Name a' _) [] [] _] _) _] hds [] [] _, .Return (some (.Name t2 _)) _] => decide (t1 = t) && decide (w = ("told" : Str)) && decide (a' = a) && decide (t2 = t) && !hds.isEmpty && all2 (mClause t e) qs hds
  | _ => false
structure HScope (a t e : Str) (sg : Scope) (qs : List Cl) : Prop where
  fs : FnScope [a, t, e] [a] sg
  la : sg.names.lookup a = some .local
  lt : sg.names.lookup t = some .local
  le : sg.names.lookup e = some .local
  oa : okName a = true
  ot : okName t = true
  oe : okName e = true
  qs : ∀ q ∈ qs, glB sg q.1 = true ∧ okName q.1 = true
/-- what the written part says of the classes that are caught -/
structure HK (K : PySem.W.Frag) (mg : Str → Option Value) (Ce : Ec) (qs : List Cl) : Prop where
  mg : ∀ q ∈ qs, mg q.1 = some (.ref (Ce.cls q.2.1))
  att : ∀ q ∈ qs, Ce.att q.2.1 = q.2.2.2
  xf : ∀ q ∈ qs, XfC K (Ce.cls q.2.1) ∧ PySem.W.findIn K (.ref (Ce.cls q.2.1)) q.2.2.2 = some none
  exm : ∀ q ∈ qs, ∀ r ∈ qs, PySem.W.exmOne K (.ref (Ce.cls q.2.1)) (.ref (Ce.cls r.2.1)) = some (decide (q.2.1 = r.2.1))
def hdOf (qs : List Cl) : Hd := qs.map fun q => (q.2.1, q.2.2.1)
def tsOf (Ce : Ec) (q : Cl) : Suit := fun ev cls d => tAsg (tLst (tCons (tC (.str q.2.2.1)) (tCons (tXf ev cls d (Ce.cls q.2.1) q.2.2.2 (tVar 2)) tNil))) (gName 1)
def clsOf (Ce : Ec) (qs : List Cl) : List (Value × Nat × Suit) := qs.map fun q => (.ref (Ce.cls q.2.1), 2, tsOf Ce q)
/-- what is wanted of an exception that is caught -/
def HE (Ce : Ec) (qs : List Cl) (Q : VK) : XK := fun cls d H => ∃ (c : Nat) (w : Str) (dd : Addr) (v : V), (hdOf qs).lookup c = some w ∧ cls = .ref (Ce.cls c) ∧ d = some dd ∧ H dd = some (.xd [(Ce.att c, v)]) ∧ ∀ p, H p = none → Q (.ref p) (upd H p (.lst [.str w, v]))
section
variable {K : PySem.W.Frag} {mg : Str → Option Value} {Ce : Ec} {qs : List Cl} {Q : VK}
theorem lookup_mem {c : Nat} {w : Str} : ∀ {qs : List Cl}, (hdOf qs).lookup c = some w → ∃ q ∈ qs, q.2.1 = c
  | [], h => by cases h
  | q :: qs, h => by
    by_cases e : c = q.2.1
    · exact ⟨q, by simp, e.symm⟩
    · have e' : (c == q.2.1) = false := by simp [e]
      simp only [hdOf, List.map_cons, List.lookup, e'] at h
      obtain ⟨r, h1, h2⟩ := lookup_mem (qs := qs) h
      exact ⟨r, by simp [h1], h2⟩
/-- the clauses take it -/
theorem he_clauses (hk : HK K mg Ce qs) (D : Ends) (hD : ∀ τ G v, τ[1]? = some (some v) → Q v G → D.nx τ G) {cls : Value} {d : Option Addr} {σ' : L2.St} {H : Hp} (hl : σ'.length = 3) (h : HE Ce qs Q cls d H) : wClauses K WNo D (clsOf Ce qs) cls d σ' H := by
  obtain ⟨c, w, dd, v, h1, rfl, rfl, h4, h5⟩ := h
  obtain ⟨qc, hqc, rfl⟩ := lookup_mem h1
  have key : ∀ {l : List Cl}, (∀ r ∈ l, r ∈ qs) → (hdOf l).lookup qc.2.1 = some w → wClauses K WNo D (clsOf Ce l) (.ref (Ce.cls qc.2.1)) (some dd) σ' H := by
    intro l
    induction l with
    | nil => intro _ z; cases z
    | cons r l ih =>
      intro hm z
      refine ⟨decide (qc.2.1 = r.2.1), hk.exm qc hqc r (hm r (by simp)), fun hb ev hev => ?_, fun hb => ?_⟩
      · have e : qc.2.1 = r.2.1 := of_decide_eq_true hb
        have e' : (qc.2.1 == r.2.1) = true := by simp [e]
        simp only [hdOf, List.map_cons, List.lookup, e'] at z
        cases z
        have s2 : (σ'.set 2 (some (V.ref ev)))[2]? = some (some (.ref ev)) := List.getElem?_set_self (by omega)
        refine ⟨.ref ev, s2, rfl, by rw [e], dd, _, v, rfl, h4, ?_, by rw [sizeLine_eq]; show 2 ≤ 16777216; decide, fun p hp => ?_⟩
        · rw [e, hk.att r (hm r (by simp))]
          simp [List.lookup]
        · refine hD _ _ (.ref p) ?_ (h5 p hp)
          rw [List.getElem?_set_ne (by decide), List.getElem?_set_self (by rw [List.length_set]; omega)]
      · have e : ¬ qc.2.1 = r.2.1 := of_decide_eq_false hb
        have e' : (qc.2.1 == r.2.1) = false := by simp [e]
        simp only [hdOf, List.map_cons, List.lookup, e'] at z
        exact ih (fun q hq => hm q (by simp [hq])) z
  exact key (fun r hr => hr) h1
end
section
variable {P : Program} {w : World} {K : PySem.W.Frag} {mg : Str → Option Value} {base : Heap} {Ce : Ec} {qs : List Cl}
theorem clOk {X : Cx} {a t e : Str} (hN : X.N = [a, t, e]) (S : HScope a t e X.env.scope qs) (hk : HK X.K X.mg Ce qs) : ∀ {l : List Cl} {hds : List ExceptHandler}, (∀ r ∈ l, r ∈ qs) → all2 (mClause t e) l hds = true → ClOk X hds (clsOf Ce l)
  | [], [], _, _ => .nil
  | [], _ :: _, _, h => by cases h
  | _ :: _, [], _, h => by cases h
  | q :: l, hd :: hds, hm, h => by
    have h : (mClause t e q hd && all2 (mClause t e) l hds) = true := h
    rw [Bool.and_eq_true] at h
    obtain ⟨h1, h2⟩ := h
    unfold mClause at h1
    split at h1
    · simp only [Bool.and_eq_true, decide_eq_true_eq] at h1
      obtain ⟨⟨⟨⟨⟨rfl, rfl⟩, rfl⟩, rfl⟩, rfl⟩, rfl⟩ := h1
      have hq := hm q (by simp)
      obtain ⟨g1, g2⟩ := S.qs q hq
      refine .cons ⟨gl_of rfl g1, (okName_of g2).1, .inl (hk.mg q hq)⟩ (by rw [hN]; rfl) S.le (fun ev oe cls d pn hz hf => ?_) (clOk hN S hk (fun r hr => hm r (by simp [hr])) h2)
      exact pss_one (ps_set (X := X.suite ev ((ev, oe) :: pn)) (i := 1) (by show X.N.Nodup; rw [hN]; exact S.fs.nd) (by show X.N[1]? = _; rw [hN]; rfl) (.inl S.lt) (pe_lst (pa_cons pe_str (pa_cons (pe_xf (hk.xf q hq).1 (hk.xf q hq).2 hz hf (pe_var (X := X.suite ev ((ev, oe) :: pn)) (i := 2) (by show X.N[2]? = _; rw [hN]; rfl) (.inl S.le) (okName_of S.oe).1 (okName_of S.oe).2) rfl) pa_nil rfl) rfl)) rfl (.inr S.lt))
    · cases h1
/-- the body keeps it -/
theorem heard_body {a t e : Str} {body : List Stmt} {qg : Str} {sg : Scope} {g f : Addr} {cdg : Value} {A : Around} {outer : List Env} {s : Shared} {H : Hp} {Q : VK} {Lm : Hp → Prop} {tl : XK → Hp → VK → Prop} (S : HScope a t e sg qs) (hk : HK K mg Ce qs) (hm : mHeard a t e qs body = true)
    (act : ∀ (W : WX) (pn : List (Addr × Obj)) (xe : Value → Shared → Prop) (E : XK) (p1 p2 : Pos), Takes ((cxOf (L2.CX P w) P w K mg base [a, t, e] qg sg g cdg A outer s H (fun _ _ _ => False)).tr pn xe) W → (∀ cls d σ' H', σ'.length = 3 → E cls d H' → W cls d σ' H') →
      PE ((cxOf (L2.CX P w) P w K mg base [a, t, e] qg sg g cdg A outer s H (fun _ _ _ => False)).tr pn xe) (.Call (.Name a p1) [] [] p2) (fun σZ HZ Q => σZ[0]? = some (some (.ref f)) ∧ Lm HZ ∧ tl E HZ Q))
    (tlM : ∀ E H Q Q', (∀ v H1, Q v H1 → Q' v H1) → tl E H Q → tl E H Q') (hLm : Lm H) (ht : tl (HE Ce qs Q) H (fun v H1 => ∀ p, H1 p = none → Q (.ref p) (upd H1 p (.lst [.str ("told" : Str), v])))) :
    ∃ tr, PSs (cxOf (L2.CX P w) P w K mg base [a, t, e] qg sg g cdg A outer s H (fun _ _ _ => False)) body tr ∧ tr { nx := fun _ H' => Q .non H', rt := Q } (L2.start [a, t, e] [.ref f]) H := by
  unfold mHeard at hm
  split at hm
  · rename_i t1 pt1 w1 j1 pw1 a1 pa1 pc1 pl1 ps1 hds ptry t2 pt2 pret
    simp only [Bool.and_eq_true, decide_eq_true_eq] at hm
    obtain ⟨⟨⟨⟨⟨rfl, rfl⟩, rfl⟩, rfl⟩, hne⟩, hall⟩ := hm
    generalize hX : cxOf (L2.CX P w) P w K mg base [a1, t2, e] qg sg g cdg A outer s H (fun _ _ _ => False) = X at act ⊢
    have hN : X.N = [a1, t2, e] := by subst hX; rfl
    have hsc : X.env.scope = sg := by subst hX; rfl
    have hXK : X.K = K := by subst hX; rfl
    have hXm : X.mg = mg := by subst hX; rfl
    have S' : HScope a1 t2 e X.env.scope qs := by rw [hsc]; exact S
    have hk' : HK X.K X.mg Ce qs := by rw [hXK, hXm]; exact hk
    cases hds with
    | nil => cases hne
    | cons hd hds =>
      have cl := clOk hN S' hk' (fun r hr => hr) hall
      have tr := ps_clauses (X := X) (pos := ptry) (tb := fun W D σ H => σ[0]? = some (some (.ref f)) ∧ Lm H ∧ ∃ E : XK, (∀ cls d σ' H', σ'.length = 3 → E cls d H' → W cls d σ' H') ∧ tl E H (fun v H1 => ∀ p, H1 p = none → D.nx (σ.set 1 (some (.ref p))) (upd H1 p (.lst [.str ("told" : Str), v]))))
        (by subst hX; rfl) (by subst hX; rfl) (by rw [hN]; exact S.fs.nd) (L2.takes0 (X := X)) (fun W pn xe tk _ => ?_) cl (body := [.Assign [.Name t2 pt1] (.List [.Constant (.str ("told" : Str)) j1 pw1, .Call (.Name a1 pa1) [] [] pc1] pl1) ps1])
      · refine ⟨_, pss_cons tr (pss_one (ps_ret (pe_var (i := 1) (by rw [hN]; rfl) (.inl S'.lt) (okName_of S.ot).1 (okName_of S.ot).2))), rfl, hLm, HE Ce qs Q, fun cls d σ' H' hl he => ?_, tlM _ _ _ _ (fun v H1 h p hp => ⟨.ref p, rfl, h p hp⟩) ht⟩
        refine he_clauses hk' _ (fun τ G v h1 h2 => ?_) hl he
        exact (show tRet (tVar 1) { nx := fun _ H' => Q .non H', rt := Q } τ G from ⟨v, h1, h2⟩)
      · refine ⟨fun pins s' σ H' D I ⟨h1, h2, E, h3, h4⟩ => ?_⟩
        have pc := act W pn xe E pa1 pc1 tk h3
        have q := pss_one (ps_set (X := X.tr pn xe) (i := 1) (x := t2) (pos := ps1) (pos' := pt1) (by show X.N.Nodup; rw [hN]; exact S.fs.nd) (by show X.N[1]? = _; rw [hN]; rfl) (.inl S'.lt) (pe_lst (pos := pl1) (pa_cons (pe_str : PE _ (.Constant (.str ("told" : Str)) j1 pw1) _) (pa_cons pc pa_nil rfl) rfl)) rfl (.inr S'.lt))
        exact q.run pins s' σ H' D I ⟨h1, h2, tlM _ _ _ _ (fun v H1 h => ⟨by rw [sizeLine_eq]; show 2 ≤ 16777216; decide, h⟩) h4⟩
  · cases hm
end
end Pv

/-! Pv28: lambdas heard. -/
namespace Pv
open PySem PySem.Spec PyProof.Rows L2 LamX
def noParams (p : Arguments) : Bool := p.posonlyargs.isEmpty && p.args.isEmpty && p.vararg.isNone && p.kwonlyargs.isEmpty && p.kw_defaults.isEmpty && p.kwarg.isNone && p.defaults.isEmpty
/-- a lambda that is number k of a def whose scope is sc -/
def mLam (pc0 : Pc) (N : List Str) (lams : List Ex) (sc : Scope) (k : Nat) : Expr → Bool
  | .Lambda params body scope _ => noParams params && lamSB sc scope && (match lams[k]? with
    | some ex => mE pc0 N scope ex body
    | none => false)
  | _ => false
/-- the texts that are number k -/
def LamT (pc0 : Pc) (N : List Str) (lams : List Ex) (sc : Scope) (k : Nat) (params : Arguments) (body : Expr) (scope : Scope) : Prop :=
  noParams params = true ∧ LamS sc scope ∧ ∃ ex, lams[k]? = some ex ∧ mE pc0 N scope ex body = true
theorem lam_text {pc0 : Pc} {N : List Str} {lams : List Ex} {sc : Scope} {k : Nat} {l : Expr} (h : mLam pc0 N lams sc k l = true) : ∃ params body scope pos, l = .Lambda params body scope pos ∧ LamT pc0 N lams sc k params body scope := by
  unfold mLam at h
  split at h
  · rename_i params body scope pos
    rw [Bool.and_eq_true, Bool.and_eq_true] at h
    obtain ⟨⟨h1, h2⟩, h3⟩ := h
    refine ⟨params, body, scope, pos, rfl, h1, lamS_by h2, ?_⟩
    split at h3
    · exact ⟨_, by assumption, h3⟩
    · cases h3
  · cases h
theorem no_params {p : Arguments} (h : noParams p = true) : p = { posonlyargs := [], args := [], vararg := none, kwonlyargs := [], kw_defaults := [], kwarg := none, defaults := [] } := by
  obtain ⟨a, b, c, d, e, f, g⟩ := p
  unfold noParams at h
  simp only [Bool.and_eq_true, List.isEmpty_iff, Option.isNone_iff_eq_none] at h
  obtain ⟨⟨⟨⟨⟨⟨rfl, rfl⟩, rfl⟩, rfl⟩, rfl⟩, rfl⟩, rfl⟩ := h
  rfl
/-- the def that hears, as the top has left it -/
structure HrOk (K : PySem.W.Frag) (mg : Str → Option Value) (Ce : Ec) (hn : Str) (qs : List Cl) (g : Addr) : Prop where
  gl : mg hn = some (.ref g)
  kp : PySem.W.keepIn K (.ref g) = true
  hk : HK K mg Ce qs
  ex : ∃ (a t e qual : Str) (params : Arguments) (body : List Stmt) (scope : Scope) (fd : FuncData), FunD K hn qual params body scope [] [] g fd ∧ HScope a t e scope qs ∧ mHeard a t e qs body = true ∧ Binds K fd [a] []
section
variable {pc0 : Pc} {N : List Str} {Ce : Ec} {k : Nat} {cf2 : Nat → List Sl → G → CR} {C : Cf} {X : Cx} {qs : List Cl} {hn : Str} {g : Addr} {lams : List Ex} {no : Nat → Sg → R D}
/-- the call, where the def's invariants are at hand -/
theorem heard_run {pins : List (Addr × Obj)} {σ : L2.St} {H : Hp} {s : Shared} {Q : VK} {f : Addr} {params : Arguments} {body : Expr} {scope : Scope} {ex : Ex} {O : Addr → Prop} {S : Sg} (hr : HrOk X.K X.mg Ce hn qs g) (pf : Pf pc0 X.prog X.w X.K X.mg X.base Ce k cf2) (hls : pc0.lsc = none) (hN : X.N = N) (nd : N.Nodup) (hK : X.K = C.K) (hT : Ce.tb = C.tb)
    (I : L2.Inv X pins σ H s) (room : Room (k + 2) X.A) (hl : LamIs X params body scope f H) (hp : noParams params = true) (L : LamS X.env.scope scope) (hm : mE pc0 N scope ex body = true) (E : EOk C O σ H S) (p : Post Ce C WNo (Rv C) O σ H Q (told (hdOf qs) (evalE cf2 no ex S))) :
    codeAny (model X.prog X.w) X.A (.call (.ref g) ⟨[.ref f], []⟩) (L2.CR (L2.CX X.prog X.w) X.stack X.prog X.w H s Q (fun _ _ _ => False)) s := by
  obtain ⟨a, t, e, qual, prs, bd, sg, fd, F, S', hmh, hb⟩ := hr.ex
  obtain ⟨oc, od, dV, kV, doc, pm, an, cdv, ct, osl, rfl, lk, hcd, _, _⟩ := F.ex
  have epar := no_params hp
  refine run_ofS (N := [a, t, e]) (ps := [a]) (us := [.ref f]) (vs := [.ref f]) lk hcd S'.fs room I.env0 (hb s [.ref f] I.kIn rfl) (.cons rfl .nil) rfl fun hr' => ?_
  refine heard_body (Lm := LamIs X params body scope f) (tl := fun E' H' Q' => tE Ce C (fun cls d _ H2 => E' cls d H2) (evalE cf2 no ex) σ H' Q') S' hr.hk hmh (fun W pn xe E' p1 p2 tk hW => ?_) (fun E' H' Q1 Q2 i ⟨O', S1, E1, q⟩ => ⟨O', S1, E1, q.imp i⟩) hl ⟨O, S, E, ?_⟩
  · refine lam_act (i := 0) I L (fun pm cv ctv => ?_) tk hW hr' (fun A outer s2 H2 c' rm => ?_) rfl (.inl S'.la) (okName_of S'.oa).1 (okName_of S'.oa).2
    · subst epar
      rfl
    · have x : XC pc0 N Ce k cf2 C (lamCx X A outer s2 H2 E' scope f c') scope (fun cls d _ H3 => E' cls d H3) :=
        { pf := pf, hN := hN, nd := nd, sc := rfl, calm := rfl, K := hK, tb := hT, room := rm, takes := takes_of rfl rfl rfl rfl }
      exact (okE pc0 N Ce k cf2 no ex x (HdOk.no (by rw [hls]; intro z; cases z)) hm).pe
  · cases hq : evalE cf2 no ex S with
    | no => rw [hq] at p; exact p.elim
    | ok d S1 =>
      rw [hq] at p
      exact fun v H' O' g' r q hnq => p (.ref q) _ O' (g'.grow (Sub.upd hnq)) (.lst (vis_new g'.ok.trk hnq (nt_lst _)) (.cons (.str _) (.cons (rp_sub ((Sub.upd hnq).vis fun b z => .inl z) _ _ r) .nil)))
    | er c d S1 =>
      rw [hq] at p
      cases hlk : (hdOf qs).lookup c with
      | none => simp only [told, hlk] at p; exact p.elim
      | some wd =>
        simp only [told, hlk] at p
        exact fun dd v H' O' g' h1 h2 => ⟨c, wd, dd, v, hlk, rfl, rfl, h1, fun q hnq => p (.ref q) _ O' (g'.grow (Sub.upd hnq)) (.lst (vis_new g'.ok.trk hnq (nt_lst _)) (.cons (.str _) (.cons (rp_sub ((Sub.upd hnq).vis fun b z => .inl z) _ _ h2) .nil)))⟩
end
end Pv

/-! Pv29: a lambda heard at once. -/
namespace Pv
open PySem PySem.Spec PyProof.Rows L2 LamX
def lmX (pc0 : Pc) (N : List Str) (lams : List Ex) (X : Cx) : Nat → Addr → Hp → Prop := fun k f H => ∃ params body scope, LamT pc0 N lams X.env.scope k params body scope ∧ LamIs X params body scope f H
theorem lmXS (pc0 : Pc) (N : List Str) (lams : List Ex) (X : Cx) : ∀ k f H H', Sub H H' → lmX pc0 N lams X k f H → lmX pc0 N lams X k f H' := fun k f H H' s ⟨p, b, sc, h1, h2⟩ => ⟨p, b, sc, h1, h2.sub s⟩
theorem told_any {Ce : Ec} {C : Cf} {W W' : WX} {O : Addr → Prop} {σ : L2.St} {H : Hp} {Q : VK} {hs : Hd} {r : R D} (p : Post Ce C W (Rv C) O σ H Q (told hs r)) : Post Ce C W' (Rv C) O σ H Q (told hs r) := by
  cases r with
  | ok d s => exact p
  | no => exact p
  | er c d s =>
    cases h : hs.lookup c with
    | none => simp only [told, h] at p ⊢; exact p.elim
    | some w => simp only [told, h] at p ⊢; exact p
section
variable {pc pc0 : Pc} {N : List Str} {Ce : Ec} {lv k0 : Nat} {cf cf2 : Nat → List Sl → G → CR} {C : Cf} {X : Cx} {sc : Scope} {W : WX} {qs : List Cl} {hn : Str} {g : Addr} {lams : List Ex}
theorem x_heard (x : XC pc N Ce lv cf C X sc W) (hr : HrOk X.K X.mg Ce hn qs g) (pf : Pf pc0 X.prog X.w X.K X.mg X.base Ce k0 cf2) (hls : pc0.lsc = none) (room : Room (k0 + 2) X.A) (hlm : C.lm = lmX pc0 N lams X) {k : Nat} {l : Expr} {p pos : Pos} (hg : glB sc hn = true) (ho : okName hn = true) (hs : notStar l = true) (hl : PE X l (tLamN C k)) :
    PE X (.Call (.Name hn p) [l] [] pos) (tE Ce C W (heardOf (hdOf qs) cf2 lams k)) := by
  refine ⟨fun pins s σ H Q I ⟨O, S, E, p⟩ => ?_⟩
  refine wpAny_Call_Name_kw (ld_glob I (gl_of x.sc hg) hr.gl ?_ (okName_of ho).1)
  refine PySem.W.callWith_K (h₀ := X.base) I.ok.mod.kin hr.kp (thn ((pa_cons hl pa_nil (star_cons hs)).run pos pins s σ H (fun vs H1 => ∃ f, vs = [.ref f] ∧ C.lm k f (vis O H1) ∧ EOk C O σ H1 S ∧ Ext O H H1) I ⟨O, S, E, fun f H1 E1 x1 m1 => ⟨f, rfl, m1, E1, x1⟩⟩) fun us s1 ⟨vs, H1, I1, r, f, ev, m1, E1, x1⟩ => ⟨I1.kIn, ?_⟩) (star_cons hs) rfl
  subst ev
  obtain ⟨u, rfl, ru⟩ := r.one
  obtain rfl : u = Value.ref f := ru
  rw [hlm] at m1
  obtain ⟨params, body, scope, ⟨t1, t2, ex, t3, t4⟩, li⟩ := m1
  have p' : Post Ce C WNo (Rv C) O σ H1 Q (told (hdOf qs) (evalE cf2 (fun _ _ => .no) ex S)) := by
    have q := Post.later p (⟨fun _ h => h, x1, E1⟩ : Go C O O σ H H1 S)
    unfold heardOf at q
    rw [t3] at q
    exact told_any q
  have rc := heard_run hr pf hls x.hN x.nd x.K x.tb I1 room (li.sub vis_sub) t1 t2 t4 E1 p'
  refine wpAny_call (codeAny_mono rc fun r s' hq => ?_)
  cases r with
  | error e =>
    obtain ⟨_, _, _, _, _, _, _, _, _, _, _, _, z⟩ := hq
    exact z.elim
  | ok fl =>
    cases fl with
    | ret u => exact I1.after hq
    | next => exact hq.elim
    | brk => exact hq.elim
    | cont => exact hq.elim
end
end Pv

/-! Pv30: all lambdas of a list heard. -/
namespace Pv
open PySem PySem.Spec PyProof.Rows L2 LamX
def teH (pc0 : Pc) (N : List Str) (Ce : Ec) (cf2 : Nat → List Sl → G → CR) (C : Cf) (X : Cx) (qs : List Cl) (σ : L2.St) (j : Nat) : TE := fun σ' H' Q' => ∃ (C' : Cf) (f : Addr) (params : Arguments) (body : Expr) (scope' : Scope) (ex : Ex) (O' : Addr → Prop) (S' : Sg),
  C'.Alike C ∧ σ'[j]? = some (some (.ref f)) ∧ LamIs X params body scope' f H' ∧ noParams params = true ∧ LamS X.env.scope scope' ∧ mE pc0 N scope' ex body = true ∧ EOk C' O' σ H' S' ∧ Post Ce C' WNo (Rv C') O' σ H' Q' (told (hdOf qs) (evalE cf2 (fun _ _ => .no) ex S'))
theorem fa2_get {α β : Type} {r : α → β → Prop} : ∀ {as : List α} {bs : List β} {n : Nat} {b : β}, Fa2 r as bs → bs[n]? = some b → ∃ a, as[n]? = some a ∧ r a b
  | [], [], _, _, .nil, h => by simp at h
  | a :: as, b :: bs, 0, c, .cons q t, h => by simp at h; subst h; exact ⟨a, rfl, q⟩
  | a :: as, b :: bs, n + 1, c, .cons q t, h => by
    obtain ⟨d, h1, h2⟩ := fa2_get t (show bs[n]? = some c by simpa using h)
    exact ⟨d, by simpa using h1, h2⟩
section
variable {pc pc0 : Pc} {N : List Str} {Ce : Ec} {lv k0 : Nat} {cf cf2 : Nat → List Sl → G → CR} {C : Cf} {X : Cx} {sc : Scope} {W : WX} {qs : List Cl} {hn : Str} {g : Addr} {lams : List Ex}
theorem x_heardAll (x : XC pc N Ce lv cf C X sc W) (hr : HrOk X.K X.mg Ce hn qs g) (pf : Pf pc0 X.prog X.w X.K X.mg X.base Ce k0 cf2) (hls : pc0.lsc = none) (room : Room (k0 + 2) X.A) (hlm : C.lm = lmX pc0 N lams X) {i j : Nat} {y : Str} {it : Expr} {scope : Scope} {p0 p1 p2 p3 pos : Pos}
    (hg : glB (relS scope sc) hn = true) (ho : okName hn = true) (hit : nameB N sc i it = true) (hb : blkC N sc scope [(y, j)] = true) (ht : tgName N scope (relS scope sc) [j] j (.Name y p3) = true) (hv : visB (relS scope sc) y = true) (hoy : okName y = true) :
    PE X (.ListComp (.Call (.Name hn p0) [.Name y p1] [] p2) [⟨.Name y p3, it, [], 0⟩] scope pos) (tE Ce C W fun s => match s.ρ[i]? with
      | some (some (.thk ks)) => (heardLoop (heardOf (hdOf qs) cf2 lams) i ks ks [] s).bind fun ds s1 => .ok (.list ds) s1
      | _ => .no) := by
  refine ⟨fun pins s σ H Q I ⟨O, S, E, p⟩ => ?_⟩
  have hNj : N[j]? = some y := by
    unfold tgName at ht
    simp only [Bool.and_eq_true, decide_eq_true_eq] at ht
    exact ht.1.1
  have hfs : ∀ z, foldedSetIterable it X.env z = pure z := fun z => by
    obtain ⟨u, q, rfl⟩ := (name_plain hit).2.2
    rfl
  refine lc_back (own := [(y, j)]) (g := gName j) (te := teH pc0 N Ce cf2 C X qs σ j) x.calm (by rw [x.hN]; exact x.nd) I (pi_seq (x_slot x hit)) (by rw [x.hN, x.sc]; exact blkOk_by hb) (fun s H A cl fp => tg_blk (own := [j]) (tg := .one j) x (show tgB N scope (relS scope sc) [j] (.one j) (.Name y p3) = true from ht) s H A cl fp) (fun s0 H0 A cl fp back => ⟨fun pins' s' σ' H' Q' I' h => ?_⟩) hfs ?_
  · obtain ⟨C', f, params, body, scope', ex, O', S', hA, hj, li, t1, t2, t4, E', p'⟩ := h
    have hsc : (X.blk s0 H0 scope (compEnvC scope cl A X.env) fp).env.scope = relS scope sc := by rw [← x.sc]; rfl
    refine wpAny_Call_Name_kw (ld_glob I' (gl_of hsc hg) hr.gl ?_ (okName_of ho).1)
    refine PySem.W.callWith_K (h₀ := X.base) I'.ok.mod.kin hr.kp (thn ((pa_cons (pe_var (X := X.blk s0 H0 scope (compEnvC scope cl A X.env) fp) (i := j) (pos := p1) (by show X.N[j]? = _; rw [x.hN]; exact hNj) (vis_ofB hsc hv) (okName_of hoy).1 (okName_of hoy).2) pa_nil rfl).run p2 pins' s' σ' H' (fun vs H1 => vs = [.ref f] ∧ H1 = H') I' ⟨.ref f, hj, rfl, rfl⟩) fun us s1 ⟨vs, H1, I1, r, ev, eH⟩ => ⟨I1.kIn, ?_⟩) rfl rfl
    subst ev eH
    obtain ⟨u, rfl, ru⟩ := r.one
    obtain rfl : u = Value.ref f := ru
    have rc := heard_run hr pf hls x.hN x.nd (by rw [hA.1]; exact x.K) (by rw [hA.2]; exact x.tb) (back _ _ _ _ I1) room li t1 t2 t4 E' p'
    refine wpAny_call (codeAny_mono rc fun r s' hq => ?_)
    cases r with
    | error e =>
      obtain ⟨_, _, _, _, _, _, _, _, _, _, _, _, z⟩ := hq
      exact z.elim
    | ok fl =>
      cases fl with
      | ret u => exact I1.after hq
      | next => exact hq.elim
      | brk => exact hq.elim
      | cont => exact hq.elim
  · simp only at p
    split at p
    · rename_i ks hks
      obtain ⟨a, fs, e1, e2, e3, e4, e5, e6⟩ := E.sl _ _ hks
      refine ⟨.ref a, e1, a, rfl, .inl ⟨⟨_, SqL.of e2⟩, fun D nD => ?_⟩⟩
      have hjl : j < σ.length := by
        have z := I.len
        rw [x.hN] at z
        rw [z]
        exact (List.getElem?_eq_some_iff.mp hNj).1
      have X0 : Ext O H (upd H D (.lst [])) := Ext.of_sub (Sub.upd nD)
      generalize hL : heardLoop (heardOf (hdOf qs) cf2 lams) i ks ks [] S = L at p
      have nL : L ≠ .no := fun z => by rw [z] at p; exact p.elim
      refine ⟨fun n m Hh => m = ks.length - n ∧ n ≤ ks.length ∧ ∃ (On : Addr → Prop) (Sn : Sg) (vs : List V) (acc : List PyData), (∀ b, On b → O b) ∧ Ext O H Hh ∧ Fresh C On σ Hh Sn D vs acc ∧ (∀ b, C.O0 b → On b) ∧ heardLoop (heardOf (hdOf qs) cf2 lams) i ks (ks.drop n) acc Sn = L,
        ⟨_, rfl, Nat.zero_le _, O, S, [], [], fun _ h => h, X0, Fresh.new E nD .nil, E.o0, hL⟩, ?_⟩
      rintro n m Hh ⟨rfl, hn', On, Sn, vs, acc, hO, hX, F, h0, hL'⟩
      -- the list of lambdas stands as it was
      have lst : Sn.ρ[i]? = some (some (.thk ks)) := by
        cases hd : ks.drop n with
        | nil =>
          rw [hd] at hL'
          unfold heardLoop at hL'
          split at hL'
          · rename_i l hl
            split at hL'
            · rename_i e; rw [← e]; exact hl
            · exact absurd hL'.symm nL
          · exact absurd hL'.symm nL
        | cons k r =>
          rw [hd] at hL'
          unfold heardLoop at hL'
          split at hL'
          · rename_i l hl
            split at hL'
            · rename_i e; rw [← e.1]; exact hl
            · exact absurd hL'.symm nL
          · exact absurd hL'.symm nL
      obtain ⟨a', fs', k1, k2, k3, k4, k5, k6⟩ := F.ok.sl _ _ lst
      rw [e1] at k1
      cases k1
      have hfl := forall2_len k6
      by_cases hlt : n < ks.length
      · obtain ⟨k, hk⟩ : ∃ k, ks[n]? = some k := ⟨_, List.getElem?_eq_getElem hlt⟩
        obtain ⟨f, hf, hlmf⟩ := fa2_get k6 hk
        have hxs : (fs'.map V.ref)[n]? = some (.ref f) := by rw [List.getElem?_map, hf]; rfl
        refine .inr ⟨⟨_, _, SqL.of k2, hxs⟩, fun H' => ∃ m', m' < ks.length - n ∧ (m' = ks.length - (n + 1) ∧ n + 1 ≤ ks.length ∧ ∃ (On : Addr → Prop) (Sn : Sg) (vs : List V) (acc : List PyData), (∀ b, On b → O b) ∧ Ext O H H' ∧ Fresh C On σ H' Sn D vs acc ∧ (∀ b, C.O0 b → On b) ∧ heardLoop (heardOf (hdOf qs) cf2 lams) i ks (ks.drop (n + 1)) acc Sn = L), fun _ h => h, fun v H2 hy => ?_⟩
        obtain ⟨rfl, hy⟩ := hy
        have hv2 := hy _ (SqL.of k2)
        rw [hxs] at hv2
        cases hv2
        refine ⟨by rw [wipe_set (by simp), wipe_wipe fun _ h => h], ?_⟩
        show teH pc0 N Ce cf2 C X qs σ j _ _ _
        rw [hlm] at hlmf
        obtain ⟨params, body, scope', ⟨t1, t2, ex, t3, t4⟩, li⟩ := hlmf
        have hdrop : ks.drop n = k :: ks.drop (n + 1) := by
          rw [List.drop_eq_getElem_cons hlt]
          congr 1
          rw [List.getElem?_eq_getElem hlt] at hk
          exact Option.some.inj hk
        rw [hdrop] at hL'
        unfold heardLoop at hL'
        rw [lst] at hL'
        simp only [true_and] at hL'
        split at hL'
        · rename_i hacc
          have E2 := F.into h0
          refine ⟨C.blk D vs, f, params, body, scope', ex, more On D, Sn, ⟨rfl, rfl⟩, List.getElem?_set_self (by rw [wipe_length]; exact hjl), li.sub vis_sub, t1, t2, t4, E2, ?_⟩
          have eh : heardOf (hdOf qs) cf2 lams k Sn = told (hdOf qs) (evalE cf2 (fun _ _ => .no) ex Sn) := by unfold heardOf; rw [t3]
          rw [eh] at hL'
          cases hq : told (hdOf qs) (evalE cf2 (fun _ _ => .no) ex Sn) with
          | no => rw [hq] at hL'; exact absurd hL'.symm nL
          | er c d S4 =>
            exfalso
            cases hq2 : evalE cf2 (fun _ _ => .no) ex Sn with
            | ok d s => rw [hq2] at hq; cases hq
            | no => rw [hq2] at hq; cases hq
            | er c d s =>
              rw [hq2] at hq
              cases h : (hdOf qs).lookup c with
              | none => simp only [told, h] at hq; cases hq
              | some w => simp only [told, h] at hq; cases hq
          | ok yd S4 =>
            rw [hq] at hL'
            intro yv H4 O4 g4 ry
            have nO0 : ¬ C.O0 D := fun z => F.out (h0 D z)
            have hX4 : Ext O H H4 := hX.transD nD g4.ext hO
            obtain ⟨F4, h04⟩ := Fresh.outof g4.ok nO0 F.h0 F.ok.m0 (rpAll_sub g4.vis _ _ F.rp)
            have oD : O4 D := g4.ok.o0 D (.inr rfl)
            have F5 := F4.push h04 (y := yv) (d := yd) (by rw [more_less oD]; exact ry)
            have hl := F.rp.len
            refine ⟨vs, F4.at_, Nat.lt_of_lt_of_le (by omega) line_big, _, by omega, rfl, by omega, _, _, _, _, fun b h => hO b ((g4.sub b h.1).elim id fun z => absurd z h.2), ?_, F5, h04, hL'⟩
            refine ⟨fun b o n1 n2 e => ?_⟩
            have : b ≠ D := fun z => by rw [z, nD] at e; cases e
            rw [upd_ne this]
            exact hX4.keep b o n1 n2 e
        · exact absurd hL'.symm nL
      · have e : n = ks.length := by omega
        subst e
        rw [List.drop_length] at hL'
        unfold heardLoop at hL'
        rw [lst] at hL'
        simp only [if_true] at hL'
        subst hL'
        obtain ⟨E4, r4⟩ := F.drop h0
        exact .inl ⟨⟨_, SqL.of k2, by rw [List.length_map]; omega⟩, p (.ref D) Hh On ⟨hO, hX, E4⟩ r4⟩
    · exact p.elim
end
end Pv

/-! Pv31: a def with lambdas keeps its promise. -/
namespace Pv
open PySem PySem.Spec PyProof.Rows L2 LamX
section
variable {pc pc0 : Pc} {N : List Str} {Ce : Ec} {lv k0 : Nat} {cf cf2 : Nat → List Sl → G → CR} {C : Cf} {X : Cx} {sc : Scope} {W : WX} {qs : List Cl} {hn : Str} {g : Addr} {lams : List Ex}
/-- a lambda made, in a def that has a table of code -/
theorem x_lamN {c P : Addr} (hlm : C.lm = lmX pc0 N lams X) (TB : TabB X.base X.mg c P) (hcode : X.env.code = .ref c) (hmT : (P, X.env.qual ++ "<lambda>") ∈ C.tb) (hu : ∀ p ∈ C.tb, p.1 = P → p.2 = X.env.qual ++ "<lambda>") {k : Nat} {l : Expr} (h : mLam pc0 N lams X.env.scope k l = true) : PE X l (tLamN C k) := by
  obtain ⟨params, body, scope, pos, rfl, t1, t2, t3⟩ := lam_text h
  refine ⟨fun pins s σ H Q I ⟨O, S, E, p⟩ => ?_⟩
  have epar := no_params t1
  refine lam_new (T := C.tb) I TB hcode hmT hu E.tabs (by rw [epar]; rfl) (t2.has I.ok) fun f H1 s' I1 eN T1 li nf => ⟨.ref f, H1, I1, rfl, p f H1 ?_ ⟨fun b o _ n e => eN b o e n⟩ ?_⟩
  · have sv : Sub (vis O H) (vis O H1) := fun b o q => by
      obtain ⟨q1, q2, q3⟩ := of_vis q
      exact vis_of q1 q2 (eN b o q3 q2)
    refine ⟨fun i x h => (E.sl i x h).sub sv fun a w q => ?_, E.dis, fun b h => ?_, E.o0, E.m0, fun b o h1 h2 h3 => eN b o (E.base b o h1 h2 h3) h3, T1, fun m e => ?_, E.len⟩
    · obtain ⟨a', l, q', hb, o', _⟩ := (E.sl i _ h).at w
      rw [q] at q'
      cases q'
      exact ⟨o', by rw [hb]; exact eN a _ hb (nt_lst _)⟩
    · obtain ⟨o, n, e⟩ := E.trkP b h
      exact ⟨o, n, eN b o e n.nt⟩
    · obtain ⟨d1, d2, d3, d4⟩ := E.dok m e
      exact ⟨eN _ _ d1 (fun ps z => nomatch z), eN _ _ d2 (nt_lst _), eN _ _ d3 (nt_lst _), d4⟩
  · rw [hlm]
    obtain ⟨c', pm, ctv, li1, li2⟩ := li
    have nO : ∀ {b : Addr} {φ : Heap → Prop}, H1 b = some (.ext φ) → ¬ O b := fun {b φ} e z => by
      obtain ⟨o, n, q⟩ := E.trkP b z
      have q1 := eN b o q n.nt
      rw [e] at q1
      cases q1
      cases n
    exact ⟨params, body, scope, ⟨t1, t2, t3⟩, c', pm, ctv, vis_of (nO li1) (nt_ext _) li1, vis_of (nO li2) (nt_ext _) li2⟩
end
end Pv

/-! Pv32: a def with lambdas keeps its promise. -/
namespace Pv
open PySem PySem.Spec PyProof.Rows L2 LamX
/-- a def whose code object is known -/
def FunC (K : PySem.W.Frag) (x qual : Str) (params : Arguments) (body : List Stmt) (scope : Scope) (c f : Addr) (fd : FuncData) : Prop :=
  ∃ (oc : Value) (od : Option Addr) (dV kV doc pm : Value) (an : Option Addr) (ct : Value) (osl : Array (Option Value)),
    fd = PySem.W.fnOf x qual params body scope dV kV doc pm an (.ref c) ct ∧ K.lookup f = some ⟨oc, od, .func fd, osl⟩ ∧ PySem.W.codeIn K (.ref c) qual = true
section
variable {P : Program} {w : World} {K : PySem.W.Frag} {mg : Str → Option Value} {base : Heap} {Ce : Ec}
theorem FunC.ok {CX : CXT} {N ps : List Str} {k : Nat} {sp : Sp} {x qual : Str} {params : Arguments} {body : List Stmt} {scope : Scope} {c f : Addr} {fd : FuncData} (F : FunC K x qual params body scope c f fd) (S : FnScope N ps scope) (len : ∀ vs H Q E, sp vs H Q E → vs.length = ps.length)
    (hbody : ∀ (A : Around) (outer : List Env) (s : Shared) (H : Hp) (vs : List V) (Q : VK) (E : XK), Room k (A.deeper (envOfC qual scope s.heap.objs.size f (.ref c))) → sp vs H Q E →
      ∃ t, PSs (cxOf CX P w K mg base N qual scope f (.ref c) A outer s H E) body t ∧ t { nx := fun _ H' => Q .non H', rt := Q } (start N vs) H) : FnOk P w K mg base CX (k + 1) f fd ps sp := by
  obtain ⟨oc, od, dV, kV, doc, pm, an, ct, osl, rfl, lk, hcd⟩ := F
  exact fn_of lk hcd S len hbody
theorem Pf.sim {pc pc' : Pc} {lv : Nat} {cf : Nat → List Sl → G → CR} (h : Pf pc P w K mg base Ce lv cf) (h1 : pc'.nm = pc.nm) (h2 : pc'.fs = pc.fs) (h3 : pc'.gls = pc.gls) (h4 : pc'.kbs = pc.kbs) : Pf pc' P w K mg base Ce lv cf :=
  ⟨by rw [h1]; exact h.no, by rw [h1]; exact h.gcd, by rw [h3]; exact h.gl, by rw [h2, h4]; exact h.fn⟩
/-- with nothing done, the facts hold at every level -/
theorem Pf.none {pc : Pc} {lv lv' : Nat} {cf : Nat → List Sl → G → CR} (h : Pf pc P w K mg base Ce lv cf) : Pf pc P w K mg base Ce lv' (fun _ _ _ => .no) :=
  ⟨h.no, h.gcd, h.gl, fun f x n k e => by
    obtain ⟨fa, fd, ps, h1, h2, h3, _, h5, h6⟩ := h.fn f x n k e
    refine ⟨fa, fd, ps, h1, h2, h3, ?_, h5, h6⟩
    have z : (fun (xs : List Sl) (g : G) => if xs.length = n then CR.no else CR.no) = fun _ _ => CR.no := by
      funext xs g
      split <;> rfl
    rw [z]
    exact fn_no⟩
theorem df_okL {pc pc0 : Pc} {k0 : Nat} {cf cf2 : Nat → List Sl → G → CR} {x qual : Str} {params : Arguments} {body : List Stmt} {scope : Scope} {c Pt : Addr} {fa g0 : Addr} {fd : FuncData} {N ps : List Str} {d : Df} {qs : List Cl} {hn : Str}
    (F : FunC K x qual params body scope c fa fd) (S : FnScope N ps scope) (hd : d.slots = N.length) (hm : mSs pc N scope d.body body = true)
    (hls : pc.lsc = some scope.names) (hhn : pc.hn = hn) (hml : pc.ml = mLam pc0 N d.lams) (hls0 : pc0.lsc = none) (pf : Pf pc P w K mg base Ce (k0 + 2) cf) (pf0 : Pf pc0 P w K mg base Ce k0 cf2) (hr : HrOk K mg Ce hn qs g0) (mk : MkAll P w K mg base Ce (k0 + 2) pc.xs)
    (TB : TabB base mg c Pt) (hmT : (Pt, qual ++ ".<locals>." ++ "<lambda>") ∈ Ce.tb) (hu : ∀ p ∈ Ce.tb, p.1 = Pt → p.2 = qual ++ ".<locals>." ++ "<lambda>") :
    FnOk P w K mg base (L2.CX P w) (k0 + 2 + 1) fa fd ps (spF K Ce fun xs g => if xs.length = ps.length then (evalSs cf (heardOf (hdOf qs) cf2 d.lams) d.body ⟨xs.map some ++ List.replicate (d.slots - xs.length) none, g⟩).cr else .no) := by
  refine F.ok S (fun vs H Q E h => spF_len h) fun A outer s H vs Q E hroom h => ?_
  obtain ⟨W, O, xs, g, r, trk, mw, tbs, dok, h⟩ := h
  have hlen : xs.length = ps.length := by
    by_cases e : xs.length = ps.length
    · exact e
    · dsimp only at h; rw [if_neg e] at h; exact h.elim
  dsimp only at h
  rw [if_pos hlen] at h
  have hpl : ps.length ≤ N.length := by have := congrArg List.length S.pre; rw [List.length_take] at this; omega
  generalize hX : cxOf (L2.CX P w) P w K mg base N qual scope fa (.ref c) A outer s H E = X
  generalize hC : (⟨K, W, O, H, Ce.tb, lmX pc0 N d.lams X, lmXS pc0 N d.lams X⟩ : Cf) = C
  have hlm : C.lm = lmX pc0 N d.lams X := by rw [← hC]
  have hsc : X.env.scope = scope := by rw [← hX]; rfl
  have xc : XC pc N Ce (k0 + 2) cf C X scope (fun cls d _ H' => E cls d H') := by
    subst hX hC
    exact { pf := pf, hN := rfl, nd := S.nd, sc := rfl, calm := rfl, K := rfl, tb := rfl, room := hroom, takes := takes_of rfl rfl rfl rfl }
  have lam : ∀ k l, mLam pc0 N d.lams X.env.scope k l = true → PE X l (tLamN C k) := fun k l h => by
    subst hX hC
    exact x_lamN hlm TB rfl hmT hu h
  have hr' : HrOk X.K X.mg Ce hn qs g0 := by subst hX; exact hr
  have pf0' : Pf pc0 X.prog X.w X.K X.mg X.base Ce k0 cf2 := by subst hX; exact pf0
  have xd : XD pc N Ce (k0 + 2) cf (heardOf (hdOf qs) cf2 d.lams) C X scope (fun cls d _ H' => E cls d H') := by
    refine { xc with hd0 := ⟨fun k e q => ?_, fun i e q => ?_⟩, lam := fun _ k l q => lam k l (by rw [hml] at q; exact q), fn := fun _ => by subst hX; rfl, kind := by rw [hsc]; exact S.kind, own := by subst hX; exact passes_of rfl }
    · rw [hsc] at q
      simp only [mE] at q
      split at q
      · rename_i y p l pos
        simp only [Bool.and_eq_true, decide_eq_true_eq] at q
        obtain ⟨⟨⟨⟨⟨q1, q2⟩, q3⟩, q4⟩, q5⟩, q6⟩ := q
        rw [hhn] at q2
        subst q2
        have z : evalE cf (heardOf (hdOf qs) cf2 d.lams) (.heard k) = heardOf (hdOf qs) cf2 d.lams k := by funext s; simp only [evalE]
        rw [z]
        exact x_heard xc hr' pf0' hls0 xc.room hlm q3 q4 q5 (lam k l (by rw [hml] at q6; rw [hsc]; exact q6))
      · cases q
    · rw [hsc] at q
      simp only [mE] at q
      split at q
      · rename_i y p1 y2 p2 p3 y3 p4 it scope' pos
        simp only [Bool.and_eq_true, decide_eq_true_eq] at q
        obtain ⟨⟨⟨⟨⟨⟨⟨⟨⟨⟨q1, q2⟩, q3⟩, q4⟩, q5⟩, q6⟩, q7⟩, q8⟩, q9⟩, q10⟩, q11⟩ := q
        rw [hhn] at q2
        subst q2 q5
        have z : evalE cf (heardOf (hdOf qs) cf2 d.lams) (.heardAll i) = fun s => match s.ρ[i]? with
          | some (some (.thk ks)) => (heardLoop (heardOf (hdOf qs) cf2 d.lams) i ks ks [] s).bind fun ds s1 => .ok (.list ds) s1
          | _ => .no := by funext s; simp only [evalE] <;> rfl
        rw [z]
        exact x_heardAll xc hr' pf0' hls0 xc.room hlm q3 q4 q6 q8 q9 q10 q11
      · cases q
  refine ⟨tS Ce C (fun cls d _ H' => E cls d H') (evalSs cf (heardOf (hdOf qs) cf2 d.lams) d.body), okSs pc N Ce (k0 + 2) cf _ C X scope _ xd (mk X (by subst hX; rfl) (by subst hX; rfl) (by subst hX; rfl) (by subst hX; rfl) (by subst hX; rfl) (by subst hX; rfl) xd.room) d.body hm, ?_⟩
  subst hC
  refine ⟨O, _, EOk.entry r trk mw tbs dok hd (by omega), ?_⟩
  generalize evalSs cf (heardOf (hdOf qs) cf2 d.lams) d.body ⟨xs.map some ++ List.replicate (d.slots - xs.length) none, g⟩ = f at h
  cases f with
  | nx s' => exact fun σ' H' O' gs E' => h .non H' ⟨E'.base_keep, E'.tabs, E'.dok⟩ .non
  | rt d' g' => exact h
  | er c d' s' => exact fun σ' dd v H' O' E' h1 h2 => h dd v H' ⟨E'.base_keep, E'.tabs, E'.dok⟩ h1 (rp_sub E'.out _ _ h2)
  | bk s' => exact h.elim
  | ct s' => exact h.elim
  | no => exact h.elim
end
end Pv

/-! Pv33: what the draws do, in plain words. -/
namespace Pv
open PySem L2
/-- the mixing of a cell -/
def mixB (c n : Int) : Int := (c * (1 + 2 * n) * 48271) % 2147483647 + 7919 * n * n + 104729 * n
def mixI (c n : Int) : Int := (mixB c n * 69621) % 2147483629 / 7
def drawG (g : G) : G := { g with spot := g.spot + 1 }
/-- the draw that asks the cells -/
def drawC (limit : Int) (g : G) : CR :=
  match g.cells[g.spot % 64]? with
  | some c => if c.natAbs < 2 ^ 64 ∧ g.spot < 2 ^ 100 then .ok (.int (mixI (mixI (c + 31 * ((g.spot / 64 : Nat) : Int)) g.spot) (g.spot + 7) % limit)) (drawG g) else .no
  | none => .no
/-- _law_draw -/
def drawP : List Sl → G → CR
  | [.mm, .dat (.int limit)], g =>
    if 0 < limit ∧ limit.natAbs.log2 < 9000 ∧ g.cells.length = 64 then
      (if g.great = [] then drawC limit g else
        match g.great[g.spot % g.great.length]? with
        | some c => if 0 < c then .ok (.int (c % limit)) { drawG g with great := g.great.set (g.spot % g.great.length) (c / limit) } else drawC limit g
        | none => .no)
    else .no
  | _, _ => .no
/-- what the mixing promises, as far as the draws ask -/
def mixC (xs : List Sl) (g : G) : CR := match xs with
  | [.dat (.int c), .dat (.int n)] => if c.natAbs < 2 ^ 128 ∧ n.natAbs < 2 ^ 128 then .ok (.int (mixI c n)) g else .no
  | _ => .no
theorem mixI_lt (c n : Int) : 0 ≤ mixI c n ∧ mixI c n < 2 ^ 31 := by
  unfold mixI
  have h1 := Int.emod_nonneg (mixB c n * 69621) (show (2147483629 : Int) ≠ 0 by decide)
  have h2 := Int.emod_lt_of_pos (mixB c n * 69621) (show (0 : Int) < 2147483629 by decide)
  omega
end Pv
namespace Pv
open PySem L2
/-! ### the draws' dict as it changes -/
theorem ne1 : ¬ kCells = kSpot := by decide +kernel
theorem ne2 : ¬ kGreat = kSpot := by decide +kernel
theorem ne3 : ¬ kCells = kGreat := by decide +kernel
theorem ne4 : ¬ kSpot = kGreat := by decide +kernel
theorem ne5 : ¬ kGreat = kCells := by decide +kernel
theorem ne6 : ¬ kSpot = kCells := by decide +kernel
section
variable {x y z : V}
theorem val_spot : valV [(kCells, x), (kGreat, y), (kSpot, z)] kSpot = some z := by
  rw [valV_neg ne1, valV_neg ne2]
  exact valV_pos (p := (kSpot, z)) rfl
theorem val_great : valV [(kCells, x), (kGreat, y), (kSpot, z)] kGreat = some y := by
  rw [valV_neg ne3]
  exact valV_pos (p := (kGreat, y)) rfl
theorem val_cells : valV [(kCells, x), (kGreat, y), (kSpot, z)] kCells = some x := valV_pos (p := (kCells, x)) rfl
theorem put_spot {u : V} : putK [(kCells, x), (kGreat, y), (kSpot, z)] kSpot u = [(kCells, x), (kGreat, y), (kSpot, u)] := by
  unfold putK
  rw [valV_any, val_spot]
  simp [ne1, ne2]
theorem put_great {u : V} : putK [(kCells, x), (kGreat, y), (kSpot, z)] kGreat u = [(kCells, x), (kGreat, u), (kSpot, z)] := by
  unfold putK
  rw [valV_any, val_great]
  simp [ne3, ne4]
end
theorem rpInts {K : PySem.W.Frag} {H : Hp} : ∀ l : List Int, RpAll K H (l.map V.int) (l.map PyData.int)
  | [] => .nil
  | i :: l => .cons (.int i) (rpInts l)
theorem nt_dK (kvs : List (Key × V)) : Nt (.dK kvs) := fun _ z => nomatch z
/-- tables stay where another object is written -/
theorem tabs_any {T : List (Addr × Str)} {H : Hp} {a : Addr} {o o' : HO} (t : LamX.Tabs T H) (h : H a = some o) (n1 : Nt o) (n2 : ∀ φ, o ≠ .ext φ) : LamX.Tabs T (upd H a o') := fun p hp => by
  obtain ⟨ps, h1, h2, h3⟩ := t p hp
  refine ⟨ps, by rw [upd_ne (ne_of h1 h fun z => n1 ps z.symm)]; exact h1, h2, fun pos cv hc => ?_⟩
  obtain ⟨c, e1, e2⟩ := h3 pos cv hc
  exact ⟨c, e1, by rw [upd_ne (ne_of e2 h fun z => n2 _ (by unfold LamX.CodeO at z; exact z.symm))]; exact e2⟩
section
variable {T : List (Addr × Str)} {m : MA} {H0 H H' : Hp} {g g' : G}
theorem DrawAt.A_ne (d : DrawAt H m g) : m.A ≠ m.ac ∧ m.A ≠ m.ag := by
  obtain ⟨d1, d2, d3, _⟩ := d
  exact ⟨ne_of d1 d2 (by intro z; cases z), ne_of d1 d3 (by intro z; cases z)⟩
theorem DrawAt.trk (d : DrawAt H m g) : ∀ b, m.on b → ∃ o, Ol o ∧ H b = some o := by
  obtain ⟨d1, d2, d3, _⟩ := d
  rintro b (rfl | rfl | rfl)
  · exact ⟨_, .dK _, d1⟩
  · exact ⟨_, .lst _, d2⟩
  · exact ⟨_, .lst _, d3⟩
theorem Aft.start (t : LamX.Tabs T H) (d : DrawOk H (some m) g) : Aft T (some m) H H g := ⟨fun _ _ _ _ h => h, t, d⟩
theorem Aft.trans {H1 : Hp} (a : Aft T (some m) H0 H g) (b : Aft T (some m) H H1 g') : Aft T (some m) H0 H1 g' := ⟨fun c o h1 h2 h3 => b.keep c o h1 h2 (a.keep c o h1 h2 h3), b.tabs, b.dok⟩
theorem Aft.at (a : Aft T (some m) H0 H g) : DrawAt H m g := a.dok m rfl
theorem Aft.new {q : Addr} {o : HO} (a : Aft T (some m) H0 H g) (n : H q = none) : Aft T (some m) H0 (upd H q o) g := by
  have s := Sub.upd (o := o) n
  refine ⟨fun c u h1 h2 h3 => s _ _ (a.keep c u h1 h2 h3), a.tabs.ext s, fun m' e => ?_⟩
  obtain ⟨d1, d2, d3, d4⟩ := a.dok m' e
  exact ⟨s _ _ d1, s _ _ d2, s _ _ d3, d4⟩
theorem Aft.spot {n : Nat} (a : Aft T (some m) H0 H g) : Aft T (some m) H0 (upd H m.A (.dK [(kCells, .ref m.ac), (kGreat, .ref m.ag), (kSpot, .int n)])) { g with spot := n } := by
  obtain ⟨d1, d2, d3, d4⟩ := a.at
  obtain ⟨n1, n2⟩ := a.at.A_ne
  refine ⟨fun c u h1 h2 h3 => ?_, tabs_any a.tabs d1 (nt_dK _) (fun φ z => nomatch z), fun m' e => ?_⟩
  · rw [upd_ne (fun z => h1 ⟨m, rfl, .inl z⟩)]
    exact a.keep c u h1 h2 h3
  · cases e
    exact ⟨upd_same, by rw [upd_ne n1.symm]; exact d2, by rw [upd_ne n2.symm]; exact d3, d4⟩
theorem Aft.great {l : List Int} (a : Aft T (some m) H0 H g) : Aft T (some m) H0 (upd H m.ag (.lst (l.map V.int))) { g with great := l } := by
  obtain ⟨d1, d2, d3, d4⟩ := a.at
  obtain ⟨n1, n2⟩ := a.at.A_ne
  refine ⟨fun c u h1 h2 h3 => ?_, tabs_any a.tabs d3 (nt_lst _) (fun φ z => nomatch z), fun m' e => ?_⟩
  · rw [upd_ne (fun z => h1 ⟨m, rfl, .inr (.inr z)⟩)]
    exact a.keep c u h1 h2 h3
  · cases e
    exact ⟨by rw [upd_ne n2]; exact d1, by rw [upd_ne d4]; exact d2, upd_same, d4⟩
/-- the mixing asked -/
theorem Aft.mix {K : PySem.W.Frag} {Ce : Ec} {c n : Int} {Q : VK} {E : XK} (a : Aft Ce.tb (some m) H0 H g) (hc : c.natAbs < 2 ^ 128) (hn : n.natAbs < 2 ^ 128) (h : ∀ H', Aft Ce.tb (some m) H0 H' g → Q (.int (mixI c n)) H') : spF K Ce mixC [.int c, .int n] H Q E := by
  refine ⟨some m, m.on, [.dat (.int c), .dat (.int n)], g, .cons (.int c) (.cons (.int n) .nil), a.at.trk, fun b ⟨m', e, h⟩ => by cases e; exact h, a.tabs, a.dok, ?_⟩
  simp only [mixC, hc, hn, true_and, and_true, if_true]
  intro v H' a' r
  cases r
  exact h H' (a.trans a')
end
end Pv
namespace Pv
open PySem L2
theorem drawP_in {xs : List Sl} {g : G} (h : drawP xs g ≠ .no) : ∃ limit, xs = [.mm, .dat (.int limit)] ∧ 0 < limit ∧ limit.natAbs.log2 < 9000 ∧ g.cells.length = 64 := by
  unfold drawP at h
  split at h
  · rename_i limit
    split at h
    · rename_i c
      exact ⟨limit, rfl, c⟩
    · exact absurd rfl h
  · exact absurd rfl h
/-- what is wanted behind a call that answers r -/
def Ans2 (K : PySem.W.Frag) (Ce : Ec) (W : Option MA) (O : Addr → Prop) (H : Hp) (Q : VK) (E : XK) : CR → Prop
  | .ok d g' => ∀ v H', Aft Ce.tb W H H' g' → Rp K (vis O H') v d → Q v H'
  | .er c d g' => ∀ dd v H', Aft Ce.tb W H H' g' → H' dd = some (.xd [(Ce.att c, v)]) → Rp K (vis O H') v d → E (.ref (Ce.cls c)) (some dd) H'
  | .no => False
theorem draw_eq {limit : Int} {g : G} (h1 : 0 < limit) (h2 : limit.natAbs.log2 < 9000) (h3 : g.cells.length = 64) : drawP [.mm, .dat (.int limit)] g = if g.great = [] then drawC limit g else
        match g.great[g.spot % g.great.length]? with
        | some c => if 0 < c then .ok (.int (c % limit)) { drawG g with great := g.great.set (g.spot % g.great.length) (c / limit) } else drawC limit g
        | none => .no := by
  simp only [drawP, h1, h2, h3, and_self, if_true]
theorem drawC_in {limit : Int} {g : G} (h : drawC limit g ≠ .no) : ∃ c, g.cells[g.spot % 64]? = some c ∧ c.natAbs < 2 ^ 64 ∧ g.spot < 2 ^ 100 ∧ drawC limit g = .ok (.int (mixI (mixI (c + 31 * ((g.spot / 64 : Nat) : Int)) g.spot) (g.spot + 7) % limit)) (drawG g) := by
  unfold drawC at h ⊢
  split at h
  · rename_i c hc
    split at h
    · rename_i hh
      exact ⟨c, hc, hh.1, hh.2, if_pos hh⟩
    · exact absurd rfl h
  · exact absurd rfl h
end Pv
namespace Pv
open PySem L2
theorem at_nat {l : List Int} {j : Nat} {c : Int} (h : l[j]? = some c) : atI (l.map V.int) (j : Int) = some (.int c) := by
  have hj : j < l.length := (List.getElem?_eq_some_iff.mp h).1
  unfold atI ixN
  rw [if_pos (by omega), if_pos (by rw [List.length_map]; omega)]
  show (l.map V.int)[((j : Int)).toNat]? = _
  rw [Int.toNat_natCast, List.getElem?_map, h]
  rfl
theorem ixN_nat {l : List Int} {j : Nat} (h : j < l.length) : ixN (l.map V.int).length (j : Int) = some j := by
  unfold ixN
  rw [if_pos (by omega), if_pos (by rw [List.length_map]; omega), Int.toNat_natCast]
theorem small_add {c : Int} {n : Nat} (h : c.natAbs < 2 ^ 64) (hn : n < 2 ^ 100) : (c + 31 * ((n / 64 : Nat) : Int)).natAbs < 2 ^ 128 := by omega
theorem spot_mul {n : Nat} (hn : n < 2 ^ 100) : CMulW 31 ((n / 64 : Nat) : Int) := wide_mul (a := 5) (b := 100) (by decide) (by omega) (by decide) (by decide) (by decide)
theorem mix_small (c n : Int) : (mixI c n).natAbs < 2 ^ 128 := by have := mixI_lt c n; omega
end Pv

/-! Pv34: a def that hands out a list of its own. -/
namespace Pv
open PySem L2
section
variable {pc : Pc} {N : List Str} {Ce : Ec} {lv : Nat} {cf : Nat → List Sl → G → CR} {hl : Nat → Sg → R D} {C : Cf} {X : Cx} {sc : Scope} {W : WX}
theorem okSs_then (x : XD pc N Ce lv cf hl C X sc W) (mk : ∀ y c, (y, c) ∈ pc.xs → MkAt Ce X y c) {rest : List Stmt} {tR : TS} (hr : PSs X rest tR) : ∀ (i : List Sx) {st : List Stmt}, mSs pc N sc i st = true → PSs X (st ++ rest) (fun D0 σ H => tS Ce C W (evalSs cf hl i) { D0 with nx := tR D0 } σ H)
  | [], [], _ => pss_imp hr fun D0 σ H ⟨O, S, E, p⟩ => p σ H O (GoS.refl _ _) E
  | a :: r, s :: t, h => by
    simp only [mSs] at h
    rw [Bool.and_eq_true] at h
    refine pss_imp (pss_cons (okS pc N Ce lv cf hl C X sc W x mk a h.1) (okSs_then x mk hr r h.2)) fun D0 σ H ⟨O, S, E, p⟩ => ?_
    refine ⟨O, S, E, ?_⟩
    have q := PostF.seq (r := evalS cf hl a S) (k := evalSs cf hl r) (D := { D0 with nx := tR D0 }) (by
      have z : evalSs cf hl (a :: r) S = (evalS cf hl a S).seq (evalSs cf hl r) := by simp only [evalSs]
      rw [← z]; exact p)
    cases hq : evalS cf hl a S with
    | nx s => rw [hq] at q; exact q
    | bk s => rw [hq] at q; exact q
    | ct s => rw [hq] at q; exact q
    | rt d s => rw [hq] at q; exact q
    | er c d s => rw [hq] at q; exact q
    | no => rw [hq] at q; exact q
  | [], _ :: _, h => by simp only [mSs] at h; cases h
  | _ :: _, [], h => by simp only [mSs] at h; cases h
end
/-- what such a def promises -/
def spL (K : PySem.W.Frag) (Ce : Ec) (F : List Sl → G → Option (List D × G)) : Sp := fun vs H Q E => ∃ (W : Option MA) (O : Addr → Prop) (xs : List Sl) (g : G),
  ArgsOk K W O H vs xs ∧ (∀ b, O b → ∃ o, Ol o ∧ H b = some o) ∧ (∀ b, Mw W b → O b) ∧ LamX.Tabs Ce.tb H ∧ DrawOk H W g ∧
  ∃ ds g', F xs g = some (ds, g') ∧ ∀ a vs' H', Aft Ce.tb W H H' g' → NP H a → H' a = some (.lst vs') → RpAll K (vis O H') vs' ds → Q (.ref a) H'
def preOwn (cf : Nat → List Sl → G → CR) (hl : Nat → Sg → R D) (pre : List Sx) (i slots n : Nat) (xs : List Sl) (g : G) : Option (List D × G) :=
  if xs.length = n then (match evalSs cf hl pre ⟨xs.map some ++ List.replicate (slots - xs.length) none, g⟩ with
    | .nx s => match s.own i with
      | some ds => some (ds, s.g)
      | none => none
    | _ => none) else none
section
variable {P : Program} {w : World} {K : PySem.W.Frag} {mg : Str → Option Value} {base : Heap} {Ce : Ec}
theorem df_own {pc : Pc} {lv : Nat} {cf : Nat → List Sl → G → CR} {x qual : Str} {params : Arguments} {pre' : List Stmt} {e : Expr} {p : Pos} {scope : Scope} {dvs : List V} {kws : List (Str × V)} {fa : Addr} {fd : FuncData} {N ps : List Str} {pre : List Sx} {i : Nat} {hl : Nat → Sg → R D}
    (F : FunD K x qual params (pre' ++ [.Return (some e) p]) scope dvs kws fa fd) (S : FnScope N ps scope) (hm : mSs pc N scope pre pre' = true) (hi : nameB N scope i e = true) (hls : pc.lsc = none) (pf : Pf pc P w K mg base Ce lv cf) (mk : MkAll P w K mg base Ce lv pc.xs) :
    FnOk P w K mg base (L2.CX P w) (lv + 1) fa fd ps (spL K Ce (preOwn cf hl pre i N.length ps.length)) := by
  have hlenF : ∀ {xs : List Sl} {g : G} {r}, preOwn cf hl pre i N.length ps.length xs g = some r → xs.length = ps.length := by
    intro xs g r h
    unfold preOwn at h
    by_cases e : xs.length = ps.length
    · exact e
    · rw [if_neg e] at h; cases h
  refine F.ok S (fun vs H Q E h => ?_) fun cdv A outer s H vs Q E hr h => ?_
  · obtain ⟨W, O, xs, g, r, _, _, _, _, ds, g', h, _⟩ := h
    rw [r.len]; exact hlenF h
  obtain ⟨W, O, xs, g, r, trk, mw, tbs, dok, ds, g', h, hQ⟩ := h
  have hlen := hlenF h
  unfold preOwn at h
  rw [if_pos hlen] at h
  have hpl : ps.length ≤ N.length := by have := congrArg List.length S.pre; rw [List.length_take] at this; omega
  generalize hX : cxOf (L2.CX P w) P w K mg base N qual scope fa cdv A outer s H E = X
  have xd : XD pc N Ce lv cf hl ⟨K, W, O, H, Ce.tb, lmNo, lmNoS⟩ X scope (fun cls d _ H' => E cls d H') := by
    subst hX
    exact { pf := pf, hN := rfl, nd := S.nd, sc := rfl, calm := rfl, K := rfl, tb := rfl, room := hr, takes := takes_of rfl rfl rfl rfl, hd0 := HdOk.no (by rw [hls]; intro z; cases z), lam := (fun z => by rw [hls] at z; cases z), fn := fun _ => rfl, kind := S.kind, own := passes_of rfl }
  refine ⟨_, okSs_then xd (mk X (by subst hX; rfl) (by subst hX; rfl) (by subst hX; rfl) (by subst hX; rfl) (by subst hX; rfl) (by subst hX; rfl) xd.room) (pss_one (ps_ret (x_slot xd.toXC hi))) pre hm, ?_⟩
  refine ⟨O, _, EOk.entry r trk mw tbs dok rfl (by omega), ?_⟩
  generalize evalSs cf hl pre ⟨xs.map some ++ List.replicate (N.length - xs.length) none, g⟩ = f at h
  cases f with
  | nx s' =>
    intro σ' H' O' gs E'
    simp only at h
    cases ho : s'.own i with
    | none => rw [ho] at h; cases h
    | some ds' =>
      rw [ho] at h
      cases h
      obtain ⟨_, a, vs', e1, e2, e3, e4, e5, e6⟩ := E'.own_at ho
      exact ⟨.ref a, e1, hQ a vs' H' ⟨E'.base_keep, E'.tabs, E'.dok⟩ e5 e2 (rpAll_sub E'.out _ _ e6)⟩
  | rt d' g' => cases h
  | er c d' s' => cases h
  | bk s' => cases h
  | ct s' => cases h
  | no => cases h
end
end Pv
namespace Pv
open PySem L2
def g00 : G := ⟨[], [], 0⟩
def noCf : Nat → List Sl → G → CR := fun _ _ _ => .no
def noHl : Nat → Sg → R D := fun _ _ => .no
/-- what stands in m['great'] -/
def iGreat : Ex := .lc [2] (.one 2) (.scr 0) none (.ite (.bin .ge (.var 2) (.bin .pow (.k (.int 10)) (.k (.int 18)))) (.var 2) (.k (.int 0)))
/-- what _law_begun promises -/
def spBeg (K : PySem.W.Frag) (Ce : Ec) (FF : List Sl → G → Option (List D × G)) : Sp := fun vs H Q E => ∃ (a : Addr) (ns cells great : List Int) (S' : Sg), vs = [.ref a] ∧ SqL K H a (ns.map V.int) ∧ LamX.Tabs Ce.tb H ∧
  FF [.scr ns] g00 = some (cells.map .int, g00) ∧ evalE noCf noHl iGreat ⟨[some (.scr ns), none, none], g00⟩ = .ok (.list (great.map .int)) S' ∧
  ∀ m H', DrawAt H' m ⟨cells, great, 0⟩ → (∀ b o, Nt o → H b = some o → H' b = some o) → LamX.Tabs Ce.tb H' → (∀ b, m.on b → NP H b) → Q (.ref m.A) H'
theorem ints_of {K : PySem.W.Frag} {H : Hp} : ∀ {vs : List V} {l : List Int}, RpAll K H vs (l.map PyData.int) → vs = l.map V.int
  | [], [], _ => rfl
  | _, i :: l, .cons (.int _) t => by rw [ints_of t]; rfl
  | _ :: _, [], h => by cases h
theorem sqL_vis {K : PySem.W.Frag} {H : Hp} {a : Addr} {xs : List V} (h : SqL K H a xs) : SqL K (vis (fun _ => False) H) a xs := by
  rcases h with (h | ⟨o, h⟩) | h
  · exact .inl (.inl (vis_of (fun z => z) (nt_lst _) h))
  · exact .inl (.inr ⟨o, vis_of (fun z => z) (fun _ z => nomatch z) h⟩)
  · exact .inr h
end Pv

/-! Pv35: what the top has left, seen by one look of the kernel. -/
namespace Pv
open PySem PySem.Spec PyProof.Rows L2 He
/-! ### own exceptions -/
def oexB (K : PySem.W.Frag) (C : Addr) : Bool :=
  (match K.lookup C with
    | some ⟨.type t, _, .cls cd, sl⟩ => decide (t = "type") && (cd.hasDict && !cd.hasDel) && (match cd.mro with
      | .ref a :: bm => decide (a = C) && PySem.HandSPX.refsVE bm
      | _ => false) && (match sl.toList with
      | [_, _, _, _, some (.builtin i), _] => decide (i = "ValueError.__new__")
      | _ => false)
    | _ => false) && eqO (PySem.W.findIn K (.ref C) "__setattr__") (some (some (.builtin "object.__setattr__"))) && decide (PySem.W.subIn K (.ref C) (.type "BaseException") = some true) && decide (PySem.W.typeIn K (.ref C) = some (.type "type")) && PySem.W.keepIn K (.ref C)
theorem oexB_ok {K : PySem.W.Frag} {C : Addr} (h : oexB K C = true) : OexC K C := by
  unfold oexB at h
  obtain ⟨h, h5⟩ := ba h
  obtain ⟨h, h4⟩ := ba h
  obtain ⟨h, h3⟩ := ba h
  obtain ⟨h1, h2⟩ := ba h
  refine ⟨?_, eqO_ok h2, of_decide_eq_true h3, of_decide_eq_true h4, h5⟩
  split at h1
  · rename_i t dd cd sl q
    obtain ⟨h1a, h6⟩ := ba h1
    obtain ⟨h1b, h7⟩ := ba h1a
    obtain ⟨h8, h9⟩ := ba h1b
    clear h1 h1a h1b h
    obtain ⟨h9, h10⟩ := ba h9
    obtain ⟨nm, bs, mro, ns, qn, hd, sn, sub, ab, col, hdel⟩ := cd
    simp only at h7 h9 h10
    subst h9
    have hdel' : hdel = false := by simpa using h10
    subst hdel'
    have ht := of_decide_eq_true h8
    subst ht
    split at h7
    · rename_i a bm
      obtain ⟨h11, h12⟩ := ba h7
      have ea := of_decide_eq_true h11
      subst ea
      split at h6
      · rename_i k0 k1 k2 k3 i k5 e
        have ei := of_decide_eq_true h6
        subst ei
        have es : sl = #[k0, k1, k2, k3, some (.builtin "ValueError.__new__"), k5] := by
          apply Array.ext'
          exact e
        subst es
        exact ⟨nm, qn, ns, bs, bm, sn, sub, ab, col, dd, k0, k1, k2, k3, k5, q, h12⟩
      · cases h6
    · cases h7
  · cases h1
/-- the closure's cell of a method -/
def cellOf (K : PySem.W.Frag) (f : Addr) : Addr := match K.lookup f with
  | some ⟨_, _, .func fd, _⟩ => (match fd.closure with
    | [(_, c)] => c
    | _ => 0)
  | _ => 0
def iniB (file : Str) (K : PySem.W.Frag) (C fI : Addr) (att qual : Str) : Bool :=
  oexB K C && (match K.lookup fI with
    | some ⟨_, _, .func fd, _⟩ => PySem.W.codeIn K fd.code qual && (match fd.defaults with
      | .none => true
      | _ => false) && (match fd.code with
      | .ref cda => (match K.lookup cda with
        | some ⟨_, _, .fields vs, _⟩ => (match (vs[2]? : Option Value) with
          | some (.str f _) => file == f
          | _ => false)
        | _ => false)
      | _ => false)
    | _ => false) && (match K.lookup (cellOf K fI) with
    | some ⟨_, _, .cell (some (.ref a)), _⟩ => decide (a = C)
    | _ => false) && (match PySem.W.clsIn K C with
    | some cd => eqO (PySem.W.alongIn K "__init__" ((cd.mro.dropWhile (· != .ref C)).drop 1)) (some (some (.builtin "ValueError.__init__")))
    | none => false) && decide (PySem.W.mroIn K C (.ref C) = some true) && decide (PySem.W.subIn K (.ref C) (.type "ValueError") = some true) && eqO (PySem.W.nsIn K PySem.cStatics "thirdparty.any") (some none) && eqO (PySem.W.findIn K (.ref C) att) (some none) &&
    eqO (PySem.W.findIn K (.ref C) "__init__") (some (some (.ref fI))) && decide (PySem.W.typeIn K (.ref fI) = some (.type "function"))
/-- the file's name of a program -/
theorem exK_mk {prog : Program} {K : PySem.W.Frag} {mg : Str → Option Value} {y pn att z qual : Str} {params : Arguments} {scope : Scope} {j : Nat} {p0 p1 p2 p3 p4 p5 p6 p7 p8 p9 : Pos}
    (e : fnW K (y, some "__init__") = (some (("__init__" : Str), qual, params, FuncBody.stmts (initB pn att z j p0 p1 p2 p3 p4 p5 p6 p7 p8 p9), scope, mainGlobals, [(("__class__" : Str), cellOf K (fAd K (y, some "__init__")))], builtinsNs) : FnW))
    (c : iniB prog.main.file K (ga K y) (fAd K (y, some "__init__")) att qual = true) (S : InitS pn scope) (hl : (p2.endLine == p4.line) = true) (top : (prog.main.scope.names.lookup ("super" : Str)).isSome = false)
    (first : ∃ ar, (params.posonlyargs ++ params.args).head? = some ar ∧ ar.arg = ("self" : Str))
    (hb : ∀ (kV doc pm : Value) (an : Option Addr) (cdv ct : Value) (cc : Addr) (us : List Value), us.length = 2 → bindArgs (PySem.W.ksFn "__init__" qual params (initB pn att z j p0 p1 p2 p3 p4 p5 p6 p7 p8 p9) scope .none kV doc pm an cdv ct cc) ⟨us, []⟩ = pure ([("self" : Str), pn].zip us))
    (gl : mg y = some (.ref (ga K y))) (dbg : (y == ("__debug__" : Str)) = false) : ExK prog K mg y (ga K y) att := by
  unfold iniB at c
  obtain ⟨c, c10⟩ := ba c
  obtain ⟨c, c9⟩ := ba c
  obtain ⟨c, c8⟩ := ba c
  obtain ⟨c, c7⟩ := ba c
  obtain ⟨c, c6⟩ := ba c
  obtain ⟨c, c5⟩ := ba c
  obtain ⟨c, c4⟩ := ba c
  obtain ⟨c, c3⟩ := ba c
  obtain ⟨c1, c2⟩ := ba c
  generalize hfI : fAd K (y, some "__init__") = fI at *
  unfold fnW at e
  rw [hfI] at e
  cases q : K.lookup fI with
  | none => rw [q] at c2; cases c2
  | some o =>
    obtain ⟨oc, od, dt, osl⟩ := o
    rw [q] at c2 e
    cases dt with
    | func fd =>
      obtain ⟨n1, n2, n3, n4, n5, n6, n7, n8, n9, n10, n11, n12, n13, n14, n15⟩ := fd
      have e2 : (some (n1, n2, n3, n4, n5, n6, n7, n15) : FnW) = _ := e
      simp only [Option.some.injEq, Prod.mk.injEq] at e2
      obtain ⟨h1, h2, h3, h4, h5, h6, h7, h8⟩ := e2
      subst h1 h2 h3 h4 h5 h6 h7 h8
      simp only at c2
      obtain ⟨c2a, d3⟩ := ba c2
      obtain ⟨d1, d2⟩ := ba c2a
      clear c2 c2a
      split at d2
      · split at d3
        · rename_i cda
          split at d3
          · rename_i ccl cdd vs ccs qc
            split at d3
            · rename_i f tf hvs
              split at c3
              · rename_i cl cld a csl qcell
                have ea := of_decide_eq_true c3
                subst ea
                split at c4
                · rename_i cd hcd
                  refine ⟨⟨fI, cellOf K fI, pn, z, _, _, _, _, _, j, p0, p1, p2, p3, p4, p5, p6, p7, p8, p9, ⟨oexB_ok c1, ⟨oc, od, .none, n9, n10, n11, n12, .ref cda, cda, n14, osl, rfl, q, d1, rfl, ccl, cdd, vs, ccs, f, tf, qc, hvs, d3⟩, ⟨cl, cld, csl, qcell⟩, ⟨cd, hcd, eqO_ok c4⟩, of_decide_eq_true c5, of_decide_eq_true c6, eqO_ok c7, eqO_ok c8, top, first⟩, S, hl, eqO_ok c9, of_decide_eq_true c10, .all fun us hus => hb _ _ _ _ _ _ _ us hus⟩, gl, dbg⟩
                · cases c4
              · cases c3
            · cases d3
          · cases d3
        · cases d3
      · cases d2
    | _ => cases c2
/-! ### a def whose code is known -/
theorem funC_of {K : PySem.W.Frag} {d : DefD} (e : fnW K d.at_ = d.val) (c : d.ok K = true) : ∃ fd, FunC K d.name d.qual d.params d.body d.scope (codeOf K d.at_) (fAd K d.at_) fd ∧ FunD K d.name d.qual d.params d.body d.scope (d.dvs K) (d.kws K) (fAd K d.at_) fd := by
  obtain ⟨fd, F⟩ := DefD.funD e c
  refine ⟨fd, ?_, F⟩
  obtain ⟨oc, od, dV, kV, doc, pm, an, cdv, ct, osl, rfl, lk, hcd, _, _⟩ := F.ex
  obtain ⟨cc, rfl⟩ := codeIn_ref hcd
  have ec := codeOf_eq lk rfl
  exact ⟨oc, od, dV, kV, doc, pm, an, ct, osl, by rw [ec], lk, by rw [ec]; exact hcd⟩
end Pv

/-! Pv36: all defs of a program together. -/
namespace Pv
open PySem L2 He
theorem spF_imp {K : PySem.W.Frag} {F F' : List Sl → G → CR} {Ce : Ec} (h : ∀ xs g, F xs g ≠ .no → F' xs g = F xs g) (vs : List V) (H : Hp) (Q : VK) (E : XK) (q : spF K Ce F vs H Q E) : spF K Ce F' vs H Q E := by
  obtain ⟨W, O, xs, g, q1, q2, q3, q4, q5, q6⟩ := q
  refine ⟨W, O, xs, g, q1, q2, q3, q4, q5, ?_⟩
  rw [h xs g (fun z => by rw [z] at q6; exact q6)]
  exact q6
/-- what the top says of the def number f -/
def GoalAt (P : Program) (w : World) (K : PySem.W.Frag) (mg : Str → Option Value) (base : Heap) (Ce : Ec) (lv0 : Nat) (pc : Pc) (hs : Hd) (tab : Nat → Fn) (f : Nat) (e : Str × Nat × Nat) : Prop :=
  ∃ fa fd ps, mg e.1 = some (.ref fa) ∧ PySem.W.keepIn K (.ref fa) = true ∧ ps.length = e.2.1 ∧
      (∀ nd, nd ≤ e.2.2 → Binds K fd ps (List.replicate nd .none)) ∧
      (∀ m ks perm, (f, m, ks, perm) ∈ pc.kbs → ∀ (s : Shared) (us ws : List Value), K.In s.heap → us.length = m → ws.length = ks.length → BindsTo s fd ⟨us, ks.zip ws⟩ (ps.zip (perm.map fun j => (us ++ ws).getD j .none))) ∧
      ∀ m, (∀ j, j ≤ m → Pf pc P w K mg base Ce (lv0 + j) (callF hs tab j)) → FnOk P w K mg base (L2.CX P w) (lv0 + m + 1) fa fd ps (spF K Ce fun xs g => if xs.length = e.2.1 then callF hs tab (m + 1) f xs g else .no)
def GoalsAt (P : Program) (w : World) (K : PySem.W.Frag) (mg : Str → Option Value) (base : Heap) (Ce : Ec) (lv0 : Nat) (pc : Pc) (hs : Hd) (tab : Nat → Fn) : Nat → List (Str × Nat × Nat) → Prop
  | _, [] => True
  | i, e :: r => GoalAt P w K mg base Ce lv0 pc hs tab i e ∧ GoalsAt P w K mg base Ce lv0 pc hs tab (i + 1) r
section
variable {P : Program} {w : World} {K : PySem.W.Frag} {mg : Str → Option Value} {base : Heap} {Ce : Ec} {lv0 : Nat} {pc : Pc} {hs : Hd} {tab : Nat → Fn}
theorem GoalsAt.get : ∀ {l : List (Str × Nat × Nat)} {i j : Nat} {e : Str × Nat × Nat}, GoalsAt P w K mg base Ce lv0 pc hs tab i l → l[j]? = some e → GoalAt P w K mg base Ce lv0 pc hs tab (i + j) e
  | [], i, j, e, _, h => by simp at h
  | a :: r, i, 0, e, h, q => by simp at q; subst q; exact h.1
  | a :: r, i, j + 1, e, h, q => by
    have z := GoalsAt.get h.2 (j := j) (show r[j]? = some e by simpa using q)
    rw [show i + (j + 1) = i + 1 + j by omega]
    exact z
theorem pf_all2 (no : ∀ x, pc.nm.no.contains x = true → mg x = none) (gcd : pc.nm.gcd = true → mg ("gcd" : Str) = some (.builtin "math.gcd"))
    (gl : ∀ x d, (x, d) ∈ pc.gls → ∃ v u, mg x = some u ∧ RelV v u ∧ Rp K (fun _ => none) v d) (fn : GoalsAt P w K mg base Ce lv0 pc hs tab 0 pc.fs) :
    ∀ m, Pf pc P w K mg base Ce (lv0 + m) (callF hs tab m) := by
  intro m
  induction m using Nat.strongRecOn with
  | _ m ih =>
    refine ⟨no, gcd, gl, fun f x n k e => ?_⟩
    have z := fn.get e
    rw [Nat.zero_add] at z
    obtain ⟨fa, fd, ps, h1, h2, h3, h4, h5, h6⟩ := z
    refine ⟨fa, fd, ps, h1, h2, h3, ?_, h4, h5⟩
    cases m with
    | zero =>
      have z : (fun (xs : List Sl) (g : G) => if xs.length = n then callF hs tab 0 f xs g else CR.no) = fun _ _ => CR.no := by
        funext xs g
        split <;> rfl
      rw [z]
      exact fn_no
    | succ m => exact h6 m fun j hj => ih j (by omega)
theorem callF_df {f : Nat} {d : Df} (h : tab f = .df d) (m : Nat) : ∃ hl : Nat → Sg → R D, ∀ args g, callF hs tab (m + 1) f args g = (evalSs (callF hs tab m) hl d.body ⟨args.map some ++ List.replicate (d.slots - args.length) none, g⟩).cr := by
  rcases m with _ | _ | k
  · exact ⟨heardOf hs (fun _ _ _ => .no) d.lams, fun args g => by simp only [callF, h]; rfl⟩
  · exact ⟨heardOf hs (fun _ _ _ => .no) d.lams, fun args g => by simp only [callF, h]; rfl⟩
  · exact ⟨heardOf hs (callF hs tab k) d.lams, fun args g => by simp only [callF, h]; rfl⟩
theorem no_kbs {f : Nat} (h : (pc.kbs.all fun q => decide (q.1 ≠ f)) = true) {fd : FuncData} {ps : List Str} : ∀ m ks perm, (f, m, ks, perm) ∈ pc.kbs → ∀ (s : Shared) (us ws : List Value), K.In s.heap → us.length = m → ws.length = ks.length → BindsTo s fd ⟨us, ks.zip ws⟩ (ps.zip (perm.map fun j => (us ++ ws).getD j .none)) := fun m ks perm hm => by
  have z := List.all_eq_true.mp h _ hm
  simp at z
/-- a plain def -/
theorem goal_df {f : Nat} {e : Str × Nat × Nat} {x qual : Str} {params : Arguments} {body : List Stmt} {scope : Scope} {dvs : List V} {kws : List (Str × V)} {fa : Addr} {fd : FuncData} {N ps : List Str} {d : Df}
    (F : FunD K x qual params body scope dvs kws fa fd) (S : FnScope N ps scope) (hd : d.slots = N.length) (hm : mSs pc N scope d.body body = true) (ht : tab f = .df d) (hls : pc.lsc = none) (gl : mg e.1 = some (.ref fa)) (hn : ps.length = e.2.1)
    (hb : ∀ nd, nd ≤ e.2.2 → Binds K fd ps (List.replicate nd .none))
    (hkb : ∀ m ks perm, (f, m, ks, perm) ∈ pc.kbs → ∀ (s : Shared) (us ws : List Value), K.In s.heap → us.length = m → ws.length = ks.length → BindsTo s fd ⟨us, ks.zip ws⟩ (ps.zip (perm.map fun j => (us ++ ws).getD j .none)))
    (mk : ∀ m, MkAll P w K mg base Ce (lv0 + m) pc.xs) : GoalAt P w K mg base Ce lv0 pc hs tab f e := by
  refine ⟨fa, fd, ps, gl, F.kp, hn, hb, hkb, fun m pf => ?_⟩
  obtain ⟨hl, hq⟩ := callF_df (hs := hs) ht m
  have z := df_ok (hl := hl) F S hd hm hls (pf m (Nat.le_refl m)) (mk m)
  rw [hn] at z
  have e2 : (fun (xs : List Sl) (g : G) => if xs.length = e.2.1 then callF hs tab (m + 1) f xs g else CR.no) = fun xs g => if xs.length = e.2.1 then (evalSs (callF hs tab m) hl d.body ⟨xs.map some ++ List.replicate (d.slots - xs.length) none, g⟩).cr else .no := by
    funext xs g
    rw [hq]
  rw [e2]
  exact z
/-- a number that nothing calls -/
theorem goal_no {f : Nat} {e : Str × Nat × Nat} {fa : Addr} {fd : FuncData} {ps : List Str} (gl : mg e.1 = some (.ref fa)) (kp : PySem.W.keepIn K (.ref fa) = true) (hn : ps.length = e.2.1) (hb : ∀ nd, nd ≤ e.2.2 → Binds K fd ps (List.replicate nd .none)) (ht : tab f = .pr fun _ _ => .no) (hk : (pc.kbs.all fun q => decide (q.1 ≠ f)) = true) :
    GoalAt P w K mg base Ce lv0 pc hs tab f e := by
  refine ⟨fa, fd, ps, gl, kp, hn, hb, no_kbs hk, fun m pf => ?_⟩
  have z : (fun (xs : List Sl) (g : G) => if xs.length = e.2.1 then callF hs tab (m + 1) f xs g else CR.no) = fun _ _ => CR.no := by
    funext xs g
    split
    · rcases m with _ | _ | m <;> simp only [callF, ht]
    · rfl
  rw [z]
  exact fn_no
/-- a def by hand -/
theorem goal_pr {f : Nat} {e : Str × Nat × Nat} {fa : Addr} {fd : FuncData} {ps : List Str} {p : List Sl → G → CR} {lv : Nat} (gl : mg e.1 = some (.ref fa)) (kp : PySem.W.keepIn K (.ref fa) = true) (hn : ps.length = e.2.1) (hb : ∀ nd, nd ≤ e.2.2 → Binds K fd ps (List.replicate nd .none)) (ht : tab f = .pr p) (hk : (pc.kbs.all fun q => decide (q.1 ≠ f)) = true)
    (F : FnOk P w K mg base (L2.CX P w) lv fa fd ps (spF K Ce fun xs g => if xs.length = e.2.1 then p xs g else .no)) (hlv : lv ≤ lv0 + 1) : GoalAt P w K mg base Ce lv0 pc hs tab f e := by
  refine ⟨fa, fd, ps, gl, kp, hn, hb, no_kbs hk, fun m pf => ?_⟩
  have z : (fun (xs : List Sl) (g : G) => if xs.length = e.2.1 then callF hs tab (m + 1) f xs g else CR.no) = fun xs g => if xs.length = e.2.1 then p xs g else CR.no := by
    funext xs g
    rcases m with _ | _ | m <;> simp only [callF, ht]
  rw [z]
  exact F.mono (by omega)
/-- a def that makes lambdas -/
theorem goal_L {f : Nat} {e : Str × Nat × Nat} {x qual : Str} {params : Arguments} {body : List Stmt} {scope : Scope} {c Pt : Addr} {fa g0 : Addr} {fd : FuncData} {N ps : List Str} {d : Df} {qs : List Cl} {hn0 : Str}
    (F : FunC K x qual params body scope c fa fd) (kp : PySem.W.keepIn K (.ref fa) = true) (S : FnScope N ps scope) (hd : d.slots = N.length) (hm : mSs { pc with lsc := some scope.names, hn := hn0, ml := mLam pc N d.lams } N scope d.body body = true) (ht : tab f = .df d) (hls : pc.lsc = none) (gl : mg e.1 = some (.ref fa)) (hn : ps.length = e.2.1)
    (hb : ∀ nd, nd ≤ e.2.2 → Binds K fd ps (List.replicate nd .none)) (hk : (pc.kbs.all fun q => decide (q.1 ≠ f)) = true) (h2 : 2 ≤ lv0) (hhs : hs = hdOf qs) (hr : HrOk K mg Ce hn0 qs g0)
    (mk : ∀ m, MkAll P w K mg base Ce (lv0 + m) pc.xs) (TB : LamX.TabB base mg c Pt) (hmT : (Pt, qual ++ ".<locals>." ++ "<lambda>") ∈ Ce.tb) (hu : ∀ p ∈ Ce.tb, p.1 = Pt → p.2 = qual ++ ".<locals>." ++ "<lambda>") : GoalAt P w K mg base Ce lv0 pc hs tab f e := by
  refine ⟨fa, fd, ps, gl, kp, hn, hb, no_kbs hk, fun m pf => ?_⟩
  have pfm := pf m (Nat.le_refl m)
  obtain ⟨k0, cf2, ek, p2, hq⟩ : ∃ (k0 : Nat) (cf2 : Nat → List Sl → G → CR), lv0 + m = k0 + 2 ∧ Pf pc P w K mg base Ce k0 cf2 ∧ ∀ args g, callF hs tab (m + 1) f args g = (evalSs (callF hs tab m) (heardOf hs cf2 d.lams) d.body ⟨args.map some ++ List.replicate (d.slots - args.length) none, g⟩).cr := by
    rcases m with _ | _ | k
    · exact ⟨lv0 - 2, fun _ _ _ => .no, by omega, pfm.none, fun args g => by simp only [callF, ht]; rfl⟩
    · exact ⟨lv0 - 1, fun _ _ _ => .no, by omega, pfm.none, fun args g => by simp only [callF, ht]; rfl⟩
    · exact ⟨lv0 + k, callF hs tab k, by omega, pf k (by omega), fun args g => by simp only [callF, ht]; rfl⟩
  have z := df_okL (pc := { pc with lsc := some scope.names, hn := hn0, ml := mLam pc N d.lams }) (pc0 := pc) (cf := callF hs tab m) (d := d) F S hd hm rfl rfl rfl hls (by rw [← ek]; exact pfm.sim rfl rfl rfl rfl) p2 hr (by rw [← ek]; exact mk m) TB hmT hu
  rw [hn, ← ek] at z
  have e2 : (fun (xs : List Sl) (g : G) => if xs.length = e.2.1 then callF hs tab (m + 1) f xs g else CR.no) = fun xs g => if xs.length = e.2.1 then (evalSs (callF hs tab m) (heardOf (hdOf qs) cf2 d.lams) d.body ⟨xs.map some ++ List.replicate (d.slots - xs.length) none, g⟩).cr else .no := by
    funext xs g
    rw [hq, hhs]
  rw [e2]
  subst hhs
  exact z
end
end Pv

namespace Pv
open PySem L2
/-! the small text of k03 -/
def n_is_whole : List Str := [("value" : Str), ("least" : Str), ("most" : Str)]
def b_is_whole : List Sx := [(.if_ (.or_ (.un .not (.un .isInt (.var 0))) (.un .isBool (.var 0))) [(.ret (.k (.bool false)))] []), (.ret (.and_ (.or_ (.un .isN (.var 1)) (.bin .ge (.var 0) (.var 1))) (.or_ (.un .isN (.var 2)) (.bin .le (.var 0) (.var 2)))))]
def n_is_row : List Str := [("value" : Str), ("length" : Str)]
def b_is_row : List Sx := [(.ret (.and_ (.un .isTup (.var 0)) (.or_ (.un .isN (.var 1)) (.bin .eq (.un .len (.var 0)) (.var 1)))))]
def n_is_fraction : List Str := [("value" : Str)]
def b_is_fraction : List Sx := [(.if_ (.or_ (.un .not (.call 1 0 [(.var 0), (.k (.int 2))])) (.or_ (.un .not (.call 0 2 [(.bin .idx (.var 0) (.k (.int 0)))])) (.un .not (.call 0 1 [(.bin .idx (.var 0) (.k (.int 1))), (.k (.int 1))])))) [(.ret (.k (.bool false)))] []), (.ret (.bin .eq (.bin .gcd (.bin .idx (.var 0) (.k (.int 0))) (.bin .idx (.var 0) (.k (.int 1)))) (.k (.int 1))))]
def n_need_fraction : List Str := [("fraction" : Str)]
def b_need_fraction : List Sx := [(.if_ (.un .not (.call 2 0 [(.var 0)])) [(.raise 3 (.var 0))] []), (.ret (.var 0))]
def n_ratio : List Str := [("upper" : Str), ("under" : Str), ("common" : Str)]
def b_ratio : List Sx := [(.if_ (.bin .lt (.var 1) (.k (.int 0))) [(.setN [0, 1] [(.un .neg (.var 0)), (.un .neg (.var 1))])] []), (.set 2 (.bin .gcd (.var 0) (.var 1))), (.ret (.tup [(.bin .fdiv (.var 0) (.var 2)), (.bin .fdiv (.var 1) (.var 2))]))]
def n_ratio_plus : List Str := [("one" : Str), ("other" : Str)]
def b_ratio_plus : List Sx := [(.ret (.call 4 0 [(.bin .add (.bin .mul (.bin .idx (.var 0) (.k (.int 0))) (.bin .idx (.var 1) (.k (.int 1)))) (.bin .mul (.bin .idx (.var 1) (.k (.int 0))) (.bin .idx (.var 0) (.k (.int 1))))), (.bin .mul (.bin .idx (.var 0) (.k (.int 1))) (.bin .idx (.var 1) (.k (.int 1))))]))]
def n_ratio_minus : List Str := [("one" : Str), ("other" : Str)]
def b_ratio_minus : List Sx := [(.ret (.call 4 0 [(.bin .sub (.bin .mul (.bin .idx (.var 0) (.k (.int 0))) (.bin .idx (.var 1) (.k (.int 1)))) (.bin .mul (.bin .idx (.var 1) (.k (.int 0))) (.bin .idx (.var 0) (.k (.int 1))))), (.bin .mul (.bin .idx (.var 0) (.k (.int 1))) (.bin .idx (.var 1) (.k (.int 1))))]))]
def n_ratio_times : List Str := [("one" : Str), ("other" : Str)]
def b_ratio_times : List Sx := [(.ret (.call 4 0 [(.bin .mul (.bin .idx (.var 0) (.k (.int 0))) (.bin .idx (.var 1) (.k (.int 0)))), (.bin .mul (.bin .idx (.var 0) (.k (.int 1))) (.bin .idx (.var 1) (.k (.int 1))))]))]
def n_ratio_less : List Str := [("one" : Str), ("other" : Str)]
def b_ratio_less : List Sx := [(.ret (.bin .lt (.bin .mul (.bin .idx (.var 0) (.k (.int 0))) (.bin .idx (.var 1) (.k (.int 1)))) (.bin .mul (.bin .idx (.var 1) (.k (.int 0))) (.bin .idx (.var 0) (.k (.int 1))))))]
def n_ratio_total : List Str := [("fractions" : Str), ("upper" : Str), ("under" : Str), ("one" : Str)]
def b_ratio_total : List Sx := [(.unp [1, 2] (.tup [(.k (.int 0)), (.k (.int 1))])), (.for_ (.one 3) (.seq (.var 0)) [(.setN [1, 2] [(.bin .add (.bin .mul (.var 1) (.bin .idx (.var 3) (.k (.int 1)))) (.bin .mul (.bin .idx (.var 3) (.k (.int 0))) (.var 2))), (.bin .mul (.var 2) (.bin .idx (.var 3) (.k (.int 1))))])]), (.ret (.call 4 0 [(.var 1), (.var 2)]))]
def n_are_fractions : List Str := [("value" : Str), ("many" : Str), ("one" : Str)]
def b_are_fractions : List Sx := [(.ret (.and_ (.call 1 0 [(.var 0), (.var 1)]) (.un .all (.lc [2] (.one 2) (.seq (.var 0)) none (.call 2 0 [(.var 2)])))))]
def n_row_fault : List Str := [("count" : Str), ("value" : Str)]
def b_row_fault : List Sx := [(.if_ (.un .not (.call 1 0 [(.var 1), (.k (.int 3))])) [(.ret (.tup [(.k (.str ("form" : Str)))]))] []), (.if_ (.or_ (.un .not (.un .isStr (.bin .idx (.var 1) (.k (.int 0))))) (.bin .nmem (.bin .idx (.var 1) (.k (.int 0))) (.gl ("KINDS" : Str) (.tuple [(.str ("most" : Str)), (.str ("less" : Str)), (.str ("same" : Str))])))) [(.ret (.tup [(.k (.str ("kind" : Str)))]))] []), (.if_ (.un .not (.call 10 0 [(.bin .idx (.var 1) (.k (.int 1))), (.var 0)])) [(.ret (.tup [(.k (.str ("weights" : Str)))]))] []), (.ret (.ite (.call 2 0 [(.bin .idx (.var 1) (.k (.int 2)))]) (.tup []) (.tup [(.k (.str ("limit" : Str)))])))]
def n_point_fault : List Str := [("count" : Str), ("value" : Str), ("place" : Str), ("one" : Str)]
def b_point_fault : List Sx := [(.if_ (.un .not (.call 1 0 [(.var 1), (.var 0)])) [(.ret (.tup [(.k (.str ("form" : Str)))]))] []), (.for_ (.many [2, 3]) (.enum (.var 1)) [(.if_ (.un .not (.call 2 0 [(.var 3)])) [(.ret (.tup [(.var 2)]))] [])]), (.ret (.tup []))]
def n_need_plain_point : List Str := [("count" : Str), ("point" : Str), ("fault" : Str)]
def b_need_plain_point : List Sx := [(.set 2 (.call 12 0 [(.var 0), (.var 1)])), (.if_ (.bin .ne (.var 2) (.tup [])) [(.raise 2 (.bin .idx (.var 2) (.k (.int 0))))] []), (.ret (.var 1))]
def n_plain_value : List Str := [("weights" : Str), ("point" : Str), ("one" : Str), ("two" : Str)]
def b_plain_value : List Sx := [(.ret (.call 9 0 [(.lc [2, 3] (.many [2, 3]) (.zip (.var 0) (.var 1)) none (.call 7 0 [(.var 2), (.var 3)]))]))]
def n_holds_at : List Str := [("row" : Str), ("point" : Str), ("here" : Str)]
def b_holds_at : List Sx := [(.set 2 (.call 14 0 [(.bin .idx (.var 0) (.k (.int 1))), (.var 1)])), (.if_ (.bin .eq (.bin .idx (.var 0) (.k (.int 0))) (.k (.str ("same" : Str)))) [(.ret (.bin .eq (.var 2) (.bin .idx (.var 0) (.k (.int 2)))))] []), (.ret (.or_ (.call 8 0 [(.var 2), (.bin .idx (.var 0) (.k (.int 2)))]) (.and_ (.bin .eq (.bin .idx (.var 0) (.k (.int 0))) (.k (.str ("most" : Str)))) (.bin .eq (.var 2) (.bin .idx (.var 0) (.k (.int 2)))))))]
def n_turned_numbers : List Str := [("numbers" : Str), ("one" : Str)]
def b_turned_numbers : List Sx := [(.ret (.un .tuple (.lc [1] (.one 1) (.seq (.var 0)) none (.tup [(.un .neg (.bin .idx (.var 1) (.k (.int 0)))), (.bin .idx (.var 1) (.k (.int 1)))]))))]
def n_lot_fault : List Str := [("value" : Str), ("is_mixed" : Str), ("number" : Str), ("row" : Str)]
def b_lot_fault : List Sx := [(.if_ (.or_ (.un .not (.call 1 0 [(.var 0), (.k (.int 2))])) (.un .not (.call 1 1 [(.bin .idx (.var 0) (.k (.int 1)))]))) [(.ret (.tup [(.k (.str ("form" : Str)))]))] []), (.if_ (.un .not (.call 0 0 [(.bin .idx (.var 0) (.k (.int 0))), (.k (.int 0)), (.gl ("MOST_UNKNOWNS" : Str) (.int 5))])) [(.ret (.tup [(.k (.str ("unknowns" : Str)))]))] []), (.if_ (.bin .gt (.un .len (.bin .idx (.var 0) (.k (.int 1)))) (.gl ("MOST_ROWS" : Str) (.int 60))) [(.ret (.tup [(.k (.str ("many" : Str)))]))] []), (.for_ (.many [2, 3]) (.enum (.bin .idx (.var 0) (.k (.int 1)))) [(.if_ (.or_ (.bin .ne (.call 11 0 [(.bin .idx (.var 0) (.k (.int 0))), (.var 3)]) (.tup [])) (.un .not (.or_ (.var 1) (.bin .mem (.bin .idx (.var 3) (.k (.int 0))) (.gl ("CLOSED" : Str) (.tuple [(.str ("most" : Str)), (.str ("same" : Str))])))))) [(.ret (.tup [(.var 2)]))] [])]), (.ret (.tup []))]
def n_need_lot : List Str := [("lot" : Str), ("fault" : Str)]
def b_need_lot : List Sx := [(.set 1 (.call 17 0 [(.var 0), (.k (.bool false))])), (.if_ (.bin .ne (.var 1) (.tup [])) [(.raise 1 (.bin .idx (.var 1) (.k (.int 0))))] []), (.ret (.var 0))]
def n_need_mixed : List Str := [("lot" : Str), ("fault" : Str)]
def b_need_mixed : List Sx := [(.set 1 (.call 17 0 [(.var 0), (.k (.bool true))])), (.if_ (.bin .ne (.var 1) (.tup [])) [(.raise 1 (.bin .idx (.var 1) (.k (.int 0))))] []), (.ret (.var 0))]
def n_all_hold : List Str := [("rows" : Str), ("point" : Str), ("row" : Str)]
def b_all_hold : List Sx := [(.ret (.un .all (.lc [2] (.one 2) (.seq (.var 0)) none (.call 15 0 [(.var 2), (.var 1)]))))]
def n_is_inside : List Str := [("lot" : Str), ("point" : Str)]
def b_is_inside : List Sx := [(.expr (.call 19 0 [(.var 0)])), (.expr (.call 13 0 [(.bin .idx (.var 0) (.k (.int 0))), (.var 1)])), (.ret (.call 20 0 [(.bin .idx (.var 0) (.k (.int 1))), (.var 1)]))]
def n_map_fault : List Str := [("count" : Str), ("value" : Str), ("place" : Str), ("one" : Str)]
def b_map_fault : List Sx := [(.if_ (.or_ (.un .not (.call 1 0 [(.var 1), (.k (.int 2))])) (.un .not (.call 1 0 [(.bin .idx (.var 1) (.k (.int 1))), (.var 0)]))) [(.ret (.tup [(.k (.str ("form" : Str)))]))] []), (.if_ (.un .not (.call 0 0 [(.bin .idx (.var 1) (.k (.int 0))), (.k (.int 0)), (.gl ("MOST_UNKNOWNS" : Str) (.int 5))])) [(.ret (.tup [(.k (.str ("unknowns" : Str)))]))] []), (.for_ (.many [2, 3]) (.enum (.bin .idx (.var 1) (.k (.int 1)))) [(.if_ (.or_ (.un .not (.call 1 0 [(.var 3), (.k (.int 2))])) (.or_ (.un .not (.call 10 0 [(.bin .idx (.var 3) (.k (.int 0))), (.bin .idx (.var 1) (.k (.int 0)))])) (.un .not (.call 2 0 [(.bin .idx (.var 3) (.k (.int 1)))])))) [(.ret (.tup [(.var 2)]))] [])]), (.ret (.tup []))]
def n_need_map : List Str := [("count" : Str), ("value" : Str), ("fault" : Str)]
def b_need_map : List Sx := [(.set 2 (.call 22 0 [(.var 0), (.var 1)])), (.if_ (.bin .ne (.var 2) (.tup [])) [(.raise 4 (.bin .idx (.var 2) (.k (.int 0))))] []), (.ret (.var 1))]
def n_put_row : List Str := [("row" : Str), ("value" : Str), ("weights" : Str), ("place" : Str), ("gone" : Str), ("one" : Str), ("far" : Str)]
def b_put_row : List Sx := [(.setOwn 2 (.lst [])), (.for_ (.one 3) (.rng (.bin .idx (.var 1) (.k (.int 0)))) [(.app 2 (.call 9 0 [(.lc [5, 6] (.many [5, 6]) (.zip (.bin .idx (.var 0) (.k (.int 1))) (.bin .idx (.var 1) (.k (.int 1)))) none (.call 7 0 [(.var 5), (.bin .idx (.bin .idx (.var 6) (.k (.int 0))) (.var 3))]))]))]), (.set 4 (.call 9 0 [(.lc [5, 6] (.many [5, 6]) (.zip (.bin .idx (.var 0) (.k (.int 1))) (.bin .idx (.var 1) (.k (.int 1)))) none (.call 7 0 [(.var 5), (.bin .idx (.var 6) (.k (.int 1)))]))])), (.ret (.tup [(.bin .idx (.var 0) (.k (.int 0))), (.btup 2), (.call 6 0 [(.bin .idx (.var 0) (.k (.int 2))), (.var 4)])]))]
def n_plain_put : List Str := [("lot" : Str), ("value" : Str), ("row" : Str)]
def b_plain_put : List Sx := [(.ret (.tup [(.bin .idx (.var 1) (.k (.int 0))), (.un .tuple (.lc [2] (.one 2) (.seq (.bin .idx (.var 0) (.k (.int 1)))) none (.call 24 0 [(.var 2), (.var 1)])))]))]
def n_lot_put : List Str := [("lot" : Str), ("change" : Str)]
def b_lot_put : List Sx := [(.expr (.call 18 0 [(.var 0)])), (.expr (.call 23 0 [(.bin .idx (.var 0) (.k (.int 0))), (.var 1)])), (.ret (.call 25 0 [(.var 0), (.var 1)]))]
def n_plain_image : List Str := [("value" : Str), ("point" : Str), ("weights" : Str), ("number" : Str)]
def b_plain_image : List Sx := [(.ret (.un .tuple (.lc [2, 3] (.many [2, 3]) (.seq (.bin .idx (.var 0) (.k (.int 1)))) none (.call 5 0 [(.call 14 0 [(.var 2), (.var 1)]), (.var 3)]))))]
def n_map_image : List Str := [("lot" : Str), ("change" : Str), ("point" : Str)]
def b_map_image : List Sx := [(.expr (.call 18 0 [(.var 0)])), (.expr (.call 23 0 [(.bin .idx (.var 0) (.k (.int 0))), (.var 1)])), (.expr (.call 13 0 [(.bin .idx (.var 1) (.k (.int 0))), (.var 2)])), (.ret (.call 27 0 [(.var 1), (.var 2)]))]
def n_plain_shifted : List Str := [("lot" : Str), ("point" : Str), ("rows" : Str), ("kind" : Str), ("weights" : Str), ("limit" : Str)]
def b_plain_shifted : List Sx := [(.set 2 (.lc [3, 4, 5] (.many [3, 4, 5]) (.seq (.bin .idx (.var 0) (.k (.int 1)))) none (.tup [(.var 3), (.var 4), (.call 5 0 [(.var 5), (.call 14 0 [(.var 4), (.var 1)])])]))), (.ret (.tup [(.bin .idx (.var 0) (.k (.int 0))), (.un .tuple (.var 2))]))]
def n_lot_shifted : List Str := [("lot" : Str), ("point" : Str)]
def b_lot_shifted : List Sx := [(.expr (.call 18 0 [(.var 0)])), (.expr (.call 13 0 [(.bin .idx (.var 0) (.k (.int 0))), (.var 1)])), (.ret (.call 29 0 [(.var 0), (.var 1)]))]
def n_plain_times : List Str := [("lot" : Str), ("fraction" : Str), ("kind" : Str), ("weights" : Str), ("limit" : Str)]
def b_plain_times : List Sx := [(.ret (.tup [(.bin .idx (.var 0) (.k (.int 0))), (.un .tuple (.lc [2, 3, 4] (.many [2, 3, 4]) (.seq (.bin .idx (.var 0) (.k (.int 1)))) none (.tup [(.var 2), (.var 3), (.call 7 0 [(.var 4), (.var 1)])])))]))]
def n_lot_times : List Str := [("lot" : Str), ("fraction" : Str)]
def b_lot_times : List Sx := [(.expr (.call 18 0 [(.var 0)])), (.expr (.call 3 0 [(.var 1)])), (.if_ (.bin .le (.bin .idx (.var 1) (.k (.int 0))) (.k (.int 0))) [(.raise 3 (.var 1))] []), (.ret (.call 31 0 [(.var 0), (.var 1)]))]
def n_plain_lot_turned : List Str := [("lot" : Str), ("kind" : Str), ("weights" : Str), ("limit" : Str)]
def b_plain_lot_turned : List Sx := [(.ret (.tup [(.bin .idx (.var 0) (.k (.int 0))), (.un .tuple (.lc [1, 2, 3] (.many [1, 2, 3]) (.seq (.bin .idx (.var 0) (.k (.int 1)))) none (.tup [(.var 1), (.call 16 0 [(.var 2)]), (.var 3)])))]))]
def n_lot_turned : List Str := [("lot" : Str)]
def b_lot_turned : List Sx := [(.expr (.call 18 0 [(.var 0)])), (.ret (.call 33 0 [(.var 0)]))]
def n__law_mixed : List Str := [("cell" : Str), ("n" : Str), ("blend" : Str)]
def b__law_mixed : List Sx := [(.set 2 (.bin .add (.bin .add (.bin .mod (.un .int (.bin .mul (.bin .mul (.var 0) (.bin .add (.k (.int 1)) (.bin .mul (.k (.int 2)) (.var 1)))) (.k (.int 48271)))) (.k (.int 2147483647))) (.bin .mul (.bin .mul (.k (.int 7919)) (.var 1)) (.var 1))) (.bin .mul (.k (.int 104729)) (.var 1)))), (.ret (.bin .fdiv (.bin .mod (.un .int (.bin .mul (.var 2) (.k (.int 69621)))) (.k (.int 2147483629))) (.k (.int 7))))]
def n__law_folded : List Str := [("script" : Str), ("found" : Str), ("n" : Str), ("cell" : Str)]
def b__law_folded : List Sx := [(.setOwn 1 (.lc [2] (.one 2) (.rng (.k (.int 64))) none (.bin .add (.k (.int 17)) (.var 2)))), (.for_ (.many [2, 3]) (.enumScr 0) [(.setIdx 1 (.bin .mod (.un .int (.var 2)) (.k (.int 64))) (.bin .mod (.un .int (.bin .add (.bin .mul (.bidx 1 (.bin .mod (.un .int (.var 2)) (.k (.int 64)))) (.k (.int 48271))) (.var 3))) (.k (.int 2147483647))))]), (.for_ (.one 2) (.rng2 (.k (.int 1)) (.k (.int 64))) [(.setIdx 1 (.var 2) (.bin .mod (.un .int (.bin .add (.bidx 1 (.var 2)) (.bin .mul (.bidx 1 (.bin .sub (.var 2) (.k (.int 1)))) (.k (.int 16807))))) (.k (.int 2147483647))))]), (.ret (.var 1))]
def n__law_draw : List Str := [("m" : Str), ("limit" : Str), ("n" : Str), ("lot" : Str), ("here" : Str), ("cell" : Str)]
def n__law_begun : List Str := [("script" : Str), ("m" : Str), ("cell" : Str)]
def n__law_of : List Str := [("m" : Str), ("some" : Str)]
def b__law_of : List Sx := [(.ret (.bin .idx (.var 1) (.call 37 0 [(.var 0), (.un .len (.var 1))])))]
def n__law_like : List Str := [("got" : Str), ("due" : Str), ("n" : Str)]
def b__law_like : List Sx := [(.if_ (.un .isN (.var 1)) [(.ret (.un .isN (.var 0)))] []), (.if_ (.un .isBool (.var 1)) [(.ret (.and_ (.un .isBool (.var 0)) (.bin .eq (.var 0) (.var 1))))] []), (.if_ (.un .isInt (.var 1)) [(.ret (.and_ (.un .isInt (.var 0)) (.and_ (.un .not (.un .isBool (.var 0))) (.bin .eq (.var 0) (.var 1)))))] []), (.if_ (.un .isStr (.var 1)) [(.ret (.and_ (.un .isStr (.var 0)) (.bin .eq (.var 0) (.var 1))))] []), (.if_ (.or_ (.and_ (.un .isTup (.var 1)) (.un .not (.un .isTup (.var 0)))) (.and_ (.un .isList (.var 1)) (.un .not (.un .isList (.var 0))))) [(.ret (.k (.bool false)))] []), (.if_ (.bin .ne (.un .len (.var 0)) (.un .len (.var 1))) [(.ret (.k (.bool false)))] []), (.for_ (.one 2) (.rng (.un .len (.var 1))) [(.if_ (.un .not (.call 40 0 [(.bin .idx (.var 0) (.var 2)), (.bin .idx (.var 1) (.var 2))])) [(.ret (.k (.bool false)))] [])]), (.ret (.k (.bool true)))]
def n__law_common : List Str := [("one" : Str), ("other" : Str)]
def b__law_common : List Sx := [(.setN [0, 1] [(.un .abs (.var 0)), (.un .abs (.var 1))]), (.while_ (.bin .ne (.var 1) (.k (.int 0))) [(.setN [0, 1] [(.var 1), (.bin .mod (.un .int (.var 0)) (.var 1))])]), (.ret (.var 0))]
def n__law_ratio : List Str := [("upper" : Str), ("under" : Str), ("common" : Str)]
def b__law_ratio : List Sx := [(.set 2 (.call 41 0 [(.var 0), (.var 1)])), (.set 2 (.ite (.bin .lt (.var 1) (.k (.int 0))) (.un .neg (.var 2)) (.var 2))), (.ret (.tup [(.bin .fdiv (.var 0) (.var 2)), (.bin .fdiv (.var 1) (.var 2))]))]
def n__law_sum : List Str := [("fractions" : Str), ("found" : Str), ("upper" : Str), ("under" : Str)]
def b__law_sum : List Sx := [(.set 1 (.tup [(.k (.int 0)), (.k (.int 1))])), (.for_ (.many [2, 3]) (.seq (.var 0)) [(.set 1 (.call 42 0 [(.bin .add (.bin .mul (.bin .idx (.var 1) (.k (.int 0))) (.var 3)) (.bin .mul (.var 2) (.bin .idx (.var 1) (.k (.int 1))))), (.bin .mul (.bin .idx (.var 1) (.k (.int 1))) (.var 3))]))]), (.ret (.var 1))]
def n__law_times : List Str := [("fractions" : Str), ("found" : Str), ("upper" : Str), ("under" : Str)]
def b__law_times : List Sx := [(.set 1 (.tup [(.k (.int 1)), (.k (.int 1))])), (.for_ (.many [2, 3]) (.seq (.var 0)) [(.set 1 (.call 42 0 [(.bin .mul (.bin .idx (.var 1) (.k (.int 0))) (.var 2)), (.bin .mul (.bin .idx (.var 1) (.k (.int 1))) (.var 3))]))]), (.ret (.var 1))]
def n__law_minus : List Str := [("one" : Str), ("other" : Str)]
def b__law_minus : List Sx := [(.ret (.call 42 0 [(.bin .sub (.bin .mul (.bin .idx (.var 0) (.k (.int 0))) (.bin .idx (.var 1) (.k (.int 1)))) (.bin .mul (.bin .idx (.var 1) (.k (.int 0))) (.bin .idx (.var 0) (.k (.int 1))))), (.bin .mul (.bin .idx (.var 0) (.k (.int 1))) (.bin .idx (.var 1) (.k (.int 1))))]))]
def n__law_odd_fraction : List Str := [("m" : Str)]
def b__law_odd_fraction : List Sx := [(.ret (.call 39 0 [(.var 0), (.lst [(.k .none), (.tup [(.k (.int 2)), (.k (.int 4))]), (.tup [(.k (.int 1)), (.k (.int 0))]), (.tup [(.k (.int 1)), (.un .neg (.k (.int 2)))]), (.tup [(.k (.int 0)), (.k (.int 2))]), (.tup [(.k (.int 1)), (.k (.int 2)), (.k (.int 3))]), (.lst [(.k (.int 1)), (.k (.int 2))]), (.tup [(.k (.bool true)), (.k (.int 1))]), (.tup [(.k (.int 1)), (.k (.bool true))]), (.k (.str ("1/2" : Str))), (.k (.int 1)), (.tup [(.k (.int 1))]), (.tup [(.un .neg (.k (.int 3))), (.k (.int 6))])])]))]
def n__law_small : List Str := [("m" : Str)]
def b__law_small : List Sx := [(.if_ (.bin .eq (.call 37 0 [(.var 0), (.k (.int 9))]) (.k (.int 0))) [(.ret (.call 42 0 [(.bin .sub (.call 37 0 [(.var 0), (.k (.int 201))]) (.k (.int 100))), (.bin .add (.k (.int 1)) (.call 37 0 [(.var 0), (.k (.int 50))]))]))] []), (.ret (.call 39 0 [(.var 0), (.lst [(.tup [(.k (.int 0)), (.k (.int 1))]), (.tup [(.k (.int 1)), (.k (.int 1))]), (.tup [(.un .neg (.k (.int 1))), (.k (.int 1))]), (.tup [(.k (.int 2)), (.k (.int 1))]), (.tup [(.un .neg (.k (.int 2))), (.k (.int 1))]), (.tup [(.k (.int 3)), (.k (.int 1))]), (.tup [(.k (.int 1)), (.k (.int 2))]), (.tup [(.un .neg (.k (.int 3))), (.k (.int 2))]), (.tup [(.k (.int 1)), (.k (.int 3))])])]))]
def n__law_whole_row : List Str := [("m" : Str), ("count" : Str), ("place" : Str)]
def b__law_whole_row : List Sx := [(.ret (.un .tuple (.lc [2] (.one 2) (.rng (.var 1)) none (.tup [(.call 39 0 [(.var 0), (.lst [(.k (.int 0)), (.k (.int 0)), (.k (.int 1)), (.k (.int 1)), (.un .neg (.k (.int 1))), (.un .neg (.k (.int 1))), (.k (.int 2)), (.un .neg (.k (.int 2))), (.k (.int 3))])]), (.k (.int 1))]))))]
def n__law_point : List Str := [("m" : Str), ("count" : Str), ("place" : Str)]
def b__law_point : List Sx := [(.ret (.un .tuple (.lc [2] (.one 2) (.rng (.var 1)) none (.call 47 0 [(.var 0)]))))]
def n__law_value : List Str := [("weights" : Str), ("point" : Str), ("one" : Str), ("two" : Str)]
def b__law_value : List Sx := [(.ret (.call 43 0 [(.lc [2, 3] (.many [2, 3]) (.zip (.var 0) (.var 1)) none (.call 44 0 [(.lst [(.var 2), (.var 3)])]))]))]
def n__law_row : List Str := [("m" : Str), ("count" : Str)]
def b__law_row : List Sx := [(.ret (.tup [(.call 39 0 [(.var 0), (.lst [(.k (.str ("most" : Str))), (.k (.str ("most" : Str))), (.k (.str ("most" : Str))), (.k (.str ("same" : Str)))])]), (.call 48 0 [(.var 0), (.var 1)]), (.tup [(.bin .sub (.call 37 0 [(.var 0), (.k (.int 9))]) (.k (.int 3))), (.k (.int 1))])]))]
def n__law_lot : List Str := [("m" : Str), ("count" : Str), ("rows" : Str), ("turn" : Str)]
def b__law_lot : List Sx := [(.ret (.tup [(.var 1), (.un .tuple (.lc [3] (.one 3) (.rng (.call 37 0 [(.var 0), (.bin .add (.var 2) (.k (.int 1)))])) none (.call 51 0 [(.var 0), (.var 1)])))]))]
def n__law_heard : List Str := [("call" : Str), ("told" : Str), ("e" : Str)]
def n__law_map : List Str := [("m" : Str), ("count" : Str), ("size" : Str), ("place" : Str)]
def b__law_map : List Sx := [(.ret (.tup [(.var 2), (.un .tuple (.lc [3] (.one 3) (.rng (.var 1)) none (.tup [(.call 48 0 [(.var 0), (.var 2)]), (.call 47 0 [(.var 0)])])))]))]
def n__law_image : List Str := [("change" : Str), ("point" : Str), ("weights" : Str), ("number" : Str)]
def b__law_image : List Sx := [(.ret (.un .tuple (.lc [2, 3] (.many [2, 3]) (.seq (.bin .idx (.var 0) (.k (.int 1)))) none (.call 43 0 [(.lst [(.call 50 0 [(.var 2), (.var 1)]), (.var 3)])]))))]
def n__law_put : List Str := [("lot" : Str), ("change" : Str), ("rows" : Str), ("kind" : Str), ("weights" : Str), ("limit" : Str), ("fresh" : Str), ("place" : Str), ("gone" : Str), ("one" : Str), ("far" : Str)]
def b__law_put : List Sx := [(.setOwn 2 (.lst [])), (.for_ (.many [3, 4, 5]) (.seq (.bin .idx (.var 0) (.k (.int 1)))) [(.setOwn 6 (.lst [])), (.for_ (.one 7) (.rng (.bin .idx (.var 1) (.k (.int 0)))) [(.app 6 (.call 43 0 [(.lc [9, 10] (.many [9, 10]) (.zip (.var 4) (.bin .idx (.var 1) (.k (.int 1)))) none (.call 44 0 [(.lst [(.var 9), (.bin .idx (.bin .idx (.var 10) (.k (.int 0))) (.var 7))])]))]))]), (.set 8 (.call 43 0 [(.lc [9, 10] (.many [9, 10]) (.zip (.var 4) (.bin .idx (.var 1) (.k (.int 1)))) none (.call 44 0 [(.lst [(.var 9), (.bin .idx (.var 10) (.k (.int 1)))])]))])), (.app 2 (.tup [(.var 3), (.btup 6), (.call 45 0 [(.var 5), (.var 8)])]))]), (.ret (.tup [(.bin .idx (.var 1) (.k (.int 0))), (.btup 2)]))]
def n__law_behind : List Str := [("change" : Str), ("other" : Str), ("places" : Str), ("weights" : Str), ("number" : Str), ("fresh" : Str), ("place" : Str), ("one" : Str), ("far" : Str)]
def b__law_behind : List Sx := [(.setOwn 2 (.lst [])), (.for_ (.many [3, 4]) (.seq (.bin .idx (.var 0) (.k (.int 1)))) [(.setOwn 5 (.lst [])), (.for_ (.one 6) (.rng (.bin .idx (.var 1) (.k (.int 0)))) [(.app 5 (.call 43 0 [(.lc [7, 8] (.many [7, 8]) (.zip (.var 3) (.bin .idx (.var 1) (.k (.int 1)))) none (.call 44 0 [(.lst [(.var 7), (.bin .idx (.bin .idx (.var 8) (.k (.int 0))) (.var 6))])]))]))]), (.app 2 (.tup [(.btup 5), (.call 43 0 [(.bin .add (.lst [(.var 4)]) (.lc [7, 8] (.many [7, 8]) (.zip (.var 3) (.bin .idx (.var 1) (.k (.int 1)))) none (.call 44 0 [(.lst [(.var 7), (.bin .idx (.var 8) (.k (.int 1)))])])))])]))]), (.ret (.tup [(.bin .idx (.var 1) (.k (.int 0))), (.btup 2)]))]
def n__law_maps_right : List Str := [("m" : Str), ("lot" : Str), ("change" : Str), ("other" : Str), ("point" : Str), ("put" : Str), ("told" : Str), ("due" : Str), ("spot" : Str), ("some" : Str), ("wrong" : Str), ("bent" : Str), ("calls" : Str), ("call" : Str)]
def b__law_maps_right : List Sx := [(.set 2 (.call 54 0 [(.var 0), (.bin .idx (.var 1) (.k (.int 0))), (.call 37 0 [(.var 0), (.k (.int 5))])])), (.unp [3, 4] (.tup [(.call 54 0 [(.var 0), (.bin .idx (.var 2) (.k (.int 0))), (.call 37 0 [(.var 0), (.k (.int 4))])]), (.call 49 0 [(.var 0), (.bin .idx (.var 2) (.k (.int 0)))])])), (.set 5 (.callk 26 [1, 0] [(.var 2), (.var 1)])), (.set 6 (.lst [(.var 5), (.call 28 0 [(.var 1), (.var 2), (.var 4)]), (.call 21 0 [(.var 5), (.var 4)]), (.call 26 0 [(.var 5), (.var 3)])])), (.set 7 (.lst [(.call 56 0 [(.var 1), (.var 2)]), (.call 55 0 [(.var 2), (.var 4)]), (.call 21 0 [(.var 1), (.call 55 0 [(.var 2), (.var 4)])]), (.call 56 0 [(.var 1), (.call 57 0 [(.var 2), (.var 3)])])])), (.if_ (.un .not (.call 40 0 [(.var 6), (.var 7)])) [(.ret (.k (.bool false)))] []), (.set 8 (.ite (.bin .gt (.bin .idx (.var 1) (.k (.int 0))) (.k (.int 0))) (.call 37 0 [(.var 0), (.bin .idx (.var 1) (.k (.int 0)))]) (.k (.int 0)))), (.set 9 (.call 48 0 [(.var 0), (.bin .idx (.var 2) (.k (.int 0)))])), (.set 10 (.call 39 0 [(.var 0), (.lst [(.k .none), (.tup []), (.tup [(.tup []), (.k (.int 0))]), (.tup [(.var 9)]), (.tup [(.bin .mul (.lst [(.tup [(.k (.int 0)), (.k (.int 1))])]) (.bin .idx (.var 2) (.k (.int 0)))), (.tup [(.k (.int 0)), (.k (.int 1))])]), (.tup [(.bin .add (.var 9) (.tup [(.tup [(.k (.int 0)), (.k (.int 1))])])), (.tup [(.k (.int 0)), (.k (.int 1))])]), (.tup [(.var 9), (.call 46 0 [(.var 0)])])])])), (.set 11 (.tup [(.bin .idx (.var 2) (.k (.int 0))), (.bin .add (.bin .add (.slice (.bin .idx (.var 2) (.k (.int 1))) none (some (.var 8))) (.tup [(.var 10)])) (.slice (.bin .idx (.var 2) (.k (.int 1))) (some (.bin .add (.var 8) (.k (.int 1)))) none))])), (.lamInit 12 [0]), (.lamApp 12 1), (.lamApp 12 2), (.lamApp 12 3), (.ret (.call 40 0 [(.heardAll 12), (.lst [(.lst [(.k (.str ("map" : Str))), (.ite (.bin .gt (.bin .idx (.var 1) (.k (.int 0))) (.k (.int 0))) (.var 8) (.k (.str ("form" : Str))))]), (.lst [(.k (.str ("map" : Str))), (.k (.str ("unknowns" : Str)))]), (.lst [(.k (.str ("map" : Str))), (.k (.str ("form" : Str)))]), (.lst [(.k (.str ("point" : Str))), (.k (.str ("form" : Str)))])])]))]
def l__law_maps_right : List Ex := [(.call 26 0 [(.var 1), (.var 11)]), (.call 26 0 [(.var 1), (.tup [(.k (.int 6)), (.bin .idx (.var 2) (.k (.int 1)))])]), (.call 28 0 [(.var 1), (.un .list (.var 2)), (.k .none)]), (.call 28 0 [(.var 1), (.var 2), (.bin .add (.var 4) (.tup [(.tup [(.k (.int 0)), (.k (.int 1))])]))])]
def n__law_moves_right : List Str := [("m" : Str), ("lot" : Str), ("point" : Str), ("here" : Str), ("times" : Str), ("shifted" : Str), ("taken" : Str), ("turned" : Str), ("told" : Str), ("inside" : Str), ("moved" : Str), ("odd" : Str), ("low" : Str), ("calls" : Str), ("kind" : Str), ("weights" : Str), ("limit" : Str), ("one" : Str), ("two" : Str), ("call" : Str)]
def b__law_moves_right : List Sx := [(.unp [2, 3, 4] (.tup [(.call 49 0 [(.var 0), (.bin .idx (.var 1) (.k (.int 0)))]), (.call 49 0 [(.var 0), (.bin .idx (.var 1) (.k (.int 0)))]), (.call 39 0 [(.var 0), (.lst [(.tup [(.k (.int 2)), (.k (.int 1))]), (.tup [(.k (.int 1)), (.k (.int 2))]), (.tup [(.k (.int 7)), (.k (.int 3))]), (.tup [(.k (.int 1)), (.k (.int 1))])])])])), (.set 5 (.tup [(.bin .idx (.var 1) (.k (.int 0))), (.un .tuple (.lc [14, 15, 16] (.many [14, 15, 16]) (.seq (.bin .idx (.var 1) (.k (.int 1)))) none (.tup [(.var 14), (.var 15), (.call 43 0 [(.lst [(.var 16), (.call 50 0 [(.var 15), (.var 2)])])])])))])), (.set 6 (.tup [(.bin .idx (.var 1) (.k (.int 0))), (.un .tuple (.lc [14, 15, 16] (.many [14, 15, 16]) (.seq (.bin .idx (.var 1) (.k (.int 1)))) none (.tup [(.var 14), (.var 15), (.call 44 0 [(.lst [(.var 16), (.var 4)])])])))])), (.set 7 (.tup [(.bin .idx (.var 1) (.k (.int 0))), (.un .tuple (.lc [14, 15, 16] (.many [14, 15, 16]) (.seq (.bin .idx (.var 1) (.k (.int 1)))) none (.tup [(.var 14), (.un .tuple (.lc [17] (.one 17) (.seq (.var 15)) none (.tup [(.un .neg (.bin .idx (.var 17) (.k (.int 0)))), (.bin .idx (.var 17) (.k (.int 1)))]))), (.var 16)])))])), (.set 8 (.lst [(.callk 30 [1, 0] [(.var 2), (.var 1)]), (.callk 32 [1, 0] [(.var 4), (.var 1)]), (.callk 34 [0] [(.var 1)])])), (.if_ (.un .not (.call 40 0 [(.var 8), (.lst [(.var 5), (.var 6), (.var 7)])])) [(.ret (.k (.bool false)))] []), (.set 9 (.call 21 0 [(.var 1), (.var 3)])), (.set 10 (.un .tuple (.lc [17, 18] (.many [17, 18]) (.zip (.var 3) (.var 2)) none (.call 43 0 [(.lst [(.var 17), (.var 18)])])))), (.set 8 (.lst [(.call 21 0 [(.var 5), (.var 10)]), (.call 21 0 [(.var 6), (.un .tuple (.lc [17] (.one 17) (.seq (.var 3)) none (.call 44 0 [(.lst [(.var 17), (.var 4)])])))]), (.call 21 0 [(.var 7), (.un .tuple (.lc [17] (.one 17) (.seq (.var 3)) none (.tup [(.un .neg (.bin .idx (.var 17) (.k (.int 0)))), (.bin .idx (.var 17) (.k (.int 1)))])))])])), (.if_ (.un .not (.call 40 0 [(.var 8), (.bin .mul (.lst [(.var 9)]) (.k (.int 3)))])) [(.ret (.k (.bool false)))] []), (.unp [11, 12] (.tup [(.call 46 0 [(.var 0)]), (.call 39 0 [(.var 0), (.lst [(.tup [(.k (.int 0)), (.k (.int 1))]), (.tup [(.un .neg (.k (.int 1))), (.k (.int 2))])])])])), (.lamInit 13 [0]), (.lamApp 13 1), (.lamApp 13 2), (.lamApp 13 3), (.ret (.call 40 0 [(.heardAll 13), (.lst [(.lst [(.k (.str ("fraction" : Str))), (.var 11)]), (.lst [(.k (.str ("fraction" : Str))), (.var 12)]), (.lst [(.k (.str ("point" : Str))), (.k (.str ("form" : Str)))]), (.lst [(.k (.str ("lot" : Str))), (.k (.str ("form" : Str)))])])]))]
def l__law_moves_right : List Ex := [(.call 32 0 [(.var 1), (.var 11)]), (.call 32 0 [(.var 1), (.var 12)]), (.call 30 0 [(.var 1), (.un .list (.var 2))]), (.call 34 0 [(.k .none)])]
def n_law : List Str := [("script" : Str), ("m" : Str), ("turn" : Str), ("lot" : Str)]
def b_law : List Sx := [(.for_ (.one 2) (.rng (.k (.int 4))) [(.set 3 (.call 52 0 [(.var 1), (.call 37 0 [(.var 1), (.k (.int 5))]), (.k (.int 5))])), (.if_ (.or_ (.un .not (.call 58 0 [(.var 1), (.var 3)])) (.un .not (.call 59 0 [(.var 1), (.var 3)]))) [(.ret (.k (.bool false)))] [])]), (.ret (.k (.bool true)))]
def pcs : Pc where
  nm := ⟨[("len" : Str), ("tuple" : Str), ("list" : Str), ("abs" : Str), ("int" : Str), ("all" : Str), ("any" : Str), ("isinstance" : Str), ("bool" : Str), ("str" : Str), ("range" : Str), ("zip" : Str), ("enumerate" : Str), ("sorted" : Str)], true⟩
  fs := [(("is_whole" : Str), 3, 2), (("is_row" : Str), 2, 1), (("is_fraction" : Str), 1, 0), (("need_fraction" : Str), 1, 0), (("ratio" : Str), 2, 0), (("ratio_plus" : Str), 2, 0), (("ratio_minus" : Str), 2, 0), (("ratio_times" : Str), 2, 0), (("ratio_less" : Str), 2, 0), (("ratio_total" : Str), 1, 0), (("are_fractions" : Str), 2, 0), (("row_fault" : Str), 2, 0), (("point_fault" : Str), 2, 0), (("need_plain_point" : Str), 2, 0), (("plain_value" : Str), 2, 0), (("holds_at" : Str), 2, 0), (("turned_numbers" : Str), 1, 0), (("lot_fault" : Str), 2, 0), (("need_lot" : Str), 1, 0), (("need_mixed" : Str), 1, 0), (("all_hold" : Str), 2, 0), (("is_inside" : Str), 2, 0), (("map_fault" : Str), 2, 0), (("need_map" : Str), 2, 0), (("put_row" : Str), 2, 0), (("plain_put" : Str), 2, 0), (("lot_put" : Str), 2, 0), (("plain_image" : Str), 2, 0), (("map_image" : Str), 3, 0), (("plain_shifted" : Str), 2, 0), (("lot_shifted" : Str), 2, 0), (("plain_times" : Str), 2, 0), (("lot_times" : Str), 2, 0), (("plain_lot_turned" : Str), 1, 0), (("lot_turned" : Str), 1, 0), (("_law_mixed" : Str), 2, 0), (("_law_folded" : Str), 1, 0), (("_law_draw" : Str), 2, 0), (("is_whole" : Str), 3, 2), (("_law_of" : Str), 2, 0), (("_law_like" : Str), 2, 0), (("_law_common" : Str), 2, 0), (("_law_ratio" : Str), 2, 0), (("_law_sum" : Str), 1, 0), (("_law_times" : Str), 1, 0), (("_law_minus" : Str), 2, 0), (("_law_odd_fraction" : Str), 1, 0), (("_law_small" : Str), 1, 0), (("_law_whole_row" : Str), 2, 0), (("_law_point" : Str), 2, 0), (("_law_value" : Str), 2, 0), (("_law_row" : Str), 2, 0), (("_law_lot" : Str), 3, 0), (("is_whole" : Str), 3, 2), (("_law_map" : Str), 3, 0), (("_law_image" : Str), 2, 0), (("_law_put" : Str), 2, 0), (("_law_behind" : Str), 2, 0), (("_law_maps_right" : Str), 2, 0), (("_law_moves_right" : Str), 2, 0), (("is_whole" : Str), 3, 2)]
  gls := [(("MOST_UNKNOWNS" : Str), (.int 5)), (("KINDS" : Str), (.tuple [(.str ("most" : Str)), (.str ("less" : Str)), (.str ("same" : Str))])), (("MOST_ROWS" : Str), (.int 60)), (("CLOSED" : Str), (.tuple [(.str ("most" : Str)), (.str ("same" : Str))]))]
  kbs := [(26, 0, [("change" : Str), ("lot" : Str)], [1, 0]), (30, 0, [("point" : Str), ("lot" : Str)], [1, 0]), (32, 0, [("fraction" : Str), ("lot" : Str)], [1, 0]), (34, 0, [("lot" : Str)], [0])]
  xs := [(("BadLot" : Str), 1), (("BadPoint" : Str), 2), (("BadFraction" : Str), 3), (("BadMap" : Str), 4)]
def tabL : List Fn := [.df ⟨3, b_is_whole, []⟩, .df ⟨2, b_is_row, []⟩, .df ⟨1, b_is_fraction, []⟩, .df ⟨1, b_need_fraction, []⟩, .df ⟨3, b_ratio, []⟩, .df ⟨2, b_ratio_plus, []⟩, .df ⟨2, b_ratio_minus, []⟩, .df ⟨2, b_ratio_times, []⟩, .df ⟨2, b_ratio_less, []⟩, .df ⟨4, b_ratio_total, []⟩, .df ⟨3, b_are_fractions, []⟩, .df ⟨2, b_row_fault, []⟩, .df ⟨4, b_point_fault, []⟩, .df ⟨3, b_need_plain_point, []⟩, .df ⟨4, b_plain_value, []⟩, .df ⟨3, b_holds_at, []⟩, .df ⟨2, b_turned_numbers, []⟩, .df ⟨4, b_lot_fault, []⟩, .df ⟨2, b_need_lot, []⟩, .df ⟨2, b_need_mixed, []⟩, .df ⟨3, b_all_hold, []⟩, .df ⟨2, b_is_inside, []⟩, .df ⟨4, b_map_fault, []⟩, .df ⟨3, b_need_map, []⟩, .df ⟨7, b_put_row, []⟩, .df ⟨3, b_plain_put, []⟩, .df ⟨2, b_lot_put, []⟩, .df ⟨4, b_plain_image, []⟩, .df ⟨3, b_map_image, []⟩, .df ⟨6, b_plain_shifted, []⟩, .df ⟨2, b_lot_shifted, []⟩, .df ⟨5, b_plain_times, []⟩, .df ⟨2, b_lot_times, []⟩, .df ⟨4, b_plain_lot_turned, []⟩, .df ⟨1, b_lot_turned, []⟩, .df ⟨3, b__law_mixed, []⟩, .df ⟨4, b__law_folded, []⟩, .pr drawP, .pr (fun _ _ => .no), .df ⟨2, b__law_of, []⟩, .df ⟨3, b__law_like, []⟩, .df ⟨2, b__law_common, []⟩, .df ⟨3, b__law_ratio, []⟩, .df ⟨4, b__law_sum, []⟩, .df ⟨4, b__law_times, []⟩, .df ⟨2, b__law_minus, []⟩, .df ⟨1, b__law_odd_fraction, []⟩, .df ⟨1, b__law_small, []⟩, .df ⟨3, b__law_whole_row, []⟩, .df ⟨3, b__law_point, []⟩, .df ⟨4, b__law_value, []⟩, .df ⟨2, b__law_row, []⟩, .df ⟨4, b__law_lot, []⟩, .pr (fun _ _ => .no), .df ⟨4, b__law_map, []⟩, .df ⟨4, b__law_image, []⟩, .df ⟨11, b__law_put, []⟩, .df ⟨9, b__law_behind, []⟩, .df ⟨14, b__law_maps_right, l__law_maps_right⟩, .df ⟨20, b__law_moves_right, l__law_moves_right⟩, .pr (fun _ _ => .no)]
def tab (f : Nat) : Fn := tabL.getD f (.pr fun _ _ => .no)
def qsH : List Cl := [(("BadLot" : Str), 1, ("lot" : Str), ("place" : Str)), (("BadMap" : Str), 4, ("map" : Str), ("place" : Str)), (("BadPoint" : Str), 2, ("point" : Str), ("place" : Str)), (("BadFraction" : Str), 3, ("fraction" : Str), ("value" : Str))]
end Pv

namespace Pv
open PySem L2
def st (i : Nat) : Stmt := PySem.Challenge.pw_summedbounds_k03_whole_lots_put_shifted.main.body.getD i (.Pass ⟨0, 0, 0, 0⟩)
abbrev sDraw : Stmt := st 54
theorem scD : FnScope ["m", "limit", "n", "lot", "here", "cell"] ["m", "limit"] (defScope sDraw) := ⟨rfl, rfl, rfl, by decide +kernel, rfl, by decide +kernel, by decide +kernel⟩
section
variable {P : Program} {w : World} {K : PySem.W.Frag} {mg : Str → Option Value} {base : Heap} {Ce : Ec}
theorem ok_draw {fa fm : Addr} {fd fdm : FuncData} {lv : Nat} (F : FunD K "_law_draw" "_law_draw" (defArgs sDraw) (defBody sDraw) (defScope sDraw) [] [] fa fd) (gI : mg "int" = none) (gL : mg "len" = none)
    (gM : mg "_law_mixed" = some (.ref fm)) (kM : PySem.W.keepIn K (.ref fm) = true) (M : FnOk P w K mg base (L2.CX P w) lv fm fdm ["cell", "n"] (spF K Ce mixC)) (bM : Binds K fdm ["cell", "n"] []) :
    FnOk P w K mg base (L2.CX P w) (lv + 1) fa fd ["m", "limit"] (spF K Ce fun xs g => if xs.length = 2 then drawP xs g else .no) := by
  refine F.ok scD (fun vs H Q E h => spF_len (n := 2) h) (fun cdv A outer s H vs Q E hr h => ?_)
  have hu := hu_of hr
  have tk : Takes (cxOf (L2.CX P w) P w K mg base ["m", "limit", "n", "lot", "here", "cell"] "_law_draw" (defScope sDraw) fa cdv A outer s H E) (fun cls d _ H' => E cls d H') := takes_of rfl rfl rfl rfl
  refine ⟨_, pss_cons (ps_set (i := 2) scD.nd rfl (Or.inl rfl) (pe_dget hu (pv 0) pe_str (fun _ _ => rfl)))
    (pss_cons (ps_dput hu (pv 0) pe_str (pe_op op_add (pv 2) pe_int) rfl)
    (pss_cons (ps_if (pt_cmpR (op_neD hr.units) (pe_dget hu (pv 0) pe_str (fun _ _ => rfl)) (pe_lst pa_nil) (nomark _))
      (pss_cons (ps_set (i := 3) scD.nd rfl (Or.inl rfl) (pe_dget hu (pv 0) pe_str (fun _ _ => rfl)))
      (pss_cons (ps_set (i := 4) scD.nd rfl (Or.inl rfl) (pe_op op_mod (pe_callTy call_int1 (by rfl) gI (by decide +kernel) (pa_cons (pv 2) pa_nil)) (pe_callB call_len_seq (by rfl) gL PySem.boot_len (pa_cons (pv 3) pa_nil))))
      (pss_cons (ps_set (i := 5) scD.nd rfl (Or.inl rfl) (pe_ix ix_list (pv 3) (pv 4) (fun _ _ => rfl)))
      (pss_one (ps_if (pt_cmpR op_gt (pv 5) pe_int (nomark _))
        (pss_cons (ps_asg (pe_op op_fdivW (pv 5) (pv 1)) (pg_sub (pv 3) (pv 4) set_list (fun _ => rfl)))
        (pss_one (ps_ret (pe_op op_mod (pe_callTy call_int1 (by rfl) gI (by decide +kernel) (pa_cons (pv 5) pa_nil)) (pv 1)))))
        pss_nil))))) pss_nil)
    (pss_cons (ps_set (i := 3) scD.nd rfl (Or.inl rfl) (pe_dget hu (pv 0) pe_str (fun _ _ => rfl)))
    (pss_one (ps_ret (pe_op op_mod (pe_callTy call_int1 (by rfl) gI (by decide +kernel) (pa_cons
      (pe_callSD (E := WE fun cls d _ H' => E cls d H') M hr (by rfl) gM kM bM .nil (passAt tk) (pa_cons
        (pe_callSD (E := WE fun cls d _ H' => E cls d H') M hr (by rfl) gM kM bM .nil (passAt tk) (pa_cons (pe_op op_add (pe_ix ix_list (pv 3) (pe_op op_mod (pe_callTy call_int1 (by rfl) gI (by decide +kernel) (pa_cons (pv 2) pa_nil)) pe_int) (fun _ _ => rfl)) (pe_op op_mulW pe_int (pe_op op_fdiv (pv 2) pe_int))) (pa_cons (pv 2) pa_nil)))
        (pa_cons (pe_op op_add (pv 2) pe_int) pa_nil))) pa_nil)) (pv 1))))))), ?_⟩
  obtain ⟨W, O, xs, g, r, trk, mw, tbs, dok, h⟩ := h
  dsimp only at h
  have hlen : xs.length = 2 := by
    by_cases e : xs.length = 2
    · exact e
    · rw [if_neg e] at h; exact h.elim
  rw [if_pos hlen] at h
  have h : Ans2 K Ce W O H Q E (drawP xs g) := h
  obtain ⟨limit, rfl, hL1, hL2, hL3⟩ := drawP_in (xs := xs) (g := g) (fun z => by rw [z] at h; exact h)
  cases r with
  | cons a1 r =>
  cases r with
  | cons a2 r =>
  cases r
  obtain ⟨m, rfl, rfl⟩ := a1
  cases a2
  have A0 : Aft Ce.tb (some m) H H g := Aft.start tbs dok
  obtain ⟨d1, d2, d3, d4⟩ := A0.at
  -- n = m['spot']; m['spot'] = n + 1
  refine ⟨_, rfl, m.A, _, rfl, .inl ⟨_, kSpot, .inl d1, rfl, val_spot.symm⟩, ?_⟩
  refine ⟨_, rfl, _, _, rfl, rfl, _, rfl, m.A, upd H m.A (.dK [(kCells, .ref m.ac), (kGreat, .ref m.ag), (kSpot, .int ((g.spot + 1 : Nat) : Int))]), rfl, .inl ⟨_, kSpot, d1, rfl, (by show 3 < sizeLine; rw [sizeLine_eq]; omega), by rw [put_spot]; rfl⟩, ?_⟩
  have A1 := A0.spot (n := g.spot + 1)
  generalize upd H m.A _ = H1 at A1
  clear d1 d2 d3 d4
  obtain ⟨d1, d2, d3, d4⟩ := A1.at
  -- if m['great'] != []
  refine ⟨_, rfl, m.A, _, rfl, .inl ⟨_, kGreat, .inl d1, rfl, val_great.symm⟩, Nat.zero_le _, fun q hq => ?_⟩
  have A2 := A1.new (o := .lst []) hq
  have e3 := (Sub.upd (o := .lst []) hq) _ _ d3
  refine ⟨.list (g.great.map .int), .list [], .lst (SqL.of e3) (rpAll_dp _ _ (rpInts (K := K) _)), .lst (SqL.of upd_same) .nil, PySem.W.ke_shaped_ints _, rfl, _, rfl, ?_⟩
  generalize upd H1 q _ = H2 at A2 e3
  clear d1 d2 d3 d4
  have hE : PyData.eqv (.list (g.great.map .int)) (.list []) = g.great.isEmpty := by cases g.great <;> rfl
  rw [hE, draw_eq hL1 hL2 hL3] at *
  by_cases hg : g.great = []
  · rw [if_pos hg] at h
    rw [if_neg (by rw [hg]; decide)]
    obtain ⟨d1, d2, d3, d4⟩ := A2.at
    obtain ⟨c, hc, hc1, hc2, hcE⟩ := drawC_in (fun z => by rw [z] at h; exact h)
    rw [hcE] at h
    refine ⟨_, rfl, m.A, _, rfl, .inl ⟨_, kCells, .inl d1, rfl, val_cells.symm⟩, ?_⟩
    refine ⟨_, rfl, _, rfl, .inl ⟨_, rfl, _, _, rfl, rfl, (by show (0 : Int) < 64; decide), _, _, _, _, rfl, rfl, SqL.of d2, at_nat (j := g.spot % 64) hc, _, rfl, _, _, rfl, rfl, ⟨by decide, by decide⟩, _, _, rfl, rfl, spot_mul hc2, _, _, rfl, rfl, _, rfl, A2.mix (small_add hc1 hc2) (by show ((g.spot : Nat) : Int).natAbs < 2 ^ 128; omega) fun H3 A3 => ?_⟩⟩
    refine ⟨_, rfl, _, _, rfl, rfl, A3.mix (mix_small _ _) (by show (((g.spot : Nat) : Int) + 7).natAbs < 2 ^ 128; omega) fun H4 A4 => ?_⟩
    exact .inl ⟨_, rfl, _, rfl, _, _, rfl, rfl, hL1, h _ _ A4 (.int _)⟩
  · rw [if_neg hg] at h
    rw [if_pos (by cases hq : g.great with
      | nil => exact absurd hq hg
      | cons a l => rfl)]
    obtain ⟨d1, d2, d3, d4⟩ := A2.at
    have hlen0 : 0 < g.great.length := List.length_pos_iff.mpr hg
    cases hc0 : g.great[g.spot % g.great.length]? with
    | none => rw [hc0] at h; exact h.elim
    | some c0 =>
    rw [hc0] at h
    simp only at h
    have hlm : ((g.great.map V.int).length : Int) = g.great.length := by rw [List.length_map]
    have hsp : ((g.spot : Int) % ((g.great.map V.int).length : Int)) = ((g.spot % g.great.length : Nat) : Int) := by rw [hlm]; rfl
    refine ⟨_, rfl, m.A, _, rfl, .inl ⟨_, kGreat, .inl d1, rfl, val_great.symm⟩, ?_⟩
    refine ⟨_, rfl, .inl ⟨_, rfl, _, rfl, m.ag, _, rfl, .inl (SqL.of d3), _, _, rfl, rfl, (by rw [hlm]; omega), ?_⟩⟩
    dsimp only
    rw [hsp]
    refine ⟨_, rfl, _, rfl, _, _, _, _, rfl, rfl, SqL.of d3, at_nat hc0, ?_⟩
    refine ⟨_, rfl, _, _, rfl, rfl, _, rfl, ?_⟩
    by_cases hp : 0 < c0
    · rw [if_pos hp] at h
      rw [if_pos (decide_eq_true hp)]
      have A3 := A2.great (l := g.great.set (g.spot % g.great.length) (c0 / limit))
      refine ⟨_, rfl, _, rfl, _, _, rfl, rfl, ⟨hL1, hL2⟩, _, rfl, _, rfl, m.ag, _, _, _, rfl, rfl, d3, ixN_nat (Nat.mod_lt _ hlen0), ?_⟩
      have hset : (g.great.map V.int).set (g.spot % g.great.length) (.int (c0 / limit)) = (g.great.set (g.spot % g.great.length) (c0 / limit)).map V.int := by rw [List.map_set]
      dsimp only
      rw [hset]
      exact ⟨_, rfl, .inl ⟨_, rfl, _, rfl, _, _, rfl, rfl, hL1, h _ _ A3 (.int _)⟩⟩
    · rw [if_neg hp] at h
      rw [if_neg (by rw [decide_eq_false hp]; decide)]
      obtain ⟨c, hc, hc1, hc2, hcE⟩ := drawC_in (fun z => by rw [z] at h; exact h)
      rw [hcE] at h
      refine ⟨_, rfl, m.A, _, rfl, .inl ⟨_, kCells, .inl d1, rfl, val_cells.symm⟩, ?_⟩
      refine ⟨_, rfl, _, rfl, .inl ⟨_, rfl, _, _, rfl, rfl, (by show (0 : Int) < 64; decide), _, _, _, _, rfl, rfl, SqL.of d2, at_nat (j := g.spot % 64) hc, _, rfl, _, _, rfl, rfl, ⟨by decide, by decide⟩, _, _, rfl, rfl, spot_mul hc2, _, _, rfl, rfl, _, rfl, A2.mix (small_add hc1 hc2) (by show ((g.spot : Nat) : Int).natAbs < 2 ^ 128; omega) fun H3 A3 => ?_⟩⟩
      refine ⟨_, rfl, _, _, rfl, rfl, A3.mix (mix_small _ _) (by show (((g.spot : Nat) : Int) + 7).natAbs < 2 ^ 128; omega) fun H4 A4 => ?_⟩
      exact .inl ⟨_, rfl, _, rfl, _, _, rfl, rfl, hL1, h _ _ A4 (.int _)⟩
end
end Pv

namespace Pv
open PySem L2
abbrev sBegun : Stmt := st 55
theorem scBg : FnScope ["script", "m", "cell"] ["script"] (defScope sBegun) := ⟨rfl, rfl, rfl, by decide +kernel, rfl, by decide +kernel, by decide +kernel⟩
def pcB : Pc := { nm := ⟨[], false⟩, fs := [], gls := [], kbs := [], xs := [] }
def eGreat : Expr := match defBody sBegun with
  | [_, .Assign _ v _, _] => v
  | _ => .Constant .none 0 ⟨0, 0, 0, 0⟩
theorem m_great : mE pcB ["script", "m", "cell"] (defScope sBegun) iGreat eGreat = true := by decide +kernel
section
variable {P : Program} {w : World} {K : PySem.W.Frag} {mg : Str → Option Value} {base : Heap} {Ce : Ec}
theorem pf_nil {lv : Nat} {cf : Nat → List Sl → G → CR} : Pf pcB P w K mg base Ce lv cf := ⟨fun x z => by simp [pcB] at z, fun z => by simp [pcB] at z, fun x d z => by simp [pcB] at z, fun f x n k z => by simp [pcB] at z⟩
theorem ok_begun {fa ff : Addr} {fd fdf : FuncData} {lv : Nat} {FF : List Sl → G → Option (List D × G)} (F : FunD K "_law_begun" "_law_begun" (defArgs sBegun) (defBody sBegun) (defScope sBegun) [] [] fa fd)
    (gM : mg "_law_folded" = some (.ref ff)) (kM : PySem.W.keepIn K (.ref ff) = true) (M : FnOk P w K mg base (L2.CX P w) lv ff fdf ["script"] (spL K Ce FF)) (bM : Binds K fdf ["script"] []) :
    FnOk P w K mg base (L2.CX P w) (lv + 1) fa fd ["script"] (spBeg K Ce FF) := by
  refine F.ok scBg (fun vs H Q E h => ?_) (fun cdv A outer s H vs Q E hr h => ?_)
  · obtain ⟨a, ns, cells, great, S', rfl, _⟩ := h
    rfl
  have hu := hu_of hr
  obtain ⟨a, ns, cells, great, S', rfl, hS, tbs, hF, hG, h⟩ := h
  generalize hX : cxOf (L2.CX P w) P w K mg base ["script", "m", "cell"] "_law_begun" (defScope sBegun) fa cdv A outer s H E = X
  generalize hC : (⟨K, none, fun _ => False, H, Ce.tb, lmNo, lmNoS⟩ : Cf) = C
  have xc : XC pcB ["script", "m", "cell"] Ce lv noCf C X (defScope sBegun) (fun cls d _ H' => E cls d H') := by
    subst hX hC
    exact { pf := pf_nil, hN := rfl, nd := scBg.nd, sc := rfl, calm := rfl, K := rfl, tb := rfl, room := hr, takes := takes_of rfl rfl rfl rfl }
  have hp : PE X eGreat (tF Ce C (fun cls d _ H' => E cls d H') (fO noCf noHl iGreat)) := okF pcB ["script", "m", "cell"] Ce lv noCf noHl iGreat xc (HdOk.no (by intro z; cases z)) rfl m_great
  subst hX
  have tk := xc.takes
  refine ⟨_, pss_cons (ps_set (i := 1) scBg.nd rfl (Or.inl rfl) (pe_disp (pps_cons pe_str (pe_callSD (E := WE fun cls d _ H' => E cls d H') M hr (by rfl) gM kM bM .nil (passAt tk) (pa_cons (pv 0) pa_nil)) (pps_cons pe_str (pe_lst pa_nil) (pps_cons pe_str pe_int pps_nil))) rfl rfl (by simp) (by decide)))
    (pss_cons (ps_dput hu (pv 1) pe_str hp rfl)
    (pss_one (ps_ret (pv 1)))), ?_⟩
  intro p hp0
  have s0 := Sub.upd (o := .dK []) hp0
  refine ⟨_, rfl, none, fun _ => False, [.scr ns], g00, .cons ⟨a, rfl, sqL_sub (s0.vis fun b z => .inl z) (sqL_vis hS)⟩ .nil, fun b z => z.elim, (fun b ⟨m, z, _⟩ => nomatch z), tbs.ext s0, (fun m z => nomatch z), _, _, hF, fun ac vs' H1 a1 np1 h1 r1 => ?_⟩
  obtain rfl := ints_of r1
  refine ⟨Nat.zero_le _, fun q hq => ?_⟩
  have k1 : ∀ b o, Nt o → upd H p (.dK []) b = some o → H1 b = some o := fun b o n e => a1.keep b o (fun ⟨m, z, _⟩ => nomatch z) n e
  have h1p : H1 p = some (.dK []) := k1 _ _ (nt_dK _) upd_same
  have npac : p ≠ ac := fun z => np1 (.dK []) (nt_dK _) (by rw [← z]; exact upd_same)
  have npq : p ≠ q := ne_of_none h1p hq
  have nacq : ac ≠ q := ne_of_none h1 hq
  have h2p : upd H1 q (.lst []) p = some (.dK []) := by rw [upd_ne npq]; exact h1p
  refine ⟨h2p, [(kCells, .ref ac), (kGreat, .ref q), (kSpot, .int 0)], rfl, (by show 3 ≤ 15; decide), ?_⟩
  rw [show mergeK [] [(kCells, V.ref ac), (kGreat, V.ref q), (kSpot, V.int 0)] = [(kCells, V.ref ac), (kGreat, V.ref q), (kSpot, V.int 0)] by simp [mergeK, putK, ne1, ne2, ne3]]
  have t3 : LamX.Tabs Ce.tb (upd (upd H1 q (.lst [])) p (.dK [(kCells, V.ref ac), (kGreat, V.ref q), (kSpot, V.int 0)])) := tabs_any (a1.tabs.ext (Sub.upd hq)) h2p (nt_dK _) (fun φ z => nomatch z)
  have h3p : upd (upd H1 q (.lst [])) p (.dK [(kCells, V.ref ac), (kGreat, V.ref q), (kSpot, V.int 0)]) p = some (.dK [(kCells, V.ref ac), (kGreat, V.ref q), (kSpot, V.int 0)]) := upd_same
  have h3ac : upd (upd H1 q (.lst [])) p (.dK [(kCells, V.ref ac), (kGreat, V.ref q), (kSpot, V.int 0)]) ac = some (.lst (cells.map V.int)) := by rw [upd_ne npac.symm, upd_ne nacq]; exact h1
  have k3 : ∀ b o, Nt o → H b = some o → upd (upd H1 q (.lst [])) p (.dK [(kCells, V.ref ac), (kGreat, V.ref q), (kSpot, V.int 0)]) b = some o := fun b o n e => by
    have e1 := k1 b o n (s0 _ _ e)
    rw [upd_ne (ne_of_none e hp0), upd_ne (ne_of_none e1 hq)]
    exact e1
  generalize upd (upd H1 q (.lst [])) p _ = H3 at t3 h3p h3ac k3
  have E3 : EOk C (fun _ => False) [some (.ref a), some (.ref p), none] H3 ⟨[some (.scr ns), none, none], g00⟩ := by
    subst hC
    refine ⟨fun i x hx => ?_, fun i j x y b h1 _ o1 => ?_, fun b z => z.elim, fun b z => z, (fun b ⟨m, z, _⟩ => nomatch z), fun b o e _ n => k3 b o n e, t3, (fun m z => nomatch z), rfl⟩
    · match i, hx with
      | 0, hx =>
        cases hx
        refine ⟨a, rfl, ?_⟩
        rcases hS with (hS | ⟨ob, hS⟩) | hS
        · exact .inl (.inl (vis_of (fun z => z) (nt_lst _) (k3 _ _ (nt_lst _) hS)))
        · exact .inl (.inr ⟨ob, vis_of (fun z => z) (fun _ z => nomatch z) (k3 _ _ (fun _ z => nomatch z) hS)⟩)
        · exact .inr hS
      | 1, hx => cases hx
      | 2, hx => cases hx
      | n + 3, hx => simp at hx
    · match i, h1 with
      | 0, h1 => cases h1; exact o1.elim
      | 1, h1 => cases h1
      | 2, h1 => cases h1
      | n + 3, h1 => simp at h1
  refine ⟨fun _ => False, _, E3, ?_⟩
  have hfO : fO noCf noHl iGreat ⟨[some (.scr ns), none, none], g00⟩ = .ok (great.map .int) S' := by unfold fO; rw [hG]; rfl
  rw [hfO]
  intro ag vs4 H4 O4 hO4 x4 n4 F4 _
  have n4' : NP H3 ag := n4.elim (fun z => z.elim) fun z => z
  obtain rfl := ints_of F4.rp
  have h4p := x4.keep _ _ (fun z => z) (nt_dK _) h3p
  have h4ac := x4.keep _ _ (fun z => z) (nt_lst _) h3ac
  have nap : ag ≠ p := fun z => n4' _ (nt_dK _) (by rw [z]; exact h3p)
  have nac : ag ≠ ac := fun z => n4' _ (nt_lst _) (by rw [z]; exact h3ac)
  refine ⟨_, rfl, p, _, rfl, .inl ⟨_, kGreat, h4p, rfl, (by show 3 < sizeLine; rw [sizeLine_eq]; omega), rfl⟩, _, rfl, ?_⟩
  rw [put_great]
  have t4 : LamX.Tabs Ce.tb H4 := by subst hC; exact F4.ok.tabs
  refine h ⟨p, ac, ag⟩ _ ⟨upd_same, by rw [upd_ne npac.symm]; exact h4ac, by rw [upd_ne nap]; exact F4.at_, fun z => nac z.symm⟩ (fun b o n e => ?_) (tabs_any t4 h4p (nt_dK _) (fun φ z => nomatch z)) fun b hb => ?_
  · rw [upd_ne (ne_of_none e hp0)]
    exact x4.keep b o (fun z => z) n (k3 b o n e)
  · rcases hb with rfl | rfl | rfl
    · intro o n e; rw [hp0] at e; cases e
    · intro o n e; exact np1 o n (by rw [upd_ne npac.symm]; exact e)
    · intro o n e; exact n4' o n (k3 _ o n e)
end
end Pv
namespace Pv
open PySem L2
abbrev sLaw : Stmt := st 77
def lawRest : List Stmt := (defBody sLaw).tail
def spLaw (K : PySem.W.Frag) (Ce : Ec) : Sp := fun vs H Q E => ∃ (a : Addr) (ns : List Int), vs = [.ref a] ∧ SqL K H a (ns.map V.int) ∧ ns.length ≤ 63 ∧ LamX.Tabs Ce.tb H ∧ ∀ H', Q (.bl true) H'
theorem pss_ex {X : Cx} {α : Type} {sts : List Stmt} {t : α → TS} (h : ∀ c, PSs X sts (t c)) : PSs X sts (fun D σ H => ∃ c, t c D σ H) := ⟨fun pins s σ H D I ⟨c, q⟩ => (h c).run pins s σ H D I q⟩
section
variable {P : Program} {w : World} {K : PySem.W.Frag} {mg : Str → Option Value} {base : Heap} {Ce : Ec}
theorem ok_law {pc : Pc} {N : List Str} {fa fb : Addr} {fd fdb : FuncData} {lv : Nat} {cf : Nat → List Sl → G → CR} {bRest : List Sx} {FF : List Sl → G → Option (List D × G)} (F : FunD K "law" "law" (defArgs sLaw) (defBody sLaw) (defScope sLaw) [] [] fa fd)
    (S : FnScope N ["script"] (defScope sLaw)) (hN0 : N[0]? = some ("script" : Str)) (hN : N[1]? = some ("m" : Str)) (hN3 : 2 ≤ N.length) (hm : mSs pc N (defScope sLaw) bRest lawRest = true) (hls : pc.lsc = none) (pf : Pf pc P w K mg base Ce lv cf) (mk : MkAll P w K mg base Ce lv pc.xs)
    (gM : mg "_law_begun" = some (.ref fb)) (kM : PySem.W.keepIn K (.ref fb) = true) (M : FnOk P w K mg base (L2.CX P w) lv fb fdb ["script"] (spBeg K Ce FF)) (bM : Binds K fdb ["script"] [])
    (law : ∀ ns : List Int, ns.length ≤ 63 → ∃ (cells great : List Int) (S' : Sg) (g' : G), FF [.scr ns] g00 = some (cells.map .int, g00) ∧ evalE noCf noHl iGreat ⟨[some (.scr ns), none, none], g00⟩ = .ok (.list (great.map .int)) S' ∧
      (evalSs cf noHl bRest ⟨some (.scr ns) :: some .mm :: List.replicate (N.length - 2) none, ⟨cells, great, 0⟩⟩).cr = .ok (.bool true) g') :
    FnOk P w K mg base (L2.CX P w) (lv + 1) fa fd ["script"] (spLaw K Ce) := by
  refine F.ok S (fun vs H Q E h => ?_) (fun cdv A outer s H vs Q E hr h => ?_)
  · obtain ⟨a, ns, rfl, _⟩ := h
    rfl
  have hu := hu_of hr
  obtain ⟨a, ns, rfl, hS, hlen, tbs, h⟩ := h
  obtain ⟨cells, great, S', g', l1, l2, l3⟩ := law ns hlen
  have xd : ∀ c : Option MA × (Addr → Prop) × Hp, XD pc N Ce lv cf noHl ⟨K, c.1, c.2.1, c.2.2, Ce.tb, lmNo, lmNoS⟩ (cxOf (L2.CX P w) P w K mg base N "law" (defScope sLaw) fa cdv A outer s H E) (defScope sLaw) (fun cls d _ H' => E cls d H') := fun c =>
    { pf := pf, hN := rfl, nd := S.nd, sc := rfl, calm := rfl, K := rfl, tb := rfl, room := hr, takes := takes_of rfl rfl rfl rfl, hd0 := HdOk.no (by rw [hls]; intro z; cases z), lam := (fun z => by rw [hls] at z; cases z), fn := fun _ => rfl, kind := S.kind, own := passes_of rfl }
  have tk := (xd ⟨none, fun _ => False, H⟩).takes
  have rest : PSs (cxOf (L2.CX P w) P w K mg base N "law" (defScope sLaw) fa cdv A outer s H E) lawRest _ := pss_ex fun c => okSs pc N Ce lv cf noHl _ _ (defScope sLaw) _ (xd c) (mk _ rfl rfl rfl rfl rfl rfl hr) bRest hm
  refine ⟨_, pss_cons (ps_set (i := 1) S.nd hN (Or.inl rfl) (pe_callSD (E := WE fun cls d _ H' => E cls d H') M hr (by rfl) gM kM bM .nil (passAt tk) (pa_cons (pe_var (i := 0) hN0 (Or.inl rfl)) pa_nil))) rest, ?_⟩
  have hst : start N [V.ref a] = some (.ref a) :: List.replicate (N.length - 1) none := rfl
  refine ⟨_, by rw [hst]; rfl, a, ns, cells, great, S', rfl, hS, tbs, l1, l2, fun m H1 d1 k1 t1 np1 => ?_⟩
  obtain ⟨n, hn⟩ : ∃ n, N.length = n + 2 := ⟨N.length - 2, by omega⟩
  refine ⟨(some m, m.on, H1), m.on, (⟨some (.scr ns) :: some .mm :: List.replicate (N.length - 2) none, ⟨cells, great, 0⟩⟩ : Sg), ?_, ?_⟩
  · rw [hst, hn]
    have na : ∀ o, Nt o → H a = some o → ¬ m.on a := fun o n e z => np1 a z o n e
    refine ⟨fun i x hx => ?_, fun i j x y b h1 _ o1 => ?_, d1.trk, fun b z => z, (fun b ⟨m', z, q⟩ => by cases z; exact q), fun b o e _ n => e, t1, (fun m' z => by cases z; exact d1), by simp⟩
    · match i, hx with
      | 0, hx =>
        cases hx
        refine ⟨a, rfl, ?_⟩
        rcases hS with (hS | ⟨ob, hS⟩) | hS
        · exact .inl (.inl (vis_of (na _ (nt_lst _) hS) (nt_lst _) (k1 _ _ (nt_lst _) hS)))
        · have nf : Nt (.frz ob (.lst (ns.map V.int))) := fun _ z => nomatch z
          exact .inl (.inr ⟨ob, vis_of (na _ nf hS) nf (k1 _ _ nf hS)⟩)
        · exact .inr hS
      | 1, hx =>
        cases hx
        exact ⟨m, rfl, rfl⟩
      | k + 2, hx =>
        simp [List.getElem?_replicate] at hx
    · match i, h1 with
      | 0, h1 => cases h1; exact o1.elim
      | 1, h1 => cases h1; exact o1.elim
      | k + 2, h1 => simp [List.getElem?_replicate] at h1
  · generalize evalSs cf noHl bRest _ = f at l3
    cases f with
    | rt d g =>
      cases l3
      intro v H' _ r
      cases r
      exact h H'
    | nx s => cases l3
    | bk s => cases l3
    | ct s => cases l3
    | er c d s => cases l3
    | no => cases l3
end
end Pv

/-! L0: fractions: what the pairs of numbers are, and how great they grow. -/
namespace Pv
theorem div_num {u n : Int} (h : 0 < n) : (Rat.divInt u n).num = u / ((Nat.gcd u.natAbs n.natAbs : Nat) : Int) := by
  rw [Rat.num_divInt, Int.sign_eq_one_of_pos h, Int.one_mul, Int.gcd_eq_natAbs_gcd_natAbs, Nat.gcd_comm]
theorem div_den {u n : Int} (h : 0 < n) : ((Rat.divInt u n).den : Int) = n / ((Nat.gcd u.natAbs n.natAbs : Nat) : Int) := by
  rw [Rat.den_divInt, if_neg (by omega), Int.gcd_eq_natAbs_gcd_natAbs, Nat.gcd_comm]
  rw [Int.natCast_ediv, Int.natAbs_of_nonneg (Int.le_of_lt h)]
theorem gcd_pos {u n : Int} (h : 0 < n) : 0 < ((Nat.gcd u.natAbs n.natAbs : Nat) : Int) := by
  have : 0 < Nat.gcd u.natAbs n.natAbs := Nat.gcd_pos_of_pos_right _ (by omega)
  omega
theorem gcd_le {u n : Int} (h : 0 < n) : Nat.gcd u.natAbs n.natAbs ≤ n.natAbs := Nat.gcd_le_right _ (by omega)
theorem plus_eq (a b : Rat) : Rat.divInt (a.num * b.den + b.num * a.den) (a.den * b.den) = a + b := by
  rw [← Rat.divInt_add_divInt _ _ (by have := a.den_pos; omega) (by have := b.den_pos; omega), Rat.num_divInt_den, Rat.num_divInt_den]
theorem times_eq (a b : Rat) : Rat.divInt (a.num * b.num) (a.den * b.den) = a * b := by
  rw [← Rat.divInt_mul_divInt, Rat.num_divInt_den, Rat.num_divInt_den]
theorem minus_eq (a b : Rat) : Rat.divInt (a.num * b.den - b.num * a.den) (a.den * b.den) = a - b := by
  rw [← Rat.divInt_sub_divInt _ _ (by have := a.den_pos; omega) (by have := b.den_pos; omega), Rat.num_divInt_den, Rat.num_divInt_den]
/-- how great a fraction's numbers are -/
def Bq (b : Nat) (q : Rat) : Prop := q.num.natAbs < 2 ^ b ∧ q.den < 2 ^ b
theorem log2_lt' {x k : Nat} (h : x < 2 ^ k) (h0 : 0 < k) : x.log2 < k := by
  by_cases e : x = 0
  · subst e; rw [Nat.log2_zero]; exact h0
  · exact (Nat.log2_lt e).mpr h
theorem mul_ok {i j : Int} {a b : Nat} (ha : i.natAbs < 2 ^ a) (hb : j.natAbs < 2 ^ b) (h : a + b < 999990) : i.natAbs.log2 + j.natAbs.log2 < 1000000 := by
  have h1 := log2_lt' (Nat.lt_of_lt_of_le ha (Nat.pow_le_pow_right (by decide) (Nat.le_succ a))) (Nat.succ_pos a)
  have h2 := log2_lt' (Nat.lt_of_lt_of_le hb (Nat.pow_le_pow_right (by decide) (Nat.le_succ b))) (Nat.succ_pos b)
  omega
theorem div_ok {j : Int} {b : Nat} (h : j.natAbs < 2 ^ b) (hb : b < 8990) : j.natAbs.log2 < 9000 := by
  have h1 := log2_lt' (Nat.lt_of_lt_of_le h (Nat.pow_le_pow_right (by decide) (Nat.le_succ b))) (Nat.succ_pos b)
  omega
theorem mul_lt {i j : Int} {a b : Nat} (ha : i.natAbs < 2 ^ a) (hb : j.natAbs < 2 ^ b) : (i * j).natAbs < 2 ^ (a + b) := by
  rw [Int.natAbs_mul, Nat.pow_add]
  exact Nat.mul_lt_mul'' ha hb
theorem mul_ltN {i j a b : Nat} (ha : i < 2 ^ a) (hb : j < 2 ^ b) : i * j < 2 ^ (a + b) := by
  rw [Nat.pow_add]
  exact Nat.mul_lt_mul'' ha hb
theorem add_lt {i j : Int} {a : Nat} (ha : i.natAbs < 2 ^ a) (hb : j.natAbs < 2 ^ a) : (i + j).natAbs < 2 ^ (a + 1) := by
  rw [Nat.pow_succ]; omega
theorem sub_lt {i j : Int} {a : Nat} (ha : i.natAbs < 2 ^ a) (hb : j.natAbs < 2 ^ a) : (i - j).natAbs < 2 ^ (a + 1) := by
  rw [Nat.pow_succ]; omega
theorem up {x a b : Nat} (h : x < 2 ^ a) (hab : a ≤ b) : x < 2 ^ b := Nat.lt_of_lt_of_le h (Nat.pow_le_pow_right (by decide) hab)
theorem Bq.up {a b : Nat} {q : Rat} (h : Bq a q) (hab : a ≤ b) : Bq b q := ⟨Pv.up h.1 hab, Pv.up h.2 hab⟩
theorem bq_div {u n : Int} {b : Nat} (h : 0 < n) (hu : u.natAbs < 2 ^ b) (hn : n.natAbs < 2 ^ b) : Bq b (Rat.divInt u n) := by
  refine ⟨?_, ?_⟩
  · rw [div_num h]
    refine Nat.lt_of_le_of_lt ?_ hu
    rw [Int.natAbs_ediv_of_dvd (Int.ofNat_dvd_left.mpr (Nat.gcd_dvd_left _ _))]
    exact Nat.div_le_self _ _
  · have e := div_den (u := u) h
    refine Nat.lt_of_le_of_lt ?_ hn
    have : (Rat.divInt u n).den = n.natAbs / Nat.gcd u.natAbs n.natAbs := by
      have e2 : ((n.natAbs / Nat.gcd u.natAbs n.natAbs : Nat) : Int) = n / ((Nat.gcd u.natAbs n.natAbs : Nat) : Int) := by
        rw [Int.natCast_ediv, Int.natAbs_of_nonneg (Int.le_of_lt h)]
      omega
    rw [this]
    exact Nat.div_le_self _ _
theorem den_abs (q : Rat) : (q.den : Int).natAbs = q.den := Int.natAbs_natCast _
theorem den_pos' (q : Rat) : 0 < (q.den : Int) := by have := q.den_pos; omega
theorem plus_lt {a b : Rat} {x y : Nat} (ha : Bq x a) (hb : Bq y b) : (a.num * b.den + b.num * a.den).natAbs < 2 ^ (x + y + 1) ∧ ((a.den : Int) * b.den).natAbs < 2 ^ (x + y) := by
  refine ⟨add_lt (mul_lt ha.1 (by rw [den_abs]; exact hb.2)) (by rw [Nat.add_comm x y]; exact mul_lt hb.1 (by rw [den_abs]; exact ha.2)), mul_lt (by rw [den_abs]; exact ha.2) (by rw [den_abs]; exact hb.2)⟩
theorem minus_lt {a b : Rat} {x y : Nat} (ha : Bq x a) (hb : Bq y b) : (a.num * b.den - b.num * a.den).natAbs < 2 ^ (x + y + 1) := by
  exact sub_lt (mul_lt ha.1 (by rw [den_abs]; exact hb.2)) (by rw [Nat.add_comm x y]; exact mul_lt hb.1 (by rw [den_abs]; exact ha.2))
theorem mulden_pos (a b : Rat) : 0 < (a.den : Int) * b.den := Int.mul_pos (den_pos' a) (den_pos' b)
theorem Bq.plus {a b : Rat} {x y : Nat} (ha : Bq x a) (hb : Bq y b) : Bq (x + y + 1) (a + b) := by
  rw [← plus_eq]
  exact bq_div (mulden_pos a b) (plus_lt ha hb).1 (Pv.up (plus_lt ha hb).2 (by omega))
theorem Bq.minus {a b : Rat} {x y : Nat} (ha : Bq x a) (hb : Bq y b) : Bq (x + y + 1) (a - b) := by
  rw [← minus_eq]
  exact bq_div (mulden_pos a b) (minus_lt ha hb) (Pv.up (plus_lt ha hb).2 (by omega))
theorem Bq.times {a b : Rat} {x y : Nat} (ha : Bq x a) (hb : Bq y b) : Bq (x + y) (a * b) := by
  rw [← times_eq]
  exact bq_div (mulden_pos a b) (mul_lt ha.1 hb.1) (plus_lt ha hb).2
def sumQ : List Rat → Rat
  | [] => 0
  | a :: l => a + sumQ l
theorem sumQ_append : ∀ l r : List Rat, sumQ (l ++ r) = sumQ l + sumQ r
  | [], r => by simp [sumQ, Rat.zero_add]
  | a :: l, r => by simp [sumQ, sumQ_append l r, Rat.add_assoc]
theorem Bq.zero {b : Nat} (h : 0 < b) : Bq b 0 := ⟨by show (0 : Int).natAbs < _; exact Nat.two_pow_pos b, by show 1 < 2 ^ b; exact Nat.one_lt_two_pow (by omega)⟩
end Pv

/-! LW0: the evaluator, a step at a time. -/
namespace Pv
open PySem L2
section
variable {α β : Type} {s : Sg} {a : α} {c : Nat} {d : D} {g : G}
theorem b_ok {f : α → Sg → R β} : (R.ok a s).bind f = f a s := rfl
theorem b_er {f : α → Sg → R β} : (R.er c d s : R α).bind f = .er c d s := rfl
theorem b_no {f : α → Sg → R β} : (R.no : R α).bind f = .no := rfl
theorem fl_ok {f : α → Sg → Fl} : (R.ok a s).fl f = f a s := rfl
theorem fl_er {f : α → Sg → Fl} : (R.er c d s : R α).fl f = .er c d s := rfl
theorem fl_no {f : α → Sg → Fl} : (R.no : R α).fl f = .no := rfl
theorem sq_nx {f : Sg → Fl} : (Fl.nx s).seq f = f s := rfl
theorem sq_rt {f : Sg → Fl} : (Fl.rt d g).seq f = .rt d g := rfl
theorem sq_er {f : Sg → Fl} : (Fl.er c d s).seq f = .er c d s := rfl
theorem sq_bk {f : Sg → Fl} : (Fl.bk s).seq f = .bk s := rfl
theorem sq_ct {f : Sg → Fl} : (Fl.ct s).seq f = .ct s := rfl
theorem sq_no {f : Sg → Fl} : Fl.no.seq f = .no := rfl
theorem c_nx : (Fl.nx s).cr = .ok .none s.g := rfl
theorem c_rt : (Fl.rt d g).cr = .ok d g := rfl
theorem c_er : (Fl.er c d s).cr = .er c d s.g := rfl
theorem to_ok : (CR.ok d g).to s = .ok d { s with g := g } := rfl
theorem to_er : (CR.er c d g).to s = .er c d { s with g := g } := rfl
theorem to_no : CR.no.to s = .no := rfl
theorem of_some : R.ofOpt (some a) s = .ok a s := rfl
theorem of_none : R.ofOpt (none : Option α) s = .no := rfl
end
section
variable {p : Prop} [Decidable p] {s : Sg} {b : Bool}
theorem if_and : (if p then R.ok (PyData.bool b) s else R.ok (PyData.bool false) s) = R.ok (.bool (decide p && b)) s := by by_cases h : p <;> simp [h]
theorem if_or : (if p then R.ok (PyData.bool true) s else R.ok (PyData.bool b) s) = R.ok (.bool (decide p || b)) s := by by_cases h : p <;> simp [h]
theorem seq_ite {a c : Fl} {f : Sg → Fl} : (if p then a else c).seq f = if p then a.seq f else c.seq f := by by_cases h : p <;> simp [h]
theorem cr_ite {a c : Fl} : (if p then a else c).cr = if p then a.cr else c.cr := by by_cases h : p <;> simp [h]
end
/-! ### slots -/
def rdA : Option (Option Sl) → Sg → Nat → R D
  | some (some (.dat d)), s, _ => .ok d s
  | some (some (.own ds)), s, i => .ok (.list ds) (s.put i (.dat (.list ds)))
  | _, _, _ => .no
def owA : Option (Option Sl) → Option (List D)
  | some (some (.own ds)) => some ds
  | _ => none
def mmA : Option (Option Sl) → Option Sl
  | some (some .mm) => some .mm
  | some (some (.scr ns)) => some (.scr ns)
  | _ => none
def agA : Option Sl → Sg → R D → R Sl
  | some x, s, _ => .ok x s
  | none, _, r => r.bind fun d s1 => .ok (.dat d) s1
section
variable {ρ : List (Option Sl)} {g : G} {i : Nat}
theorem rd_eq : Sg.read ⟨ρ, g⟩ i = rdA ρ[i]? ⟨ρ, g⟩ i := by
  unfold Sg.read
  simp only
  rcases ρ[i]? with _ | _ | (_ | _ | _ | _ | _) <;> rfl
theorem rd_dat {d : D} {s : Sg} : rdA (some (some (.dat d))) s i = .ok d s := rfl
theorem rd_own {ds : List D} : rdA (some (some (.own ds))) ⟨ρ, g⟩ i = .ok (.list ds) ⟨ρ.set i (some (.dat (.list ds))), g⟩ := rfl
theorem ow_eq : Sg.own ⟨ρ, g⟩ i = owA ρ[i]? := by
  unfold Sg.own
  simp only
  rcases ρ[i]? with _ | _ | (_ | _ | _ | _ | _) <;> rfl
theorem ow_own {ds : List D} : owA (some (some (.own ds))) = some ds := rfl
theorem pu_eq {x : Sl} : Sg.put ⟨ρ, g⟩ i x = ⟨ρ.set i (some x), g⟩ := rfl
theorem mm_var : isMM (.var i) ⟨ρ, g⟩ = mmA ρ[i]? := by
  unfold isMM
  simp only
  rcases ρ[i]? with _ | _ | (_ | _ | _ | _ | _) <;> rfl
theorem mm_dat {d : D} : mmA (some (some (.dat d))) = none := rfl
theorem mm_own {d : List D} : mmA (some (some (.own d))) = none := rfl
theorem mm_mm : mmA (some (some .mm)) = some .mm := rfl
theorem mm_scr {ns : List Int} : mmA (some (some (.scr ns))) = some (.scr ns) := rfl
theorem ag_eq {e : Ex} {r : R D} : argOf e ⟨ρ, g⟩ r = agA (isMM e ⟨ρ, g⟩) ⟨ρ, g⟩ r := by
  unfold argOf agA
  split <;> simp_all
theorem ag_some {x : Sl} {s : Sg} {r : R D} : agA (some x) s r = .ok x s := rfl
theorem ag_none {s : Sg} {r : R D} : agA none s r = r.bind fun d s1 => .ok (.dat d) s1 := rfl
theorem mm_k {d : D} {s : Sg} : isMM (.k d) s = none := rfl
theorem mm_gl {x : Str} {d : D} {s : Sg} : isMM (.gl x d) s = none := rfl
theorem mm_tup {es : List Ex} {s : Sg} : isMM (.tup es) s = none := rfl
theorem mm_lst {es : List Ex} {s : Sg} : isMM (.lst es) s = none := rfl
theorem mm_un {o : UnO} {a : Ex} {s : Sg} : isMM (.un o a) s = none := rfl
theorem mm_bin {o : BinO} {a b : Ex} {s : Sg} : isMM (.bin o a b) s = none := rfl
theorem mm_and {a b : Ex} {s : Sg} : isMM (.and_ a b) s = none := rfl
theorem mm_or {a b : Ex} {s : Sg} : isMM (.or_ a b) s = none := rfl
theorem mm_ite {a b c : Ex} {s : Sg} : isMM (.ite a b c) s = none := rfl
theorem mm_slice {a : Ex} {b c : Option Ex} {s : Sg} : isMM (.slice a b c) s = none := rfl
theorem mm_call {f n : Nat} {es : List Ex} {s : Sg} : isMM (.call f n es) s = none := rfl
theorem mm_lc {o : List Nat} {t : Tg} {it : It} {te : Option Ex} {el : Ex} {s : Sg} : isMM (.lc o t it te el) s = none := rfl
theorem mm_btup {s : Sg} : isMM (.btup i) s = none := rfl
theorem mm_hall {s : Sg} : isMM (.heardAll i) s = none := rfl
end
/-! ### expressions and statements -/
section
variable {cf : Nat → List Sl → G → CR} {hl : Nat → Sg → R D} {ρ : List (Option Sl)} {g : G} {i : Nat} {a b c : Ex} {es : List Ex}
theorem e_var : evalE cf hl (.var i) ⟨ρ, g⟩ = Sg.read ⟨ρ, g⟩ i := by simp only [evalE]
theorem e_k {d : D} : evalE cf hl (.k d) ⟨ρ, g⟩ = .ok d ⟨ρ, g⟩ := by simp only [evalE]
theorem e_gl {x : Str} {d : D} : evalE cf hl (.gl x d) ⟨ρ, g⟩ = .ok d ⟨ρ, g⟩ := by simp only [evalE]
theorem e_tup : evalE cf hl (.tup es) ⟨ρ, g⟩ = (evalEs cf hl es ⟨ρ, g⟩).bind fun ds s1 => .ok (.tuple ds) s1 := by simp only [evalE]
theorem e_lst : evalE cf hl (.lst es) ⟨ρ, g⟩ = (evalEs cf hl es ⟨ρ, g⟩).bind fun ds s1 => .ok (.list ds) s1 := by simp only [evalE]
theorem e_un {o : UnO} : evalE cf hl (.un o a) ⟨ρ, g⟩ = (evalE cf hl a ⟨ρ, g⟩).bind fun d s1 => R.ofOpt (unD o d) s1 := by simp only [evalE]
theorem e_bin {o : BinO} : evalE cf hl (.bin o a b) ⟨ρ, g⟩ = (evalE cf hl a ⟨ρ, g⟩).bind fun d s1 => (evalE cf hl b s1).bind fun e s2 => R.ofOpt (binD o d e) s2 := by simp only [evalE]
theorem e_and : evalE cf hl (.and_ a b) ⟨ρ, g⟩ = (boolR (evalE cf hl a ⟨ρ, g⟩)).bind fun c s1 => if c then evalE cf hl b s1 else .ok (.bool false) s1 := by simp only [evalE]
theorem e_or : evalE cf hl (.or_ a b) ⟨ρ, g⟩ = (boolR (evalE cf hl a ⟨ρ, g⟩)).bind fun c s1 => if c then .ok (.bool true) s1 else evalE cf hl b s1 := by simp only [evalE]
theorem e_ite : evalE cf hl (.ite c a b) ⟨ρ, g⟩ = (boolR (evalE cf hl c ⟨ρ, g⟩)).bind fun t s1 => if t then evalE cf hl a s1 else evalE cf hl b s1 := by simp only [evalE]
theorem e_slice {lo hi : Option Ex} : evalE cf hl (.slice a lo hi) ⟨ρ, g⟩ = (evalE cf hl a ⟨ρ, g⟩).bind fun d s1 => (evalO cf hl lo s1).bind fun l s2 => (evalO cf hl hi s2).bind fun h s3 => R.ofOpt (sliceD d l h) s3 := by simp only [evalE]
theorem e_call {f nd : Nat} : evalE cf hl (.call f nd es) ⟨ρ, g⟩ = (evalAs cf hl es ⟨ρ, g⟩).bind fun xs s1 => (cf f (xs ++ List.replicate nd (.dat .none)) s1.g).to s1 := by simp only [evalE]
theorem e_callk {f : Nat} {perm : List Nat} : evalE cf hl (.callk f perm es) ⟨ρ, g⟩ = (evalAs cf hl es ⟨ρ, g⟩).bind fun xs s1 => (cf f (perm.map fun j => xs.getD j (.dat .none)) s1.g).to s1 := by simp only [evalE]
def testL (cf : Nat → List Sl → G → CR) (hl : Nat → Sg → R D) : Option Ex → Sg → R Bool
  | none, s => .ok true s
  | some t, s => boolR (evalE cf hl t s)
def lcA (cf : Nat → List Sl → G → CR) (hl : Nat → Sg → R D) (own : List Nat) (tg : Tg) (test : Option Ex) (elt : Ex) (ds : List D) (s1 : Sg) : R D :=
  (lcLoop tg.put (testL cf hl test) (evalE cf hl elt) own ds [] { s1 with ρ := wipeS s1.ρ own }).bind fun ys s2 =>
        .ok (.list ys) { s2 with ρ := backS s1.ρ s2.ρ own }
theorem e_lc {own : List Nat} {tg : Tg} {it : It} {test : Option Ex} {elt : Ex} : evalE cf hl (.lc own tg it test elt) ⟨ρ, g⟩ = (evalI cf hl it ⟨ρ, g⟩).bind (lcA cf hl own tg test elt) := by
  cases test <;> rfl
def btA : Option (List D) → Sg → R D
  | some ds, s => .ok (.tuple ds) s
  | none, _ => .no
theorem e_btup : evalE cf hl (.btup i) ⟨ρ, g⟩ = btA (Sg.own ⟨ρ, g⟩ i) ⟨ρ, g⟩ := by
  simp only [evalE]
  unfold btA
  split <;> simp_all
theorem bt_some {ds : List D} {s : Sg} : btA (some ds) s = .ok (.tuple ds) s := rfl
theorem es_nil : evalEs cf hl [] ⟨ρ, g⟩ = .ok [] ⟨ρ, g⟩ := by simp only [evalEs]
theorem es_cons : evalEs cf hl (a :: es) ⟨ρ, g⟩ = (evalE cf hl a ⟨ρ, g⟩).bind fun d s1 => (evalEs cf hl es s1).bind fun ds s2 => .ok (d :: ds) s2 := by simp only [evalEs]
theorem as_nil : evalAs cf hl [] ⟨ρ, g⟩ = .ok [] ⟨ρ, g⟩ := by simp only [evalAs]
theorem as_cons : evalAs cf hl (a :: es) ⟨ρ, g⟩ = (argOf a ⟨ρ, g⟩ (evalE cf hl a ⟨ρ, g⟩)).bind fun d s1 => (evalAs cf hl es s1).bind fun ds s2 => .ok (d :: ds) s2 := by simp only [evalAs]
theorem o_none : evalO cf hl none ⟨ρ, g⟩ = .ok none ⟨ρ, g⟩ := by simp only [evalO]
def intA : Option Int → Sg → R (Option Int)
  | some i, s => .ok (some i) s
  | none, _ => .no
theorem o_some : evalO cf hl (some a) ⟨ρ, g⟩ = (evalE cf hl a ⟨ρ, g⟩).bind fun d s1 => intA (intOf d) s1 := by
  simp only [evalO]
  congr 1
  funext d s
  unfold intA
  split <;> simp_all
theorem int_some {j : Int} {s : Sg} : intA (some j) s = .ok (some j) s := rfl
theorem j_seq : evalI cf hl (.seq a) ⟨ρ, g⟩ = (evalE cf hl a ⟨ρ, g⟩).bind fun d s1 => R.ofOpt (seqOf d) s1 := by simp only [evalI]
def rngA : D → Sg → R (List D)
  | .int n, s1 => if -1000000 ≤ n ∧ n ≤ 1000000 then .ok ((List.range n.toNat).map fun (k : Nat) => .int k) s1 else .no
  | _, _ => .no
theorem j_rng : evalI cf hl (.rng a) ⟨ρ, g⟩ = (evalE cf hl a ⟨ρ, g⟩).bind rngA := by
  simp only [evalI]
  congr 1
  funext d s
  cases d <;> rfl
theorem rng_int {n : Int} {s : Sg} (h : -1000000 ≤ n ∧ n ≤ 1000000) : rngA (.int n) s = .ok ((List.range n.toNat).map fun (k : Nat) => .int k) s := if_pos h
def zipA : D → D → Sg → R (List D)
  | .list xs, .list ys, s2 => .ok (zips xs ys) s2
  | .tuple xs, .tuple ys, s2 => .ok (zips xs ys) s2
  | _, _, _ => .no
theorem j_zip : evalI cf hl (.zip a b) ⟨ρ, g⟩ = (evalE cf hl a ⟨ρ, g⟩).bind fun d s1 => (evalE cf hl b s1).bind fun e s2 => zipA d e s2 := by
  simp only [evalI]
  congr 1
  funext d s
  congr 1
  funext e s
  cases d <;> cases e <;> rfl
theorem zip_tup {xs ys : List D} {s : Sg} : zipA (.tuple xs) (.tuple ys) s = .ok (zips xs ys) s := rfl
def enA : Option (List D) → Sg → R (List D)
  | some ds, s1 => .ok (pairs 0 ds) s1
  | none, _ => .no
theorem j_enum : evalI cf hl (.enum a) ⟨ρ, g⟩ = (evalE cf hl a ⟨ρ, g⟩).bind fun d s1 => enA (seqOf d) s1 := by
  simp only [evalI]
  congr 1
  funext d s
  unfold enA
  split <;> simp_all
theorem en_some {ds : List D} {s : Sg} : enA (some ds) s = .ok (pairs 0 ds) s := rfl
theorem s_set' {e : Ex} : evalS cf hl (.set i e) ⟨ρ, g⟩ = (evalE cf hl e ⟨ρ, g⟩).fl fun d s1 => .nx (s1.put i (.dat d)) := by simp only [evalS]
def soA (i : Nat) : D → Sg → Fl
  | .list ds, s1 => .nx (s1.put i (.own ds))
  | _, _ => .no
theorem s_setOwn' {e : Ex} : evalS cf hl (.setOwn i e) ⟨ρ, g⟩ = (evalE cf hl e ⟨ρ, g⟩).fl (soA i) := by
  simp only [evalS]
  congr 1
  funext d s
  cases d <;> rfl
theorem so_list {ds : List D} {s : Sg} : soA i (.list ds) s = .nx (s.put i (.own ds)) := rfl
theorem s_setN' {is : List Nat} : evalS cf hl (.setN is es) ⟨ρ, g⟩ = (evalEs cf hl es ⟨ρ, g⟩).fl fun ds s1 => .nx ((is.zip ds).foldl (fun s p => s.put p.1 (.dat p.2)) s1) := by simp only [evalS]
def unA : Option Sg → Fl
  | some s => .nx s
  | none => .no
theorem s_unp' {is : List Nat} {e : Ex} : evalS cf hl (.unp is e) ⟨ρ, g⟩ = (evalE cf hl e ⟨ρ, g⟩).fl fun d s1 => unA ((Tg.many is).put d s1) := by
  simp only [evalS]
  congr 1
theorem un_some {s : Sg} : unA (some s) = .nx s := rfl
def apA (i : Nat) (y : D) : Option (List D) → Sg → Fl
  | some ds, s1 => if ds.length < 1000000 then .nx (s1.put i (.own (ds ++ [y]))) else .no
  | none, _ => .no
def apB (i : Nat) (e : R D) : Option (List D) → Fl
  | some _ => e.fl fun y s1 => apA i y (s1.own i) s1
  | none => .no
theorem s_app' {e : Ex} : evalS cf hl (.app i e) ⟨ρ, g⟩ = apB i (evalE cf hl e ⟨ρ, g⟩) (Sg.own ⟨ρ, g⟩ i) := by
  simp only [evalS]
  cases Sg.own ⟨ρ, g⟩ i with
  | none => rfl
  | some ds =>
    simp only [apB]
    congr 1
    funext y s
    cases s.own i <;> rfl
theorem ap_some {ds : List D} {r : R D} : apB i r (some ds) = r.fl fun y s1 => apA i y (s1.own i) s1 := rfl
theorem apA_some {ds : List D} {y : D} {s : Sg} (h : ds.length < 1000000) : apA i y (some ds) s = .nx (s.put i (.own (ds ++ [y]))) := if_pos h
theorem s_expr' {e : Ex} : evalS cf hl (.expr e) ⟨ρ, g⟩ = (evalE cf hl e ⟨ρ, g⟩).fl fun _ s1 => .nx s1 := by simp only [evalS]
theorem s_ret' {e : Ex} : evalS cf hl (.ret e) ⟨ρ, g⟩ = (evalE cf hl e ⟨ρ, g⟩).fl fun d s1 => .rt d s1.g := by simp only [evalS]
theorem s_if' {x y : List Sx} : evalS cf hl (.if_ c x y) ⟨ρ, g⟩ = (boolR (evalE cf hl c ⟨ρ, g⟩)).fl fun t s1 => if t then evalSs cf hl x s1 else evalSs cf hl y s1 := by simp only [evalS]
theorem s_for' {tg : Tg} {it : It} {x : List Sx} : evalS cf hl (.for_ tg it x) ⟨ρ, g⟩ = (evalI cf hl it ⟨ρ, g⟩).fl fun ds s1 => forLoop tg.put (evalSs cf hl x) ds s1 := by simp only [evalS]
theorem s_raise' {n : Nat} {e : Ex} : evalS cf hl (.raise n e) ⟨ρ, g⟩ = (evalE cf hl e ⟨ρ, g⟩).fl fun d s1 => .er n d s1 := by simp only [evalS]
theorem ss_nil : evalSs cf hl [] ⟨ρ, g⟩ = .nx ⟨ρ, g⟩ := by simp only [evalSs]
theorem ss_cons {x : Sx} {y : List Sx} : evalSs cf hl (x :: y) ⟨ρ, g⟩ = (evalS cf hl x ⟨ρ, g⟩).seq (evalSs cf hl y) := by simp only [evalSs]
end
theorem bR_ok {b : Bool} {s : Sg} : boolR (.ok (.bool b) s) = .ok b s := rfl
theorem bR_no : boolR .no = .no := rfl
theorem shI (i : Int) : SeqAt.shaped (.int i) = true := rfl
theorem shB (i : Bool) : SeqAt.shaped (.bool i) = true := rfl
theorem shN : SeqAt.shaped .none = true := rfl
theorem eqI (i j : Int) : PyData.eqv (.int i) (.int j) = decide (i = j) := by simp only [PyData.eqv]; by_cases h : i = j <;> simp [h]
section
variable {i j : Int} {s t d e : D} {xs ys : List D}
theorem bd_addI : binD .add (.int i) (.int j) = some (.int (i + j)) := rfl
theorem bd_addT : binD .add (.tuple xs) (.tuple ys) = if xs.length + ys.length ≤ 1000000 then some (.tuple (xs ++ ys)) else none := rfl
theorem bd_addL : binD .add (.list xs) (.list ys) = if xs.length + ys.length ≤ 1000000 then some (.list (xs ++ ys)) else none := rfl
theorem bd_sub : binD .sub (.int i) (.int j) = some (.int (i - j)) := rfl
theorem bd_mul : binD .mul (.int i) (.int j) = if i.natAbs.log2 + j.natAbs.log2 < 1000000 then some (.int (i * j)) else none := rfl
theorem bd_mulL : binD .mul (.list xs) (.int j) = if 0 ≤ j ∧ j ≤ 1000 ∧ xs.length ≤ 1000 then some (.list (List.replicate j.toNat xs).flatten) else none := rfl
theorem bd_fdiv : binD .fdiv (.int i) (.int j) = if 0 < j ∧ j.natAbs.log2 < 9000 then some (.int (i / j)) else none := rfl
theorem bd_mod : binD .mod (.int i) (.int j) = if 0 < j then some (.int (i % j)) else none := rfl
theorem bd_pow : binD .pow (.int i) (.int j) = if 0 ≤ j ∧ j ≤ 1000 ∧ i.natAbs < 2 ^ 64 then some (.int (i ^ j.toNat)) else none := rfl
theorem bd_eq : binD .eq d e = if SeqAt.shaped d && SeqAt.shaped e then some (.bool (PyData.eqv d e)) else none := by simp only [binD]
theorem bd_ne : binD .ne d e = if SeqAt.shaped d && SeqAt.shaped e then some (.bool (!PyData.eqv d e)) else none := by simp only [binD]
theorem bd_lt : binD .lt (.int i) (.int j) = some (.bool (decide (i < j))) := rfl
theorem bd_le : binD .le (.int i) (.int j) = some (.bool (decide (i ≤ j))) := rfl
theorem bd_gt : binD .gt (.int i) (.int j) = some (.bool (decide (j < i))) := rfl
theorem bd_ge : binD .ge (.int i) (.int j) = some (.bool (decide (j ≤ i))) := rfl
theorem bd_gcd : binD .gcd (.int i) (.int j) = some (.int (Nat.gcd i.natAbs j.natAbs : Nat)) := rfl
theorem bd_idx : binD .idx s (.int i) = (seqOf s).bind fun ds => at_ ds i := by simp only [binD]
end
theorem sq_list {ds : List D} : seqOf (.list ds) = some ds := rfl
theorem sq_tup {ds : List D} : seqOf (.tuple ds) = some ds := rfl
end Pv

namespace Pv
open PySem L2
abbrev cl (n f : Nat) (args : List Sl) (g : G) : CR := callF (hdOf qsH) tab n f args g
def HLm (m : Nat) (d : Df) : Nat → Sg → R D := heardOf (hdOf qsH) (match m with
      | k + 2 => callF (hdOf qsH) tab k
      | _ => fun _ _ _ => .no) d.lams
theorem run {f : Nat} {d : Df} (h : tab f = .df d) (m : Nat) (args : List Sl) (g : G) : cl (m + 1) f args g = (evalSs (callF (hdOf qsH) tab m) (HLm m d) d.body ⟨args.map some ++ List.replicate (d.slots - args.length) none, g⟩).cr := by
  rcases m with _ | _ | k <;> simp only [cl, callF, h] <;> rfl
abbrev i_ (i : Int) : D := .int i
def wholeB (v : D) (l m : Option Int) : Bool := match v with
  | .int i => (match l with | none => true | some l => decide (l ≤ i)) && (match m with | none => true | some m => decide (i ≤ m))
  | _ => false
def optD : Option Int → D
  | none => .none
  | some i => .int i
theorem L_is_whole (m : Nat) (v : D) (l k : Option Int) (g : G) : cl (m + 1) 0 [.dat v, .dat (optD l), .dat (optD k)] g = .ok (.bool (wholeB v l k)) g := by
  rw [run (d := ⟨3, b_is_whole, []⟩) rfl]
  cases v <;> cases l <;> cases k <;> simp [b_is_whole, b_ok, b_er, b_no, fl_ok, fl_er, fl_no, sq_nx, sq_rt, sq_er, sq_bk, sq_ct, sq_no, c_nx, c_rt, c_er, to_ok, to_er, to_no, of_some, of_none, rd_eq, rd_dat, rd_own, ow_eq, ow_own, pu_eq, mm_var, mm_dat, mm_own, mm_mm, mm_scr, ag_eq, ag_some, ag_none, mm_k, mm_gl, mm_tup, mm_lst, mm_un, mm_bin, mm_and, mm_or, mm_ite, mm_slice, mm_call, mm_lc, mm_btup, mm_hall, e_var, e_k, e_gl, e_tup, e_lst, e_un, e_bin, e_and, e_or, e_ite, e_slice, e_call, e_callk, e_lc, e_btup, bt_some, es_nil, es_cons, as_nil, as_cons, o_none, o_some, int_some, j_seq, j_rng, j_zip, zip_tup, j_enum, en_some, s_set', s_setOwn', so_list, s_setN', s_unp', un_some, s_app', ap_some, s_expr', s_ret', s_if', s_for', s_raise', ss_nil, ss_cons, bR_ok, bR_no, shI, shB, shN, eqI, bd_addI, bd_addT, bd_addL, bd_sub, bd_mul, bd_mulL, bd_fdiv, bd_mod, bd_pow, bd_eq, bd_ne, bd_lt, bd_le, bd_gt, bd_ge, bd_gcd, bd_idx, sq_list, sq_tup, if_and, if_or, seq_ite, cr_ite, unD, at_, ixN, intOf, Tg.put, wholeB, optD]
def rowB (v : D) (l : Option Int) : Bool := match v with
  | .tuple ds => (match l with | none => true | some l => decide ((ds.length : Int) = l))
  | _ => false
theorem L_is_row (m : Nat) (v : D) (l : Option Int) (g : G) : cl (m + 1) 1 [.dat v, .dat (optD l)] g = .ok (.bool (rowB v l)) g := by
  rw [run (d := ⟨2, b_is_row, []⟩) rfl]
  cases v <;> cases l <;> simp [b_is_row, b_ok, b_er, b_no, fl_ok, fl_er, fl_no, sq_nx, sq_rt, sq_er, sq_bk, sq_ct, sq_no, c_nx, c_rt, c_er, to_ok, to_er, to_no, of_some, of_none, rd_eq, rd_dat, rd_own, ow_eq, ow_own, pu_eq, mm_var, mm_dat, mm_own, mm_mm, mm_scr, ag_eq, ag_some, ag_none, mm_k, mm_gl, mm_tup, mm_lst, mm_un, mm_bin, mm_and, mm_or, mm_ite, mm_slice, mm_call, mm_lc, mm_btup, mm_hall, e_var, e_k, e_gl, e_tup, e_lst, e_un, e_bin, e_and, e_or, e_ite, e_slice, e_call, e_callk, e_lc, e_btup, bt_some, es_nil, es_cons, as_nil, as_cons, o_none, o_some, int_some, j_seq, j_rng, j_zip, zip_tup, j_enum, en_some, s_set', s_setOwn', so_list, s_setN', s_unp', un_some, s_app', ap_some, s_expr', s_ret', s_if', s_for', s_raise', ss_nil, ss_cons, bR_ok, bR_no, shI, shB, shN, eqI, bd_addI, bd_addT, bd_addL, bd_sub, bd_mul, bd_mulL, bd_fdiv, bd_mod, bd_pow, bd_eq, bd_ne, bd_lt, bd_le, bd_gt, bd_ge, bd_gcd, bd_idx, sq_list, sq_tup, if_and, if_or, seq_ite, cr_ite, unD, at_, ixN, intOf, Tg.put, rowB, optD]
theorem L_w0 (m : Nat) (v : D) (g : G) : cl (m + 1) 0 [.dat v, .dat .none, .dat .none] g = .ok (.bool (wholeB v none none)) g := L_is_whole m v none none g
theorem L_w1 (m : Nat) (v : D) (l : Int) (g : G) : cl (m + 1) 0 [.dat v, .dat (.int l), .dat .none] g = .ok (.bool (wholeB v (some l) none)) g := L_is_whole m v (some l) none g
theorem L_w2 (m : Nat) (v : D) (l k : Int) (g : G) : cl (m + 1) 0 [.dat v, .dat (.int l), .dat (.int k)] g = .ok (.bool (wholeB v (some l) (some k))) g := L_is_whole m v (some l) (some k) g
theorem L_r0 (m : Nat) (v : D) (g : G) : cl (m + 1) 1 [.dat v, .dat .none] g = .ok (.bool (rowB v none)) g := L_is_row m v none g
theorem L_r1 (m : Nat) (v : D) (l : Int) (g : G) : cl (m + 1) 1 [.dat v, .dat (.int l)] g = .ok (.bool (rowB v (some l))) g := L_is_row m v (some l) g
def fracB (v : D) : Bool := match v with
  | .tuple [.int a, .int b] => decide (1 ≤ b) && decide (Nat.gcd a.natAbs b.natAbs = 1)
  | _ => false
theorem whole_int {v : D} {l m : Option Int} (h : wholeB v l m = true) : ∃ i, v = .int i := by
  cases v <;> first | exact ⟨_, rfl⟩ | cases h
theorem frac_two {a b : D} (h1 : wholeB a none none = false ∨ wholeB b (some 1) none = false) : fracB (.tuple [a, b]) = false := by
  unfold fracB
  split
  · rename_i x y e
    cases e
    simp [wholeB] at h1
    simp; omega
  · rfl
theorem L_is_fraction (m : Nat) (v : D) (g : G) : cl (m + 2) 2 [.dat v] g = .ok (.bool (fracB v)) g := by
  rw [run (d := ⟨1, b_is_fraction, []⟩) rfl]
  cases v with
  | tuple ds =>
    rcases ds with _ | ⟨a, _ | ⟨b, _ | ⟨c, t⟩⟩⟩
    · simp [b_is_fraction, b_ok, b_er, b_no, fl_ok, fl_er, fl_no, sq_nx, sq_rt, sq_er, sq_bk, sq_ct, sq_no, c_nx, c_rt, c_er, to_ok, to_er, to_no, of_some, of_none, rd_eq, rd_dat, rd_own, ow_eq, ow_own, pu_eq, mm_var, mm_dat, mm_own, mm_mm, mm_scr, ag_eq, ag_some, ag_none, mm_k, mm_gl, mm_tup, mm_lst, mm_un, mm_bin, mm_and, mm_or, mm_ite, mm_slice, mm_call, mm_lc, mm_btup, mm_hall, e_var, e_k, e_gl, e_tup, e_lst, e_un, e_bin, e_and, e_or, e_ite, e_slice, e_call, e_callk, e_lc, e_btup, bt_some, es_nil, es_cons, as_nil, as_cons, o_none, o_some, int_some, j_seq, j_rng, j_zip, zip_tup, j_enum, en_some, s_set', s_setOwn', so_list, s_setN', s_unp', un_some, s_app', ap_some, s_expr', s_ret', s_if', s_for', s_raise', ss_nil, ss_cons, bR_ok, bR_no, shI, shB, shN, eqI, bd_addI, bd_addT, bd_addL, bd_sub, bd_mul, bd_mulL, bd_fdiv, bd_mod, bd_pow, bd_eq, bd_ne, bd_lt, bd_le, bd_gt, bd_ge, bd_gcd, bd_idx, sq_list, sq_tup, if_and, if_or, seq_ite, cr_ite, unD, at_, ixN, intOf, Tg.put, L_r1, rowB, fracB]
    · simp [b_is_fraction, b_ok, b_er, b_no, fl_ok, fl_er, fl_no, sq_nx, sq_rt, sq_er, sq_bk, sq_ct, sq_no, c_nx, c_rt, c_er, to_ok, to_er, to_no, of_some, of_none, rd_eq, rd_dat, rd_own, ow_eq, ow_own, pu_eq, mm_var, mm_dat, mm_own, mm_mm, mm_scr, ag_eq, ag_some, ag_none, mm_k, mm_gl, mm_tup, mm_lst, mm_un, mm_bin, mm_and, mm_or, mm_ite, mm_slice, mm_call, mm_lc, mm_btup, mm_hall, e_var, e_k, e_gl, e_tup, e_lst, e_un, e_bin, e_and, e_or, e_ite, e_slice, e_call, e_callk, e_lc, e_btup, bt_some, es_nil, es_cons, as_nil, as_cons, o_none, o_some, int_some, j_seq, j_rng, j_zip, zip_tup, j_enum, en_some, s_set', s_setOwn', so_list, s_setN', s_unp', un_some, s_app', ap_some, s_expr', s_ret', s_if', s_for', s_raise', ss_nil, ss_cons, bR_ok, bR_no, shI, shB, shN, eqI, bd_addI, bd_addT, bd_addL, bd_sub, bd_mul, bd_mulL, bd_fdiv, bd_mod, bd_pow, bd_eq, bd_ne, bd_lt, bd_le, bd_gt, bd_ge, bd_gcd, bd_idx, sq_list, sq_tup, if_and, if_or, seq_ite, cr_ite, unD, at_, ixN, intOf, Tg.put, L_r1, rowB, fracB]
    · cases h1 : wholeB a none none with
      | false => simp [b_is_fraction, b_ok, b_er, b_no, fl_ok, fl_er, fl_no, sq_nx, sq_rt, sq_er, sq_bk, sq_ct, sq_no, c_nx, c_rt, c_er, to_ok, to_er, to_no, of_some, of_none, rd_eq, rd_dat, rd_own, ow_eq, ow_own, pu_eq, mm_var, mm_dat, mm_own, mm_mm, mm_scr, ag_eq, ag_some, ag_none, mm_k, mm_gl, mm_tup, mm_lst, mm_un, mm_bin, mm_and, mm_or, mm_ite, mm_slice, mm_call, mm_lc, mm_btup, mm_hall, e_var, e_k, e_gl, e_tup, e_lst, e_un, e_bin, e_and, e_or, e_ite, e_slice, e_call, e_callk, e_lc, e_btup, bt_some, es_nil, es_cons, as_nil, as_cons, o_none, o_some, int_some, j_seq, j_rng, j_zip, zip_tup, j_enum, en_some, s_set', s_setOwn', so_list, s_setN', s_unp', un_some, s_app', ap_some, s_expr', s_ret', s_if', s_for', s_raise', ss_nil, ss_cons, bR_ok, bR_no, shI, shB, shN, eqI, bd_addI, bd_addT, bd_addL, bd_sub, bd_mul, bd_mulL, bd_fdiv, bd_mod, bd_pow, bd_eq, bd_ne, bd_lt, bd_le, bd_gt, bd_ge, bd_gcd, bd_idx, sq_list, sq_tup, if_and, if_or, seq_ite, cr_ite, unD, at_, ixN, intOf, Tg.put, L_r1, L_w0, rowB, h1, frac_two (.inl h1)]
      | true =>
        cases h2 : wholeB b (some 1) none with
        | false => simp [b_is_fraction, b_ok, b_er, b_no, fl_ok, fl_er, fl_no, sq_nx, sq_rt, sq_er, sq_bk, sq_ct, sq_no, c_nx, c_rt, c_er, to_ok, to_er, to_no, of_some, of_none, rd_eq, rd_dat, rd_own, ow_eq, ow_own, pu_eq, mm_var, mm_dat, mm_own, mm_mm, mm_scr, ag_eq, ag_some, ag_none, mm_k, mm_gl, mm_tup, mm_lst, mm_un, mm_bin, mm_and, mm_or, mm_ite, mm_slice, mm_call, mm_lc, mm_btup, mm_hall, e_var, e_k, e_gl, e_tup, e_lst, e_un, e_bin, e_and, e_or, e_ite, e_slice, e_call, e_callk, e_lc, e_btup, bt_some, es_nil, es_cons, as_nil, as_cons, o_none, o_some, int_some, j_seq, j_rng, j_zip, zip_tup, j_enum, en_some, s_set', s_setOwn', so_list, s_setN', s_unp', un_some, s_app', ap_some, s_expr', s_ret', s_if', s_for', s_raise', ss_nil, ss_cons, bR_ok, bR_no, shI, shB, shN, eqI, bd_addI, bd_addT, bd_addL, bd_sub, bd_mul, bd_mulL, bd_fdiv, bd_mod, bd_pow, bd_eq, bd_ne, bd_lt, bd_le, bd_gt, bd_ge, bd_gcd, bd_idx, sq_list, sq_tup, if_and, if_or, seq_ite, cr_ite, unD, at_, ixN, intOf, Tg.put, L_r1, L_w0, L_w1, rowB, h1, h2, frac_two (.inr h2)]
        | true =>
          obtain ⟨i, rfl⟩ := whole_int h1
          obtain ⟨j, rfl⟩ := whole_int h2
          have h3 : 1 ≤ j := by simpa [wholeB] using h2
          simp [b_is_fraction, b_ok, b_er, b_no, fl_ok, fl_er, fl_no, sq_nx, sq_rt, sq_er, sq_bk, sq_ct, sq_no, c_nx, c_rt, c_er, to_ok, to_er, to_no, of_some, of_none, rd_eq, rd_dat, rd_own, ow_eq, ow_own, pu_eq, mm_var, mm_dat, mm_own, mm_mm, mm_scr, ag_eq, ag_some, ag_none, mm_k, mm_gl, mm_tup, mm_lst, mm_un, mm_bin, mm_and, mm_or, mm_ite, mm_slice, mm_call, mm_lc, mm_btup, mm_hall, e_var, e_k, e_gl, e_tup, e_lst, e_un, e_bin, e_and, e_or, e_ite, e_slice, e_call, e_callk, e_lc, e_btup, bt_some, es_nil, es_cons, as_nil, as_cons, o_none, o_some, int_some, j_seq, j_rng, j_zip, zip_tup, j_enum, en_some, s_set', s_setOwn', so_list, s_setN', s_unp', un_some, s_app', ap_some, s_expr', s_ret', s_if', s_for', s_raise', ss_nil, ss_cons, bR_ok, bR_no, shI, shB, shN, eqI, bd_addI, bd_addT, bd_addL, bd_sub, bd_mul, bd_mulL, bd_fdiv, bd_mod, bd_pow, bd_eq, bd_ne, bd_lt, bd_le, bd_gt, bd_ge, bd_gcd, bd_idx, sq_list, sq_tup, if_and, if_or, seq_ite, cr_ite, unD, at_, ixN, intOf, Tg.put, L_r1, L_w0, L_w1, rowB, h1, h2, h3, fracB]
          omega
    · have e : ¬ ((t.length : Int) + 1 + 1 + 1 = 2) := by omega
      simp [b_is_fraction, b_ok, b_er, b_no, fl_ok, fl_er, fl_no, sq_nx, sq_rt, sq_er, sq_bk, sq_ct, sq_no, c_nx, c_rt, c_er, to_ok, to_er, to_no, of_some, of_none, rd_eq, rd_dat, rd_own, ow_eq, ow_own, pu_eq, mm_var, mm_dat, mm_own, mm_mm, mm_scr, ag_eq, ag_some, ag_none, mm_k, mm_gl, mm_tup, mm_lst, mm_un, mm_bin, mm_and, mm_or, mm_ite, mm_slice, mm_call, mm_lc, mm_btup, mm_hall, e_var, e_k, e_gl, e_tup, e_lst, e_un, e_bin, e_and, e_or, e_ite, e_slice, e_call, e_callk, e_lc, e_btup, bt_some, es_nil, es_cons, as_nil, as_cons, o_none, o_some, int_some, j_seq, j_rng, j_zip, zip_tup, j_enum, en_some, s_set', s_setOwn', so_list, s_setN', s_unp', un_some, s_app', ap_some, s_expr', s_ret', s_if', s_for', s_raise', ss_nil, ss_cons, bR_ok, bR_no, shI, shB, shN, eqI, bd_addI, bd_addT, bd_addL, bd_sub, bd_mul, bd_mulL, bd_fdiv, bd_mod, bd_pow, bd_eq, bd_ne, bd_lt, bd_le, bd_gt, bd_ge, bd_gcd, bd_idx, sq_list, sq_tup, if_and, if_or, seq_ite, cr_ite, unD, at_, ixN, intOf, Tg.put, L_r1, rowB, fracB, e]
  | _ => simp [b_is_fraction, b_ok, b_er, b_no, fl_ok, fl_er, fl_no, sq_nx, sq_rt, sq_er, sq_bk, sq_ct, sq_no, c_nx, c_rt, c_er, to_ok, to_er, to_no, of_some, of_none, rd_eq, rd_dat, rd_own, ow_eq, ow_own, pu_eq, mm_var, mm_dat, mm_own, mm_mm, mm_scr, ag_eq, ag_some, ag_none, mm_k, mm_gl, mm_tup, mm_lst, mm_un, mm_bin, mm_and, mm_or, mm_ite, mm_slice, mm_call, mm_lc, mm_btup, mm_hall, e_var, e_k, e_gl, e_tup, e_lst, e_un, e_bin, e_and, e_or, e_ite, e_slice, e_call, e_callk, e_lc, e_btup, bt_some, es_nil, es_cons, as_nil, as_cons, o_none, o_some, int_some, j_seq, j_rng, j_zip, zip_tup, j_enum, en_some, s_set', s_setOwn', so_list, s_setN', s_unp', un_some, s_app', ap_some, s_expr', s_ret', s_if', s_for', s_raise', ss_nil, ss_cons, bR_ok, bR_no, shI, shB, shN, eqI, bd_addI, bd_addT, bd_addL, bd_sub, bd_mul, bd_mulL, bd_fdiv, bd_mod, bd_pow, bd_eq, bd_ne, bd_lt, bd_le, bd_gt, bd_ge, bd_gcd, bd_idx, sq_list, sq_tup, if_and, if_or, seq_ite, cr_ite, unD, at_, ixN, intOf, Tg.put, L_r1, rowB, fracB]
end Pv

namespace Pv
open PySem L2
/-- a fraction as a value -/
def frD (q : Rat) : D := .tuple [.int q.num, .int q.den]
def frsD (l : List Rat) : D := .tuple (l.map frD)
theorem L_need_fraction (m : Nat) (v : D) (g : G) : cl (m + 3) 3 [.dat v] g = if fracB v then .ok v g else .er 3 v g := by
  rw [run (d := ⟨1, b_need_fraction, []⟩) rfl]
  cases h : fracB v <;> simp [b_need_fraction, b_ok, b_er, b_no, fl_ok, fl_er, fl_no, sq_nx, sq_rt, sq_er, sq_bk, sq_ct, sq_no, c_nx, c_rt, c_er, to_ok, to_er, to_no, of_some, of_none, rd_eq, rd_dat, rd_own, ow_eq, ow_own, pu_eq, mm_var, mm_dat, mm_own, mm_mm, mm_scr, ag_eq, ag_some, ag_none, mm_k, mm_gl, mm_tup, mm_lst, mm_un, mm_bin, mm_and, mm_or, mm_ite, mm_slice, mm_call, mm_lc, mm_btup, mm_hall, e_var, e_k, e_gl, e_tup, e_lst, e_un, e_bin, e_and, e_or, e_ite, e_slice, e_call, e_callk, e_lc, e_btup, bt_some, es_nil, es_cons, as_nil, as_cons, o_none, o_some, int_some, j_seq, j_rng, j_zip, zip_tup, j_enum, en_some, s_set', s_setOwn', so_list, s_setN', s_unp', un_some, s_app', ap_some, s_expr', s_ret', s_if', s_for', s_raise', ss_nil, ss_cons, bR_ok, bR_no, shI, shB, shN, eqI, bd_addI, bd_addT, bd_addL, bd_sub, bd_mul, bd_mulL, bd_fdiv, bd_mod, bd_pow, bd_eq, bd_ne, bd_lt, bd_le, bd_gt, bd_ge, bd_gcd, bd_idx, sq_list, sq_tup, if_and, if_or, seq_ite, cr_ite, unD, at_, ixN, intOf, Tg.put, L_is_fraction, h]
theorem L_ratio (m : Nat) (u n : Int) (g : G) (h : 0 < n) (hb : n.natAbs < 2 ^ 8000) : cl (m + 1) 4 [.dat (.int u), .dat (.int n)] g = .ok (frD (Rat.divInt u n)) g := by
  rw [run (d := ⟨3, b_ratio, []⟩) rfl]
  have h1 : ¬ n < 0 := by omega
  have h2 := gcd_pos (u := u) h
  have h3 : (Nat.gcd u.natAbs n.natAbs).log2 < 9000 := by
    have := div_ok (j := ((Nat.gcd u.natAbs n.natAbs : Nat) : Int)) (b := 8000) (by rw [Int.natAbs_natCast]; exact Nat.lt_of_le_of_lt (gcd_le h) hb) (by decide)
    rwa [Int.natAbs_natCast] at this
  simp only [b_ratio, frD, div_num h, div_den h]
  generalize hc : ((Nat.gcd u.natAbs n.natAbs : Nat) : Int) = c at *
  have h4 : c.natAbs.log2 < 9000 := by rw [← hc, Int.natAbs_natCast]; exact h3
  simp [b_ok, b_er, b_no, fl_ok, fl_er, fl_no, sq_nx, sq_rt, sq_er, sq_bk, sq_ct, sq_no, c_nx, c_rt, c_er, to_ok, to_er, to_no, of_some, of_none, rd_eq, rd_dat, rd_own, ow_eq, ow_own, pu_eq, mm_var, mm_dat, mm_own, mm_mm, mm_scr, ag_eq, ag_some, ag_none, mm_k, mm_gl, mm_tup, mm_lst, mm_un, mm_bin, mm_and, mm_or, mm_ite, mm_slice, mm_call, mm_lc, mm_btup, mm_hall, e_var, e_k, e_gl, e_tup, e_lst, e_un, e_bin, e_and, e_or, e_ite, e_slice, e_call, e_callk, e_lc, e_btup, bt_some, es_nil, es_cons, as_nil, as_cons, o_none, o_some, int_some, j_seq, j_rng, j_zip, zip_tup, j_enum, en_some, s_set', s_setOwn', so_list, s_setN', s_unp', un_some, s_app', ap_some, s_expr', s_ret', s_if', s_for', s_raise', ss_nil, ss_cons, bR_ok, bR_no, shI, shB, shN, eqI, bd_addI, bd_addT, bd_addL, bd_sub, bd_mul, bd_mulL, bd_fdiv, bd_mod, bd_pow, bd_eq, bd_ne, bd_lt, bd_le, bd_gt, bd_ge, bd_gcd, bd_idx, sq_list, sq_tup, if_and, if_or, seq_ite, cr_ite, unD, at_, ixN, intOf, Tg.put, h1, hc, h2, h4]
theorem cl_eq {n f : Nat} {args : List Sl} {g : G} {r : CR} (h : cl n f args g = r) : callF (hdOf qsH) tab n f args g = r := h
section
variable (m : Nat) (a b : Rat) (x y : Nat) (g : G) (ha : Bq x a) (hb : Bq y b) (hx : x + y < 7900)
include ha hb hx
theorem L_plus : cl (m + 2) 5 [.dat (frD a), .dat (frD b)] g = .ok (frD (a + b)) g := by
  rw [run (d := ⟨2, b_ratio_plus, []⟩) rfl]
  have l1 := mul_ok ha.1 (by rw [den_abs]; exact hb.2) (by omega)
  have l2 := mul_ok hb.1 (by rw [den_abs]; exact ha.2) (by omega)
  have l3 := mul_ok (i := a.den) (j := b.den) (by rw [den_abs]; exact ha.2) (by rw [den_abs]; exact hb.2) (by omega)
  have hr := cl_eq (L_ratio m (a.num * b.den + b.num * a.den) (a.den * b.den) g (mulden_pos a b) (Pv.up (plus_lt ha hb).2 (by omega)))
  rw [plus_eq] at hr
  simp only [Int.natAbs_natCast] at l1 l2 l3
  simp [b_ratio_plus, b_ok, b_er, b_no, fl_ok, fl_er, fl_no, sq_nx, sq_rt, sq_er, sq_bk, sq_ct, sq_no, c_nx, c_rt, c_er, to_ok, to_er, to_no, of_some, of_none, rd_eq, rd_dat, rd_own, ow_eq, ow_own, pu_eq, mm_var, mm_dat, mm_own, mm_mm, mm_scr, ag_eq, ag_some, ag_none, mm_k, mm_gl, mm_tup, mm_lst, mm_un, mm_bin, mm_and, mm_or, mm_ite, mm_slice, mm_call, mm_lc, mm_btup, mm_hall, e_var, e_k, e_gl, e_tup, e_lst, e_un, e_bin, e_and, e_or, e_ite, e_slice, e_call, e_callk, e_lc, e_btup, bt_some, es_nil, es_cons, as_nil, as_cons, o_none, o_some, int_some, j_seq, j_rng, j_zip, zip_tup, j_enum, en_some, s_set', s_setOwn', so_list, s_setN', s_unp', un_some, s_app', ap_some, s_expr', s_ret', s_if', s_for', s_raise', ss_nil, ss_cons, bR_ok, bR_no, shI, shB, shN, eqI, bd_addI, bd_addT, bd_addL, bd_sub, bd_mul, bd_mulL, bd_fdiv, bd_mod, bd_pow, bd_eq, bd_ne, bd_lt, bd_le, bd_gt, bd_ge, bd_gcd, bd_idx, sq_list, sq_tup, if_and, if_or, seq_ite, cr_ite, unD, at_, ixN, intOf, Tg.put, frD, l1, l2, l3, hr]
theorem L_minus : cl (m + 2) 6 [.dat (frD a), .dat (frD b)] g = .ok (frD (a - b)) g := by
  rw [run (d := ⟨2, b_ratio_minus, []⟩) rfl]
  have l1 := mul_ok ha.1 (by rw [den_abs]; exact hb.2) (by omega)
  have l2 := mul_ok hb.1 (by rw [den_abs]; exact ha.2) (by omega)
  have l3 := mul_ok (i := a.den) (j := b.den) (by rw [den_abs]; exact ha.2) (by rw [den_abs]; exact hb.2) (by omega)
  have hr := cl_eq (L_ratio m (a.num * b.den - b.num * a.den) (a.den * b.den) g (mulden_pos a b) (Pv.up (plus_lt ha hb).2 (by omega)))
  rw [minus_eq] at hr
  simp only [Int.natAbs_natCast] at l1 l2 l3
  simp [b_ratio_minus, b_ok, b_er, b_no, fl_ok, fl_er, fl_no, sq_nx, sq_rt, sq_er, sq_bk, sq_ct, sq_no, c_nx, c_rt, c_er, to_ok, to_er, to_no, of_some, of_none, rd_eq, rd_dat, rd_own, ow_eq, ow_own, pu_eq, mm_var, mm_dat, mm_own, mm_mm, mm_scr, ag_eq, ag_some, ag_none, mm_k, mm_gl, mm_tup, mm_lst, mm_un, mm_bin, mm_and, mm_or, mm_ite, mm_slice, mm_call, mm_lc, mm_btup, mm_hall, e_var, e_k, e_gl, e_tup, e_lst, e_un, e_bin, e_and, e_or, e_ite, e_slice, e_call, e_callk, e_lc, e_btup, bt_some, es_nil, es_cons, as_nil, as_cons, o_none, o_some, int_some, j_seq, j_rng, j_zip, zip_tup, j_enum, en_some, s_set', s_setOwn', so_list, s_setN', s_unp', un_some, s_app', ap_some, s_expr', s_ret', s_if', s_for', s_raise', ss_nil, ss_cons, bR_ok, bR_no, shI, shB, shN, eqI, bd_addI, bd_addT, bd_addL, bd_sub, bd_mul, bd_mulL, bd_fdiv, bd_mod, bd_pow, bd_eq, bd_ne, bd_lt, bd_le, bd_gt, bd_ge, bd_gcd, bd_idx, sq_list, sq_tup, if_and, if_or, seq_ite, cr_ite, unD, at_, ixN, intOf, Tg.put, frD, l1, l2, l3, hr]
theorem L_times : cl (m + 2) 7 [.dat (frD a), .dat (frD b)] g = .ok (frD (a * b)) g := by
  rw [run (d := ⟨2, b_ratio_times, []⟩) rfl]
  have l1 := mul_ok ha.1 hb.1 (by omega)
  have l3 := mul_ok (i := a.den) (j := b.den) (by rw [den_abs]; exact ha.2) (by rw [den_abs]; exact hb.2) (by omega)
  have hr := cl_eq (L_ratio m (a.num * b.num) (a.den * b.den) g (mulden_pos a b) (Pv.up (plus_lt ha hb).2 (by omega)))
  rw [times_eq] at hr
  simp only [Int.natAbs_natCast] at l3
  simp [b_ratio_times, b_ok, b_er, b_no, fl_ok, fl_er, fl_no, sq_nx, sq_rt, sq_er, sq_bk, sq_ct, sq_no, c_nx, c_rt, c_er, to_ok, to_er, to_no, of_some, of_none, rd_eq, rd_dat, rd_own, ow_eq, ow_own, pu_eq, mm_var, mm_dat, mm_own, mm_mm, mm_scr, ag_eq, ag_some, ag_none, mm_k, mm_gl, mm_tup, mm_lst, mm_un, mm_bin, mm_and, mm_or, mm_ite, mm_slice, mm_call, mm_lc, mm_btup, mm_hall, e_var, e_k, e_gl, e_tup, e_lst, e_un, e_bin, e_and, e_or, e_ite, e_slice, e_call, e_callk, e_lc, e_btup, bt_some, es_nil, es_cons, as_nil, as_cons, o_none, o_some, int_some, j_seq, j_rng, j_zip, zip_tup, j_enum, en_some, s_set', s_setOwn', so_list, s_setN', s_unp', un_some, s_app', ap_some, s_expr', s_ret', s_if', s_for', s_raise', ss_nil, ss_cons, bR_ok, bR_no, shI, shB, shN, eqI, bd_addI, bd_addT, bd_addL, bd_sub, bd_mul, bd_mulL, bd_fdiv, bd_mod, bd_pow, bd_eq, bd_ne, bd_lt, bd_le, bd_gt, bd_ge, bd_gcd, bd_idx, sq_list, sq_tup, if_and, if_or, seq_ite, cr_ite, unD, at_, ixN, intOf, Tg.put, frD, l1, l3, hr]
theorem L_less : cl (m + 1) 8 [.dat (frD a), .dat (frD b)] g = .ok (.bool (decide (a < b))) g := by
  rw [run (d := ⟨2, b_ratio_less, []⟩) rfl]
  have l1 := mul_ok ha.1 (by rw [den_abs]; exact hb.2) (by omega)
  have l2 := mul_ok hb.1 (by rw [den_abs]; exact ha.2) (by omega)
  simp only [Int.natAbs_natCast] at l1 l2
  have h : decide (a < b) = decide (a.num * ↑b.den < b.num * ↑a.den) := by simp only [Rat.lt_iff]
  rw [h]
  simp [b_ratio_less, b_ok, b_er, b_no, fl_ok, fl_er, fl_no, sq_nx, sq_rt, sq_er, sq_bk, sq_ct, sq_no, c_nx, c_rt, c_er, to_ok, to_er, to_no, of_some, of_none, rd_eq, rd_dat, rd_own, ow_eq, ow_own, pu_eq, mm_var, mm_dat, mm_own, mm_mm, mm_scr, ag_eq, ag_some, ag_none, mm_k, mm_gl, mm_tup, mm_lst, mm_un, mm_bin, mm_and, mm_or, mm_ite, mm_slice, mm_call, mm_lc, mm_btup, mm_hall, e_var, e_k, e_gl, e_tup, e_lst, e_un, e_bin, e_and, e_or, e_ite, e_slice, e_call, e_callk, e_lc, e_btup, bt_some, es_nil, es_cons, as_nil, as_cons, o_none, o_some, int_some, j_seq, j_rng, j_zip, zip_tup, j_enum, en_some, s_set', s_setOwn', so_list, s_setN', s_unp', un_some, s_app', ap_some, s_expr', s_ret', s_if', s_for', s_raise', ss_nil, ss_cons, bR_ok, bR_no, shI, shB, shN, eqI, bd_addI, bd_addT, bd_addL, bd_sub, bd_mul, bd_mulL, bd_fdiv, bd_mod, bd_pow, bd_eq, bd_ne, bd_lt, bd_le, bd_gt, bd_ge, bd_gcd, bd_idx, sq_list, sq_tup, if_and, if_or, seq_ite, cr_ite, unD, at_, ixN, intOf, Tg.put, frD, l1, l2]
end
end Pv

namespace Pv
open PySem L2
/-! ### loops -/
theorem for_nil {put : D → Sg → Option Sg} {b : Sg → Fl} {s : Sg} : forLoop put b [] s = .nx s := rfl
theorem for_nx {put : D → Sg → Option Sg} {b : Sg → Fl} {d : D} {ds : List D} {s s1 s2 : Sg} (h1 : put d s = some s1) (h2 : b s1 = .nx s2) : forLoop put b (d :: ds) s = forLoop put b ds s2 := by
  rw [forLoop, h1]
  simp only [h2]
theorem for_rt {put : D → Sg → Option Sg} {b : Sg → Fl} {d : D} {ds : List D} {s s1 : Sg} {r : D} {g : G} (h1 : put d s = some s1) (h2 : b s1 = .rt r g) : forLoop put b (d :: ds) s = .rt r g := by
  rw [forLoop, h1]
  simp only [h2]
theorem mulB {i j : Int} (h : i.natAbs.log2 + j.natAbs.log2 < 1000000) : binD .mul (.int i) (.int j) = some (.int (i * j)) := if_pos h
theorem sumStep (u n : Int) (q : Rat) (h : 0 < n) : Rat.divInt (u * q.den + q.num * n) (n * q.den) = Rat.divInt u n + q := by
  rw [← Rat.divInt_add_divInt _ _ (by omega) (by have := q.den_pos; omega), Rat.num_divInt_den]
theorem total_loop (cf : Nat → List Sl → G → CR) (hl : Nat → Sg → R D) (fs : Option Sl) (g : G) (b : Nat) : ∀ (l : List Rat) (u n : Int) (o : Option Sl) (B : Nat), (∀ q ∈ l, Bq b q) → 0 < n → u.natAbs < 2 ^ B → n.natAbs < 2 ^ B → B + (b + 1) * l.length < 7900 →
    ∃ (u' n' : Int) (o' : Option Sl), forLoop (Tg.one 3).put (evalSs cf hl [.setN [1, 2] [(.bin .add (.bin .mul (.var 1) (.bin .idx (.var 3) (.k (.int 1)))) (.bin .mul (.bin .idx (.var 3) (.k (.int 0))) (.var 2))), (.bin .mul (.var 2) (.bin .idx (.var 3) (.k (.int 1))))]]) (l.map frD) ⟨[fs, some (.dat (.int u)), some (.dat (.int n)), o], g⟩ =
      .nx ⟨[fs, some (.dat (.int u')), some (.dat (.int n')), o'], g⟩ ∧ 0 < n' ∧ Rat.divInt u' n' = Rat.divInt u n + sumQ l ∧ u'.natAbs < 2 ^ (B + (b + 1) * l.length) ∧ n'.natAbs < 2 ^ (B + (b + 1) * l.length)
  | [], u, n, o, B, _, hn, h1, h2, _ => ⟨u, n, o, rfl, hn, by simp [sumQ, Rat.add_zero], by simpa using h1, by simpa using h2⟩
  | q :: l, u, n, o, B, hq, hn, h1, h2, hB => by
    have hb := hq q (by simp)
    have e : B + (b + 1) * (q :: l).length = (B + (b + 1)) + (b + 1) * l.length := by simp [Nat.mul_add]; omega
    rw [e] at hB ⊢
    have l1 := mul_ok (j := (q.den : Int)) h1 (by rw [den_abs]; exact hb.2) (by omega)
    have l2 := mul_ok hb.1 h2 (by omega)
    have l3 := mul_ok (j := (q.den : Int)) h2 (by rw [den_abs]; exact hb.2) (by omega)
    have b1 : (u * q.den + q.num * n).natAbs < 2 ^ (B + (b + 1)) := add_lt (a := B + b) (mul_lt h1 (by rw [den_abs]; exact hb.2)) (by have := mul_lt hb.1 h2; rwa [Nat.add_comm b B] at this)
    have b2 : (n * (q.den : Int)).natAbs < 2 ^ (B + (b + 1)) := Pv.up (mul_lt h2 (by rw [den_abs]; exact hb.2)) (by omega)
    obtain ⟨u', n', o', i1, i2, i3, i4, i5⟩ := total_loop cf hl fs g b l (u * q.den + q.num * n) (n * q.den) (some (.dat (frD q))) (B + (b + 1)) (fun p hp => hq p (by simp [hp])) (Int.mul_pos hn (den_pos' q)) b1 b2 hB
    refine ⟨u', n', o', ?_, i2, ?_, i4, i5⟩
    · rw [List.map_cons, for_nx (s1 := ⟨[fs, some (.dat (.int u)), some (.dat (.int n)), some (.dat (frD q))], g⟩) rfl _, i1]
      simp only [Int.natAbs_natCast] at l1 l2 l3
      simp [b_ok, b_er, b_no, fl_ok, fl_er, fl_no, sq_nx, sq_rt, sq_er, sq_bk, sq_ct, sq_no, c_nx, c_rt, c_er, to_ok, to_er, to_no, of_some, of_none, rd_eq, rd_dat, rd_own, ow_eq, ow_own, pu_eq, mm_var, mm_dat, mm_own, mm_mm, mm_scr, ag_eq, ag_some, ag_none, mm_k, mm_gl, mm_tup, mm_lst, mm_un, mm_bin, mm_and, mm_or, mm_ite, mm_slice, mm_call, mm_lc, mm_btup, mm_hall, e_var, e_k, e_gl, e_tup, e_lst, e_un, e_bin, e_and, e_or, e_ite, e_slice, e_call, e_callk, e_lc, e_btup, bt_some, es_nil, es_cons, as_nil, as_cons, o_none, o_some, int_some, j_seq, j_rng, j_zip, zip_tup, j_enum, en_some, s_set', s_setOwn', so_list, s_setN', s_unp', un_some, s_app', ap_some, s_expr', s_ret', s_if', s_for', s_raise', ss_nil, ss_cons, bR_ok, bR_no, shI, shB, shN, eqI, bd_addI, bd_addT, bd_addL, bd_sub, bd_mul, bd_mulL, bd_fdiv, bd_mod, bd_pow, bd_eq, bd_ne, bd_lt, bd_le, bd_gt, bd_ge, bd_gcd, bd_idx, sq_list, sq_tup, if_and, if_or, seq_ite, cr_ite, unD, at_, ixN, intOf, Tg.put, frD, l1, l2, l3]
    · rw [i3, sumStep u n q hn]
      simp [sumQ, Rat.add_assoc]
theorem L_total (m : Nat) (l : List Rat) (b : Nat) (g : G) (hq : ∀ q ∈ l, Bq b q) (hB : (b + 1) * l.length < 7890) : cl (m + 2) 9 [.dat (.list (l.map frD))] g = .ok (frD (sumQ l)) g := by
  rw [run (d := ⟨4, b_ratio_total, []⟩) rfl]
  obtain ⟨u', n', o', i1, i2, i3, i4, i5⟩ := total_loop (callF (hdOf qsH) tab (m + 1)) (HLm (m + 1) ⟨4, b_ratio_total, []⟩) (some (.dat (.list (l.map frD)))) g b l 0 1 none 1 hq (by decide) (by decide) (by decide) (by omega)
  have hr := cl_eq (L_ratio m u' n' g i2 (Pv.up i5 (by omega)))
  rw [i3, show Rat.divInt 0 1 + sumQ l = sumQ l by rw [show Rat.divInt 0 1 = 0 from rfl, Rat.zero_add]] at hr
  simp [b_ratio_total, b_ok, b_er, b_no, fl_ok, fl_er, fl_no, sq_nx, sq_rt, sq_er, sq_bk, sq_ct, sq_no, c_nx, c_rt, c_er, to_ok, to_er, to_no, of_some, of_none, rd_eq, rd_dat, rd_own, ow_eq, ow_own, pu_eq, mm_var, mm_dat, mm_own, mm_mm, mm_scr, ag_eq, ag_some, ag_none, mm_k, mm_gl, mm_tup, mm_lst, mm_un, mm_bin, mm_and, mm_or, mm_ite, mm_slice, mm_call, mm_lc, mm_btup, mm_hall, e_var, e_k, e_gl, e_tup, e_lst, e_un, e_bin, e_and, e_or, e_ite, e_slice, e_call, e_callk, e_lc, e_btup, bt_some, es_nil, es_cons, as_nil, as_cons, o_none, o_some, int_some, j_seq, j_rng, j_zip, zip_tup, j_enum, en_some, s_set', s_setOwn', so_list, s_setN', s_unp', un_some, s_app', ap_some, s_expr', s_ret', s_if', s_for', s_raise', ss_nil, ss_cons, bR_ok, bR_no, shI, shB, shN, eqI, bd_addI, bd_addT, bd_addL, bd_sub, bd_mul, bd_mulL, bd_fdiv, bd_mod, bd_pow, bd_eq, bd_ne, bd_lt, bd_le, bd_gt, bd_ge, bd_gcd, bd_idx, sq_list, sq_tup, if_and, if_or, seq_ite, cr_ite, unD, at_, ixN, intOf, Tg.put] at i1 ⊢
  rw [i1]
  simp [b_ok, b_er, b_no, fl_ok, fl_er, fl_no, sq_nx, sq_rt, sq_er, sq_bk, sq_ct, sq_no, c_nx, c_rt, c_er, to_ok, to_er, to_no, of_some, of_none, rd_eq, rd_dat, rd_own, ow_eq, ow_own, pu_eq, mm_var, mm_dat, mm_own, mm_mm, mm_scr, ag_eq, ag_some, ag_none, mm_k, mm_gl, mm_tup, mm_lst, mm_un, mm_bin, mm_and, mm_or, mm_ite, mm_slice, mm_call, mm_lc, mm_btup, mm_hall, e_var, e_k, e_gl, e_tup, e_lst, e_un, e_bin, e_and, e_or, e_ite, e_slice, e_call, e_callk, e_lc, e_btup, bt_some, es_nil, es_cons, as_nil, as_cons, o_none, o_some, int_some, j_seq, j_rng, j_zip, zip_tup, j_enum, en_some, s_set', s_setOwn', so_list, s_setN', s_unp', un_some, s_app', ap_some, s_expr', s_ret', s_if', s_for', s_raise', ss_nil, ss_cons, bR_ok, bR_no, shI, shB, shN, eqI, bd_addI, bd_addT, bd_addL, bd_sub, bd_mul, bd_mulL, bd_fdiv, bd_mod, bd_pow, bd_eq, bd_ne, bd_lt, bd_le, bd_gt, bd_ge, bd_gcd, bd_idx, sq_list, sq_tup, if_and, if_or, seq_ite, cr_ite, unD, at_, ixN, intOf, Tg.put, hr]
theorem sumQ_bq {b : Nat} : ∀ l : List Rat, (∀ q ∈ l, Bq b q) → Bq (1 + (b + 1) * l.length) (sumQ l)
  | [], _ => (Bq.zero (b := 1) (by decide)).up (by simp)
  | q :: l, h => ((h q (by simp)).plus (sumQ_bq l fun p hp => h p (by simp [hp]))).up (by simp [Nat.mul_add]; omega)
end Pv

namespace Pv
open PySem L2
/-! ### comprehensions -/
section
variable {put : D → Sg → Option Sg} {test : Sg → R Bool} {elt : Sg → R D} {own : List Nat} {ρ : List (Option Sl)}
theorem lc_pure {α : Type} (enc f : α → D) (g : G) : ∀ (l : List α), (∀ a ∈ l, ∃ ρ1, put (enc a) ⟨ρ, g⟩ = some ⟨ρ1, g⟩ ∧ test ⟨ρ1, g⟩ = .ok true ⟨ρ1, g⟩ ∧ elt ⟨ρ1, g⟩ = .ok (f a) ⟨ρ1, g⟩ ∧ wipeS ρ1 own = ρ) →
    ∀ acc : List D, acc.length + l.length ≤ 1000000 → lcLoop put test elt own (l.map enc) acc ⟨ρ, g⟩ = .ok (acc ++ l.map f) ⟨ρ, g⟩
  | [], _, acc, _ => by simp [lcLoop]
  | a :: l, h, acc, hl => by
    obtain ⟨ρ1, h1, h2, h3, h4⟩ := h a (by simp)
    have ih := lc_pure enc f g l (fun b hb => h b (by simp [hb])) (acc ++ [f a]) (by simp at hl ⊢; omega)
    have hal : acc.length < 1000000 := by simp at hl; omega
    rw [List.map_cons, lcLoop]
    simp only [h1, h2, R.quiet, b_ok, if_true, h3, hal, h4]
    rw [ih]
    simp
/-- with draws: n turns, c draws each at most -/
theorem lc_draws {Gd : Nat → G → Prop} (Q : D → Prop) (c : Nat) (h : ∀ d k g, Gd (k + c) g → ∃ ρ1 ρ2 y g', put d ⟨ρ, g⟩ = some ⟨ρ1, g⟩ ∧ test ⟨ρ1, g⟩ = .ok true ⟨ρ1, g⟩ ∧ elt ⟨ρ1, g⟩ = .ok y ⟨ρ2, g'⟩ ∧ wipeS ρ2 own = ρ ∧ Gd k g' ∧ Q y) :
    ∀ (ds : List D) (acc : List D) (k : Nat) (g : G), acc.length + ds.length ≤ 1000000 → Gd (k + c * ds.length) g → ∃ ys g', Gd k g' ∧ ys.length = ds.length ∧ (∀ y ∈ ys, Q y) ∧ lcLoop put test elt own ds acc ⟨ρ, g⟩ = .ok (acc ++ ys) ⟨ρ, g'⟩
  | [], acc, k, g, _, hg => ⟨[], g, by simpa using hg, rfl, by simp, by simp [lcLoop]⟩
  | d :: ds, acc, k, g, hl, hg => by
    obtain ⟨ρ1, ρ2, y, g1, h1, h2, h3, h4, h5, h6⟩ := h d (k + c * ds.length) g (by rw [List.length_cons, Nat.mul_add] at hg; rw [Nat.add_assoc]; simpa using hg)
    obtain ⟨ys, g', i1, i2, i3, i4⟩ := lc_draws Q c h ds (acc ++ [y]) k g1 (by simp at hl ⊢; omega) h5
    have hal : acc.length < 1000000 := by simp at hl; omega
    refine ⟨y :: ys, g', i1, by simp [i2], fun z hz => ?_, ?_⟩
    · rcases List.mem_cons.mp hz with rfl | hz
      · exact h6
      · exact i3 z hz
    · rw [lcLoop]
      simp only [h1, h2, R.quiet, b_ok, if_true, h3, hal, h4]
      rw [i4]
      simp
end
theorem zips_map {α β : Type} (f : α → D) (h : β → D) : ∀ (l : List α) (r : List β), zips (l.map f) (r.map h) = (l.zip r).map fun p => .tuple [f p.1, h p.2]
  | [], _ => by simp [zips]
  | _ :: _, [] => by simp [zips]
  | a :: l, b :: r => by simp [zips, zips_map f h l r]
theorem len_ok {α : Type} {l : List α} {n : Nat} (h : l.length ≤ n) (hn : n ≤ 1000000) : ([] : List D).length + l.length ≤ 1000000 := by simp; omega
/-! ### draws -/
def Gd (k : Nat) (g : G) : Prop := g.cells.length = 64 ∧ (∀ c ∈ g.cells, c.natAbs < 2 ^ 64) ∧ g.spot + k ≤ 2 ^ 90
theorem Gd.less {k j : Nat} {g : G} (h : Gd k g) (hj : j ≤ k) : Gd j g := ⟨h.1, h.2.1, by have := h.2.2; omega⟩
theorem drawC_ok {k : Nat} {g : G} {limit : Int} (h : Gd (k + 1) g) (h0 : 0 < limit) : ∃ r, drawC limit g = .ok (.int r) (drawG g) ∧ 0 ≤ r ∧ r < limit := by
  obtain ⟨h1, h2, h3⟩ := h
  have hi : g.spot % 64 < g.cells.length := by rw [h1]; exact Nat.mod_lt _ (by decide)
  have hs : g.spot < 2 ^ 100 := by omega
  unfold drawC
  rw [List.getElem?_eq_getElem hi]
  simp only
  rw [if_pos ⟨h2 _ (List.getElem_mem hi), hs⟩]
  exact ⟨_, rfl, Int.emod_nonneg _ (by omega), Int.emod_lt_of_pos _ h0⟩
theorem drawG_ok {k : Nat} {g : G} (h : Gd (k + 1) g) : Gd k (drawG g) := ⟨h.1, h.2.1, by show g.spot + 1 + k ≤ _; have := h.2.2; omega⟩
theorem L_draw {k : Nat} {g : G} {limit : Int} (h : Gd (k + 1) g) (h0 : 0 < limit) (h1 : limit < 2 ^ 60) : ∃ r g', Gd k g' ∧ 0 ≤ r ∧ r < limit ∧ ∀ m, cl (m + 1) 37 [.mm, .dat (.int limit)] g = .ok (.int r) g' := by
  have hl : limit.natAbs.log2 < 9000 := div_ok (b := 60) (by omega) (by decide)
  have hc : ∀ m, cl (m + 1) 37 [.mm, .dat (.int limit)] g = drawP [.mm, .dat (.int limit)] g := fun m => by
    unfold cl
    rcases m with _ | _ | m <;> simp only [callF] <;> rfl
  rw [draw_eq h0 hl h.1] at hc
  by_cases hg : g.great = []
  · obtain ⟨r, e, e1, e2⟩ := drawC_ok h h0
    exact ⟨r, drawG g, drawG_ok h, e1, e2, fun m => by rw [hc, if_pos hg, e]⟩
  · have hi : g.spot % g.great.length < g.great.length := Nat.mod_lt _ (List.length_pos_iff.mpr hg)
    simp only [if_neg hg, List.getElem?_eq_getElem hi] at hc
    by_cases hp : 0 < g.great[g.spot % g.great.length]
    · simp only [hp, if_true] at hc
      exact ⟨_, { drawG g with great := g.great.set (g.spot % g.great.length) (g.great[g.spot % g.great.length] / limit) }, drawG_ok h, Int.emod_nonneg _ (by omega), Int.emod_lt_of_pos _ h0, hc⟩
    · simp only [hp, if_false] at hc
      obtain ⟨r, e, e1, e2⟩ := drawC_ok h h0
      exact ⟨r, drawG g, drawG_ok h, e1, e2, fun m => by rw [hc, e]⟩
/-- some[draw] -/
theorem L_of {k : Nat} {g : G} (ds : List D) (hne : ds ≠ []) (hl : ds.length ≤ 1000) (h : Gd (k + 1) g) : ∃ d g', Gd k g' ∧ d ∈ ds ∧ ∀ m, cl (m + 2) 39 [.mm, .dat (.list ds)] g = .ok d g' := by
  have hp : 0 < ds.length := List.length_pos_iff.mpr hne
  obtain ⟨r, g', h1, h2, h3, h4⟩ := L_draw (limit := (ds.length : Int)) h (by omega) (by omega)
  obtain ⟨n, rfl⟩ : ∃ n : Nat, r = n := ⟨r.toNat, by omega⟩
  have hn : n < ds.length := by omega
  refine ⟨ds[n], g', h1, List.getElem_mem hn, fun m => ?_⟩
  rw [run (d := ⟨2, b__law_of, []⟩) rfl]
  have h5 : ∀ m, callF (hdOf qsH) tab (m + 1) 37 [.mm, .dat (.int ds.length)] g = .ok (.int n) g' := h4
  simp [b__law_of, b_ok, b_er, b_no, fl_ok, fl_er, fl_no, sq_nx, sq_rt, sq_er, sq_bk, sq_ct, sq_no, c_nx, c_rt, c_er, to_ok, to_er, to_no, of_some, of_none, rd_eq, rd_dat, rd_own, ow_eq, ow_own, pu_eq, mm_var, mm_dat, mm_own, mm_mm, mm_scr, ag_eq, ag_some, ag_none, mm_k, mm_gl, mm_tup, mm_lst, mm_un, mm_bin, mm_and, mm_or, mm_ite, mm_slice, mm_call, mm_lc, mm_btup, mm_hall, e_var, e_k, e_gl, e_tup, e_lst, e_un, e_bin, e_and, e_or, e_ite, e_slice, e_call, e_callk, e_lc, e_btup, bt_some, es_nil, es_cons, as_nil, as_cons, o_none, o_some, int_some, j_seq, j_rng, j_zip, zip_tup, j_enum, en_some, s_set', s_setOwn', so_list, s_setN', s_unp', un_some, s_app', ap_some, s_expr', s_ret', s_if', s_for', s_raise', ss_nil, ss_cons, bR_ok, bR_no, shI, shB, shN, eqI, bd_addI, bd_addT, bd_addL, bd_sub, bd_mul, bd_mulL, bd_fdiv, bd_mod, bd_pow, bd_eq, bd_ne, bd_lt, bd_le, bd_gt, bd_ge, bd_gcd, bd_idx, sq_list, sq_tup, if_and, if_or, seq_ite, cr_ite, unD, at_, ixN, intOf, Tg.put, h5, hn]
end Pv

namespace Pv
open PySem L2
theorem lcA_pure {cf : Nat → List Sl → G → CR} {hl : Nat → Sg → R D} {own : List Nat} {tg : Tg} {elt : Ex} {ρ : List (Option Sl)} {g : G} {α : Type} (enc f : α → D) (l : List α)
    (h : ∀ a ∈ l, ∃ ρ1, tg.put (enc a) ⟨wipeS ρ own, g⟩ = some ⟨ρ1, g⟩ ∧ evalE cf hl elt ⟨ρ1, g⟩ = .ok (f a) ⟨ρ1, g⟩ ∧ wipeS ρ1 own = wipeS ρ own) (hn : l.length ≤ 1000000) :
    lcA cf hl own tg none elt (l.map enc) ⟨ρ, g⟩ = .ok (.list (l.map f)) ⟨backS ρ (wipeS ρ own) own, g⟩ := by
  unfold lcA
  have z := lc_pure (put := tg.put) (test := testL cf hl none) (elt := evalE cf hl elt) (own := own) (ρ := wipeS ρ own) enc f g l (fun a ha => by
    obtain ⟨ρ1, h1, h2, h3⟩ := h a ha
    exact ⟨ρ1, h1, rfl, h2, h3⟩) [] (by simp; omega)
  simp only
  rw [z]
  simp [b_ok]
/-- the sum of products -/
def dot (w x : List Rat) : Rat := sumQ ((w.zip x).map fun p => p.1 * p.2)
theorem mem_zip_bq {a b : Nat} {w x : List Rat} (hw : ∀ q ∈ w, Bq a q) (hx : ∀ q ∈ x, Bq b q) : ∀ p ∈ w.zip x, Bq a p.1 ∧ Bq b p.2 := fun p hp => by
  obtain ⟨h1, h2⟩ := List.of_mem_zip (show (p.1, p.2) ∈ w.zip x from hp)
  exact ⟨hw _ h1, hx _ h2⟩
theorem dot_bq {a b : Nat} {w x : List Rat} (hw : ∀ q ∈ w, Bq a q) (hx : ∀ q ∈ x, Bq b q) {n : Nat} (hn : w.length ≤ n) : Bq (1 + (a + b + 1) * n) (dot w x) := by
  refine (sumQ_bq (b := a + b) _ fun q hq => ?_).up ?_
  · obtain ⟨p, hp, rfl⟩ := List.mem_map.mp hq
    obtain ⟨h1, h2⟩ := mem_zip_bq hw hx p hp
    exact h1.times h2
  · rw [List.length_map, List.length_zip]
    have : (a + b + 1) * min w.length x.length ≤ (a + b + 1) * n := Nat.mul_le_mul_left _ (by omega)
    omega
theorem L_value (m : Nat) (w x : List Rat) (a b n : Nat) (g : G) (hw : ∀ q ∈ w, Bq a q) (hx : ∀ q ∈ x, Bq b q) (hn : w.length ≤ n) (hb : (a + b + 1) * n < 7800) (h1 : a + b < 7800) (h2 : n ≤ 1000) : cl (m + 3) 14 [.dat (frsD w), .dat (frsD x)] g = .ok (frD (dot w x)) g := by
  rw [run (d := ⟨4, b_plain_value, []⟩) rfl]
  generalize HLm (m + 2) _ = hl
  have hlen : ((w.zip x).map fun p => p.1 * p.2).length ≤ n := by rw [List.length_map, List.length_zip]; omega
  have ht := cl_eq (L_total m ((w.zip x).map fun p => p.1 * p.2) (a + b) g (fun q hq => by
    obtain ⟨p, hp, rfl⟩ := List.mem_map.mp hq
    obtain ⟨h1, h2⟩ := mem_zip_bq hw hx p hp
    exact h1.times h2) (by have : (a + b + 1) * ((w.zip x).map fun p => p.1 * p.2).length ≤ (a + b + 1) * n := Nat.mul_le_mul_left _ hlen
                           omega))
  have hlc := lcA_pure (cf := callF (hdOf qsH) tab (m + 2)) (hl := hl) (own := [2, 3]) (tg := .many [2, 3]) (elt := .call 7 0 [.var 2, .var 3]) (ρ := [some (.dat (frsD w)), some (.dat (frsD x)), none, none]) (g := g)
    (fun p : Rat × Rat => PyData.tuple [frD p.1, frD p.2]) (fun p => frD (p.1 * p.2)) (w.zip x) (fun p hp => by
      obtain ⟨h3, h4⟩ := mem_zip_bq hw hx p hp
      have hr := cl_eq (L_times m p.1 p.2 a b g h3 h4 (by omega))
      refine ⟨[some (.dat (frsD w)), some (.dat (frsD x)), some (.dat (frD p.1)), some (.dat (frD p.2))], rfl, ?_, rfl⟩
      simp [b_ok, b_er, b_no, fl_ok, fl_er, fl_no, sq_nx, sq_rt, sq_er, sq_bk, sq_ct, sq_no, c_nx, c_rt, c_er, to_ok, to_er, to_no, of_some, of_none, rd_eq, rd_dat, rd_own, ow_eq, ow_own, pu_eq, mm_var, mm_dat, mm_own, mm_mm, mm_scr, ag_eq, ag_some, ag_none, mm_k, mm_gl, mm_tup, mm_lst, mm_un, mm_bin, mm_and, mm_or, mm_ite, mm_slice, mm_call, mm_lc, mm_btup, mm_hall, e_var, e_k, e_gl, e_tup, e_lst, e_un, e_bin, e_and, e_or, e_ite, e_slice, e_call, e_callk, e_lc, e_btup, bt_some, es_nil, es_cons, as_nil, as_cons, o_none, o_some, int_some, j_seq, j_rng, j_zip, zip_tup, j_enum, en_some, s_set', s_setOwn', so_list, s_setN', s_unp', un_some, s_app', ap_some, s_expr', s_ret', s_if', s_for', s_raise', ss_nil, ss_cons, bR_ok, bR_no, shI, shB, shN, eqI, bd_addI, bd_addT, bd_addL, bd_sub, bd_mul, bd_mulL, bd_fdiv, bd_mod, bd_pow, bd_eq, bd_ne, bd_lt, bd_le, bd_gt, bd_ge, bd_gcd, bd_idx, sq_list, sq_tup, if_and, if_or, seq_ite, cr_ite, unD, at_, ixN, intOf, Tg.put, hr]) (by rw [List.length_zip]; omega)
  rw [← zips_map frD frD] at hlc
  rw [List.map_map] at ht
  simp only [frsD] at hlc ⊢
  simp only [Function.comp_def] at ht
  simp [b_plain_value, b_ok, b_er, b_no, fl_ok, fl_er, fl_no, sq_nx, sq_rt, sq_er, sq_bk, sq_ct, sq_no, c_nx, c_rt, c_er, to_ok, to_er, to_no, of_some, of_none, rd_eq, rd_dat, rd_own, ow_eq, ow_own, pu_eq, mm_var, mm_dat, mm_own, mm_mm, mm_scr, ag_eq, ag_some, ag_none, mm_k, mm_gl, mm_tup, mm_lst, mm_un, mm_bin, mm_and, mm_or, mm_ite, mm_slice, mm_call, mm_lc, mm_btup, mm_hall, e_var, e_k, e_gl, e_tup, e_lst, e_un, e_bin, e_and, e_or, e_ite, e_slice, e_call, e_callk, e_lc, e_btup, bt_some, es_nil, es_cons, as_nil, as_cons, o_none, o_some, int_some, j_seq, j_rng, j_zip, zip_tup, j_enum, en_some, s_set', s_setOwn', so_list, s_setN', s_unp', un_some, s_app', ap_some, s_expr', s_ret', s_if', s_for', s_raise', ss_nil, ss_cons, bR_ok, bR_no, shI, shB, shN, eqI, bd_addI, bd_addT, bd_addL, bd_sub, bd_mul, bd_mulL, bd_fdiv, bd_mod, bd_pow, bd_eq, bd_ne, bd_lt, bd_le, bd_gt, bd_ge, bd_gcd, bd_idx, sq_list, sq_tup, if_and, if_or, seq_ite, cr_ite, unD, at_, ixN, intOf, Tg.put, hlc, backS, wipeS, ht, dot]
end Pv

namespace Pv
open PySem L2
/-! ### data -/
structure Row where
  same : Bool
  w : List Rat
  b : Rat
def kindS (s : Bool) : Str := if s then "same" else "most"
def rowD (r : Row) : D := .tuple [.str (kindS r.same), frsD r.w, frD r.b]
def rowsD (rs : List Row) : D := .tuple (rs.map rowD)
def lotD (n : Nat) (rs : List Row) : D := .tuple [.int n, rowsD rs]
abbrev Mp := List (List Rat × Rat)
def plD (p : List Rat × Rat) : D := .tuple [frsD p.1, frD p.2]
def mapD (n : Nat) (ps : Mp) : D := .tuple [.int n, .tuple (ps.map plD)]
theorem frac_frD (q : Rat) : fracB (frD q) = true := by
  have h1 : 1 ≤ q.den := q.den_pos
  have h2 : Nat.gcd q.num.natAbs q.den = 1 := q.reduced
  simp [fracB, frD, h2]; omega
theorem boolsD_map {α : Type} (f : α → Bool) : ∀ l : List α, boolsD (l.map fun a => PyData.bool (f a)) = some (l.map f)
  | [] => rfl
  | a :: l => by simp [boolsD, boolsD_map f l]
def areB (d : D) (n : Int) : Bool := rowB d (some n) && (match d with
  | .tuple ds => ds.all fracB
  | _ => false)
theorem L_are (m : Nat) (d : D) (n : Int) (g : G) (hn : n ≤ 1000) : cl (m + 3) 10 [.dat d, .dat (.int n)] g = .ok (.bool (areB d n)) g := by
  rw [run (d := ⟨3, b_are_fractions, []⟩) rfl]
  generalize HLm (m + 2) _ = hl
  cases hr : rowB d (some n) with
  | false => simp [b_are_fractions, b_ok, b_er, b_no, fl_ok, fl_er, fl_no, sq_nx, sq_rt, sq_er, sq_bk, sq_ct, sq_no, c_nx, c_rt, c_er, to_ok, to_er, to_no, of_some, of_none, rd_eq, rd_dat, rd_own, ow_eq, ow_own, pu_eq, mm_var, mm_dat, mm_own, mm_mm, mm_scr, ag_eq, ag_some, ag_none, mm_k, mm_gl, mm_tup, mm_lst, mm_un, mm_bin, mm_and, mm_or, mm_ite, mm_slice, mm_call, mm_lc, mm_btup, mm_hall, e_var, e_k, e_gl, e_tup, e_lst, e_un, e_bin, e_and, e_or, e_ite, e_slice, e_call, e_callk, e_lc, e_btup, bt_some, es_nil, es_cons, as_nil, as_cons, o_none, o_some, int_some, j_seq, j_rng, j_zip, zip_tup, j_enum, en_some, s_set', s_setOwn', so_list, s_setN', s_unp', un_some, s_app', ap_some, s_expr', s_ret', s_if', s_for', s_raise', ss_nil, ss_cons, bR_ok, bR_no, shI, shB, shN, eqI, bd_addI, bd_addT, bd_addL, bd_sub, bd_mul, bd_mulL, bd_fdiv, bd_mod, bd_pow, bd_eq, bd_ne, bd_lt, bd_le, bd_gt, bd_ge, bd_gcd, bd_idx, sq_list, sq_tup, if_and, if_or, seq_ite, cr_ite, unD, at_, ixN, intOf, Tg.put, L_r1, hr, areB]
  | true =>
    cases d with
    | tuple ds =>
      have hlen : (ds.length : Int) = n := by simpa [rowB] using hr
      have hlc := lcA_pure (cf := callF (hdOf qsH) tab (m + 2)) (hl := hl) (own := [2]) (tg := .one 2) (elt := .call 2 0 [.var 2]) (ρ := [some (.dat (.tuple ds)), some (.dat (.int n)), none]) (g := g)
        (fun d : D => d) (fun d => .bool (fracB d)) ds (fun p hp => by
          refine ⟨[some (.dat (.tuple ds)), some (.dat (.int n)), some (.dat p)], rfl, ?_, rfl⟩
          simp [b_ok, b_er, b_no, fl_ok, fl_er, fl_no, sq_nx, sq_rt, sq_er, sq_bk, sq_ct, sq_no, c_nx, c_rt, c_er, to_ok, to_er, to_no, of_some, of_none, rd_eq, rd_dat, rd_own, ow_eq, ow_own, pu_eq, mm_var, mm_dat, mm_own, mm_mm, mm_scr, ag_eq, ag_some, ag_none, mm_k, mm_gl, mm_tup, mm_lst, mm_un, mm_bin, mm_and, mm_or, mm_ite, mm_slice, mm_call, mm_lc, mm_btup, mm_hall, e_var, e_k, e_gl, e_tup, e_lst, e_un, e_bin, e_and, e_or, e_ite, e_slice, e_call, e_callk, e_lc, e_btup, bt_some, es_nil, es_cons, as_nil, as_cons, o_none, o_some, int_some, j_seq, j_rng, j_zip, zip_tup, j_enum, en_some, s_set', s_setOwn', so_list, s_setN', s_unp', un_some, s_app', ap_some, s_expr', s_ret', s_if', s_for', s_raise', ss_nil, ss_cons, bR_ok, bR_no, shI, shB, shN, eqI, bd_addI, bd_addT, bd_addL, bd_sub, bd_mul, bd_mulL, bd_fdiv, bd_mod, bd_pow, bd_eq, bd_ne, bd_lt, bd_le, bd_gt, bd_ge, bd_gcd, bd_idx, sq_list, sq_tup, if_and, if_or, seq_ite, cr_ite, unD, at_, ixN, intOf, Tg.put, L_is_fraction]) (by omega)
      rw [List.map_id'] at hlc
      simp [b_are_fractions, b_ok, b_er, b_no, fl_ok, fl_er, fl_no, sq_nx, sq_rt, sq_er, sq_bk, sq_ct, sq_no, c_nx, c_rt, c_er, to_ok, to_er, to_no, of_some, of_none, rd_eq, rd_dat, rd_own, ow_eq, ow_own, pu_eq, mm_var, mm_dat, mm_own, mm_mm, mm_scr, ag_eq, ag_some, ag_none, mm_k, mm_gl, mm_tup, mm_lst, mm_un, mm_bin, mm_and, mm_or, mm_ite, mm_slice, mm_call, mm_lc, mm_btup, mm_hall, e_var, e_k, e_gl, e_tup, e_lst, e_un, e_bin, e_and, e_or, e_ite, e_slice, e_call, e_callk, e_lc, e_btup, bt_some, es_nil, es_cons, as_nil, as_cons, o_none, o_some, int_some, j_seq, j_rng, j_zip, zip_tup, j_enum, en_some, s_set', s_setOwn', so_list, s_setN', s_unp', un_some, s_app', ap_some, s_expr', s_ret', s_if', s_for', s_raise', ss_nil, ss_cons, bR_ok, bR_no, shI, shB, shN, eqI, bd_addI, bd_addT, bd_addL, bd_sub, bd_mul, bd_mulL, bd_fdiv, bd_mod, bd_pow, bd_eq, bd_ne, bd_lt, bd_le, bd_gt, bd_ge, bd_gcd, bd_idx, sq_list, sq_tup, if_and, if_or, seq_ite, cr_ite, unD, at_, ixN, intOf, Tg.put, L_r1, hr, areB, hlc, boolsD_map, backS, wipeS]
    | _ => cases hr
theorem are_frsD (l : List Rat) (n : Int) : areB (frsD l) n = decide ((l.length : Int) = n) := by
  have h : (l.map frD).all fracB = true := by simp [frac_frD]
  simp only [areB, rowB, frsD, List.length_map, h, Bool.and_true]
/-! ### what faults are -/
theorem eqT0 : PyData.eqv (.tuple []) (.tuple []) = true := rfl
theorem eqT1 {a : D} {l : List D} : PyData.eqv (.tuple (a :: l)) (.tuple []) = false := rfl
theorem shT0 : SeqAt.shaped (.tuple []) = true := rfl
theorem shTi (i : Int) : SeqAt.shaped (.tuple [.int i]) = true := rfl
theorem shForm : SeqAt.shaped (.tuple [.str ("form" : Str)]) = true := by kernel_rfl
theorem shUnk : SeqAt.shaped (.tuple [.str ("unknowns" : Str)]) = true := by kernel_rfl
theorem kind_nm (s : Bool) : binD .nmem (.str (kindS s)) (.tuple [.str ("most" : Str), .str ("less" : Str), .str ("same" : Str)]) = some (.bool false) := by cases s <;> kernel_rfl
theorem kind_cl (s : Bool) : binD .mem (.str (kindS s)) (.tuple [.str ("most" : Str), .str ("same" : Str)]) = some (.bool true) := by cases s <;> kernel_rfl
theorem kind_sh (s : Bool) : SeqAt.shaped (.str (kindS s)) = true := by cases s <;> kernel_rfl
theorem kind_same (s : Bool) : PyData.eqv (.str (kindS s)) (.str ("same" : Str)) = s := by cases s <;> kernel_rfl
theorem kind_most (s : Bool) : PyData.eqv (.str (kindS s)) (.str ("most" : Str)) = !s := by cases s <;> kernel_rfl
theorem sh_same : SeqAt.shaped (.str ("same" : Str)) = true := by kernel_rfl
theorem sh_most : SeqAt.shaped (.str ("most" : Str)) = true := by kernel_rfl
theorem sh_frD (q : Rat) : SeqAt.shaped (frD q) = true := rfl
theorem eq_frD (a b : Rat) : PyData.eqv (frD a) (frD b) = decide (a = b) := by
  have h : PyData.eqv (frD a) (frD b) = (decide (a.num = b.num) && decide ((a.den : Int) = b.den)) := by
    show PyData.eqvAll [.int a.num, .int a.den] [.int b.num, .int b.den] = _
    simp only [PyData.eqvAll, eqI, Bool.and_true]
  rw [h]
  by_cases e : a = b
  · subst e; simp
  · have : ¬ (a.num = b.num ∧ a.den = b.den) := fun z => e (Rat.ext z.1 z.2)
    simp [e]
    omega
theorem L_row_fault (m : Nat) (n : Int) (r : Row) (g : G) (hn : (r.w.length : Int) = n) (h : n ≤ 1000) : cl (m + 4) 11 [.dat (.int n), .dat (rowD r)] g = .ok (.tuple []) g := by
  rw [run (d := ⟨2, b_row_fault, []⟩) rfl]
  generalize HLm (m + 3) _ = hl
  have ha : callF (hdOf qsH) tab (m + 3) 10 [.dat (frsD r.w), .dat (.int n)] g = .ok (.bool true) g := by
    have z := cl_eq (L_are m (frsD r.w) n g h)
    rw [are_frsD] at z
    simpa [hn] using z
  simp [b_row_fault, b_ok, b_er, b_no, fl_ok, fl_er, fl_no, sq_nx, sq_rt, sq_er, sq_bk, sq_ct, sq_no, c_nx, c_rt, c_er, to_ok, to_er, to_no, of_some, of_none, rd_eq, rd_dat, rd_own, ow_eq, ow_own, pu_eq, mm_var, mm_dat, mm_own, mm_mm, mm_scr, ag_eq, ag_some, ag_none, mm_k, mm_gl, mm_tup, mm_lst, mm_un, mm_bin, mm_and, mm_or, mm_ite, mm_slice, mm_call, mm_lc, mm_btup, mm_hall, e_var, e_k, e_gl, e_tup, e_lst, e_un, e_bin, e_and, e_or, e_ite, e_slice, e_call, e_callk, e_lc, e_btup, bt_some, es_nil, es_cons, as_nil, as_cons, o_none, o_some, int_some, j_seq, j_rng, j_zip, zip_tup, j_enum, en_some, s_set', s_setOwn', so_list, s_setN', s_unp', un_some, s_app', ap_some, s_expr', s_ret', s_if', s_for', s_raise', ss_nil, ss_cons, bR_ok, bR_no, shI, shB, shN, eqI, bd_addI, bd_addT, bd_addL, bd_sub, bd_mul, bd_mulL, bd_fdiv, bd_mod, bd_pow, bd_eq, bd_ne, bd_lt, bd_le, bd_gt, bd_ge, bd_gcd, bd_idx, sq_list, sq_tup, if_and, if_or, seq_ite, cr_ite, unD, at_, ixN, intOf, Tg.put, L_r1, rowB, rowD, kind_nm, ha, L_is_fraction, frac_frD]
/-! ### lots -/
theorem pairs_map {α : Type} (enc : α → D) : ∀ (l : List α) (n : Nat), pairs n (l.map enc) = (l.zipIdx n).map fun p => .tuple [.int p.2, enc p.1]
  | [], _ => rfl
  | a :: l, n => by simp [pairs, pairs_map enc l (n + 1), List.zipIdx]
/-- a loop that finds nothing -/
theorem for_quiet {put : D → Sg → Option Sg} {b : Sg → Fl} {ρ0 : List (Option Sl) → Prop} {g : G} : ∀ (ds : List D), (∀ d ∈ ds, ∀ ρ, ρ0 ρ → ∃ ρ1 ρ2, put d ⟨ρ, g⟩ = some ⟨ρ1, g⟩ ∧ b ⟨ρ1, g⟩ = .nx ⟨ρ2, g⟩ ∧ ρ0 ρ2) → ∀ ρ, ρ0 ρ → ∃ ρ', ρ0 ρ' ∧ forLoop put b ds ⟨ρ, g⟩ = .nx ⟨ρ', g⟩
  | [], _, ρ, h => ⟨ρ, h, rfl⟩
  | d :: ds, hd, ρ, h => by
    obtain ⟨ρ1, ρ2, h1, h2, h3⟩ := hd d (by simp) ρ h
    obtain ⟨ρ', i1, i2⟩ := for_quiet ds (fun e he => hd e (by simp [he])) ρ2 h3
    exact ⟨ρ', i1, by rw [for_nx h1 h2, i2]⟩
/-- a lot that is as it should be -/
structure LotOk (n : Nat) (rs : List Row) : Prop where
  n5 : n ≤ 5
  r60 : rs.length ≤ 60
  w : ∀ r ∈ rs, r.w.length = n
theorem L_lot_fault (m n : Nat) (rs : List Row) (x : Bool) (g : G) (h : LotOk n rs) : cl (m + 5) 17 [.dat (lotD n rs), .dat (.bool x)] g = .ok (.tuple []) g := by
  rw [run (d := ⟨4, b_lot_fault, []⟩) rfl]
  generalize HLm (m + 4) _ = hl
  have h5 := h.n5
  have h60 := h.r60
  have hw : wholeB (.int (n : Int)) (some 0) (some 5) = true := by simp [wholeB]; omega
  have key : ∃ ρ', forLoop (Tg.many [2, 3]).put (evalSs (callF (hdOf qsH) tab (m + 4)) hl [(.if_ (.or_ (.bin .ne (.call 11 0 [(.bin .idx (.var 0) (.k (.int 0))), (.var 3)]) (.tup [])) (.un .not (.or_ (.var 1) (.bin .mem (.bin .idx (.var 3) (.k (.int 0))) (.gl ("CLOSED" : Str) (.tuple [(.str ("most" : Str)), (.str ("same" : Str))])))))) [(.ret (.tup [(.var 2)]))] [])]) (pairs 0 (rs.map rowD)) ⟨[some (.dat (lotD n rs)), some (.dat (.bool x)), none, none], g⟩ = .nx ⟨ρ', g⟩ := by
    obtain ⟨ρ', _, z⟩ := for_quiet (put := (Tg.many [2, 3]).put) (b := evalSs (callF (hdOf qsH) tab (m + 4)) hl [(.if_ (.or_ (.bin .ne (.call 11 0 [(.bin .idx (.var 0) (.k (.int 0))), (.var 3)]) (.tup [])) (.un .not (.or_ (.var 1) (.bin .mem (.bin .idx (.var 3) (.k (.int 0))) (.gl ("CLOSED" : Str) (.tuple [(.str ("most" : Str)), (.str ("same" : Str))])))))) [(.ret (.tup [(.var 2)]))] [])]) (ρ0 := fun ρ => ∃ a b, ρ = [some (.dat (lotD n rs)), some (.dat (.bool x)), a, b]) (g := g) (pairs 0 (rs.map rowD)) (fun d hd ρ hρ => by
      obtain ⟨a, b, rfl⟩ := hρ
      rw [pairs_map] at hd
      obtain ⟨p, hp, rfl⟩ := List.mem_map.mp hd
      have hr : p.1 ∈ rs := by
        have := List.mem_zipIdx hp
        rw [this.2.2]
        exact List.getElem_mem _
      refine ⟨[some (.dat (lotD n rs)), some (.dat (.bool x)), some (.dat (.int p.2)), some (.dat (rowD p.1))], _, rfl, ?_, ⟨some (.dat (.int p.2)), some (.dat (rowD p.1)), rfl⟩⟩
      have hf := cl_eq (L_row_fault m n p.1 g (by rw [h.w _ hr]) (by omega))
      cases x <;> simp [b_ok, b_er, b_no, fl_ok, fl_er, fl_no, sq_nx, sq_rt, sq_er, sq_bk, sq_ct, sq_no, c_nx, c_rt, c_er, to_ok, to_er, to_no, of_some, of_none, rd_eq, rd_dat, rd_own, ow_eq, ow_own, pu_eq, mm_var, mm_dat, mm_own, mm_mm, mm_scr, ag_eq, ag_some, ag_none, mm_k, mm_gl, mm_tup, mm_lst, mm_un, mm_bin, mm_and, mm_or, mm_ite, mm_slice, mm_call, mm_lc, mm_btup, mm_hall, e_var, e_k, e_gl, e_tup, e_lst, e_un, e_bin, e_and, e_or, e_ite, e_slice, e_call, e_callk, e_lc, e_btup, bt_some, es_nil, es_cons, as_nil, as_cons, o_none, o_some, int_some, j_seq, j_rng, j_zip, zip_tup, j_enum, en_some, s_set', s_setOwn', so_list, s_setN', s_unp', un_some, s_app', ap_some, s_expr', s_ret', s_if', s_for', s_raise', ss_nil, ss_cons, bR_ok, bR_no, shI, shB, shN, eqI, bd_addI, bd_addT, bd_addL, bd_sub, bd_mul, bd_mulL, bd_fdiv, bd_mod, bd_pow, bd_eq, bd_ne, bd_lt, bd_le, bd_gt, bd_ge, bd_gcd, bd_idx, sq_list, sq_tup, if_and, if_or, seq_ite, cr_ite, unD, at_, ixN, intOf, Tg.put, lotD, hf, eqT0, shT0, rowD, kind_cl] <;> simp [rowD] at hf <;> simp [b_ok, b_er, b_no, fl_ok, fl_er, fl_no, sq_nx, sq_rt, sq_er, sq_bk, sq_ct, sq_no, c_nx, c_rt, c_er, to_ok, to_er, to_no, of_some, of_none, rd_eq, rd_dat, rd_own, ow_eq, ow_own, pu_eq, mm_var, mm_dat, mm_own, mm_mm, mm_scr, ag_eq, ag_some, ag_none, mm_k, mm_gl, mm_tup, mm_lst, mm_un, mm_bin, mm_and, mm_or, mm_ite, mm_slice, mm_call, mm_lc, mm_btup, mm_hall, e_var, e_k, e_gl, e_tup, e_lst, e_un, e_bin, e_and, e_or, e_ite, e_slice, e_call, e_callk, e_lc, e_btup, bt_some, es_nil, es_cons, as_nil, as_cons, o_none, o_some, int_some, j_seq, j_rng, j_zip, zip_tup, j_enum, en_some, s_set', s_setOwn', so_list, s_setN', s_unp', un_some, s_app', ap_some, s_expr', s_ret', s_if', s_for', s_raise', ss_nil, ss_cons, bR_ok, bR_no, shI, shB, shN, eqI, bd_addI, bd_addT, bd_addL, bd_sub, bd_mul, bd_mulL, bd_fdiv, bd_mod, bd_pow, bd_eq, bd_ne, bd_lt, bd_le, bd_gt, bd_ge, bd_gcd, bd_idx, sq_list, sq_tup, if_and, if_or, seq_ite, cr_ite, unD, at_, ixN, intOf, Tg.put, hf, eqT0, shT0, kind_cl]) _ ⟨none, none, rfl⟩
    exact ⟨ρ', z⟩
  obtain ⟨ρ', key⟩ := key
  have hlen : ¬ ((60 : Int) < rs.length) := by omega
  simp [b_lot_fault, b_ok, b_er, b_no, fl_ok, fl_er, fl_no, sq_nx, sq_rt, sq_er, sq_bk, sq_ct, sq_no, c_nx, c_rt, c_er, to_ok, to_er, to_no, of_some, of_none, rd_eq, rd_dat, rd_own, ow_eq, ow_own, pu_eq, mm_var, mm_dat, mm_own, mm_mm, mm_scr, ag_eq, ag_some, ag_none, mm_k, mm_gl, mm_tup, mm_lst, mm_un, mm_bin, mm_and, mm_or, mm_ite, mm_slice, mm_call, mm_lc, mm_btup, mm_hall, e_var, e_k, e_gl, e_tup, e_lst, e_un, e_bin, e_and, e_or, e_ite, e_slice, e_call, e_callk, e_lc, e_btup, bt_some, es_nil, es_cons, as_nil, as_cons, o_none, o_some, int_some, j_seq, j_rng, j_zip, zip_tup, j_enum, en_some, s_set', s_setOwn', so_list, s_setN', s_unp', un_some, s_app', ap_some, s_expr', s_ret', s_if', s_for', s_raise', ss_nil, ss_cons, bR_ok, bR_no, shI, shB, shN, eqI, bd_addI, bd_addT, bd_addL, bd_sub, bd_mul, bd_mulL, bd_fdiv, bd_mod, bd_pow, bd_eq, bd_ne, bd_lt, bd_le, bd_gt, bd_ge, bd_gcd, bd_idx, sq_list, sq_tup, if_and, if_or, seq_ite, cr_ite, unD, at_, ixN, intOf, Tg.put, L_r1, L_r0, L_w2, rowB, lotD, rowsD, hw, hlen] at key ⊢
  rw [key]
  simp [b_ok, b_er, b_no, fl_ok, fl_er, fl_no, sq_nx, sq_rt, sq_er, sq_bk, sq_ct, sq_no, c_nx, c_rt, c_er, to_ok, to_er, to_no, of_some, of_none, rd_eq, rd_dat, rd_own, ow_eq, ow_own, pu_eq, mm_var, mm_dat, mm_own, mm_mm, mm_scr, ag_eq, ag_some, ag_none, mm_k, mm_gl, mm_tup, mm_lst, mm_un, mm_bin, mm_and, mm_or, mm_ite, mm_slice, mm_call, mm_lc, mm_btup, mm_hall, e_var, e_k, e_gl, e_tup, e_lst, e_un, e_bin, e_and, e_or, e_ite, e_slice, e_call, e_callk, e_lc, e_btup, bt_some, es_nil, es_cons, as_nil, as_cons, o_none, o_some, int_some, j_seq, j_rng, j_zip, zip_tup, j_enum, en_some, s_set', s_setOwn', so_list, s_setN', s_unp', un_some, s_app', ap_some, s_expr', s_ret', s_if', s_for', s_raise', ss_nil, ss_cons, bR_ok, bR_no, shI, shB, shN, eqI, bd_addI, bd_addT, bd_addL, bd_sub, bd_mul, bd_mulL, bd_fdiv, bd_mod, bd_pow, bd_eq, bd_ne, bd_lt, bd_le, bd_gt, bd_ge, bd_gcd, bd_idx, sq_list, sq_tup, if_and, if_or, seq_ite, cr_ite, unD, at_, ixN, intOf, Tg.put]
end Pv

namespace Pv
open PySem L2
theorem L_need_lot (m n : Nat) (rs : List Row) (g : G) (h : LotOk n rs) : cl (m + 6) 18 [.dat (lotD n rs)] g = .ok (lotD n rs) g := by
  rw [run (d := ⟨2, b_need_lot, []⟩) rfl]
  generalize HLm (m + 5) _ = hl
  have z := cl_eq (L_lot_fault m n rs false g h)
  simp [b_need_lot, b_ok, b_er, b_no, fl_ok, fl_er, fl_no, sq_nx, sq_rt, sq_er, sq_bk, sq_ct, sq_no, c_nx, c_rt, c_er, to_ok, to_er, to_no, of_some, of_none, rd_eq, rd_dat, rd_own, ow_eq, ow_own, pu_eq, mm_var, mm_dat, mm_own, mm_mm, mm_scr, ag_eq, ag_some, ag_none, mm_k, mm_gl, mm_tup, mm_lst, mm_un, mm_bin, mm_and, mm_or, mm_ite, mm_slice, mm_call, mm_lc, mm_btup, mm_hall, e_var, e_k, e_gl, e_tup, e_lst, e_un, e_bin, e_and, e_or, e_ite, e_slice, e_call, e_callk, e_lc, e_btup, bt_some, es_nil, es_cons, as_nil, as_cons, o_none, o_some, int_some, j_seq, j_rng, j_zip, zip_tup, j_enum, en_some, s_set', s_setOwn', so_list, s_setN', s_unp', un_some, s_app', ap_some, s_expr', s_ret', s_if', s_for', s_raise', ss_nil, ss_cons, bR_ok, bR_no, shI, shB, shN, eqI, bd_addI, bd_addT, bd_addL, bd_sub, bd_mul, bd_mulL, bd_fdiv, bd_mod, bd_pow, bd_eq, bd_ne, bd_lt, bd_le, bd_gt, bd_ge, bd_gcd, bd_idx, sq_list, sq_tup, if_and, if_or, seq_ite, cr_ite, unD, at_, ixN, intOf, Tg.put, z, eqT0, shT0]
theorem L_need_mixed (m n : Nat) (rs : List Row) (g : G) (h : LotOk n rs) : cl (m + 6) 19 [.dat (lotD n rs)] g = .ok (lotD n rs) g := by
  rw [run (d := ⟨2, b_need_mixed, []⟩) rfl]
  generalize HLm (m + 5) _ = hl
  have z := cl_eq (L_lot_fault m n rs true g h)
  simp [b_need_mixed, b_ok, b_er, b_no, fl_ok, fl_er, fl_no, sq_nx, sq_rt, sq_er, sq_bk, sq_ct, sq_no, c_nx, c_rt, c_er, to_ok, to_er, to_no, of_some, of_none, rd_eq, rd_dat, rd_own, ow_eq, ow_own, pu_eq, mm_var, mm_dat, mm_own, mm_mm, mm_scr, ag_eq, ag_some, ag_none, mm_k, mm_gl, mm_tup, mm_lst, mm_un, mm_bin, mm_and, mm_or, mm_ite, mm_slice, mm_call, mm_lc, mm_btup, mm_hall, e_var, e_k, e_gl, e_tup, e_lst, e_un, e_bin, e_and, e_or, e_ite, e_slice, e_call, e_callk, e_lc, e_btup, bt_some, es_nil, es_cons, as_nil, as_cons, o_none, o_some, int_some, j_seq, j_rng, j_zip, zip_tup, j_enum, en_some, s_set', s_setOwn', so_list, s_setN', s_unp', un_some, s_app', ap_some, s_expr', s_ret', s_if', s_for', s_raise', ss_nil, ss_cons, bR_ok, bR_no, shI, shB, shN, eqI, bd_addI, bd_addT, bd_addL, bd_sub, bd_mul, bd_mulL, bd_fdiv, bd_mod, bd_pow, bd_eq, bd_ne, bd_lt, bd_le, bd_gt, bd_ge, bd_gcd, bd_idx, sq_list, sq_tup, if_and, if_or, seq_ite, cr_ite, unD, at_, ixN, intOf, Tg.put, z, eqT0, shT0]
theorem L_point_fault (m n : Nat) (x : List Rat) (g : G) (h : x.length = n) : cl (m + 3) 12 [.dat (.int n), .dat (frsD x)] g = .ok (.tuple []) g := by
  rw [run (d := ⟨4, b_point_fault, []⟩) rfl]
  generalize HLm (m + 2) _ = hl
  have key : ∃ ρ', forLoop (Tg.many [2, 3]).put (evalSs (callF (hdOf qsH) tab (m + 2)) hl [(.if_ (.un .not (.call 2 0 [(.var 3)])) [(.ret (.tup [(.var 2)]))] [])]) (pairs 0 (x.map frD)) ⟨[some (.dat (.int n)), some (.dat (frsD x)), none, none], g⟩ = .nx ⟨ρ', g⟩ := by
    obtain ⟨ρ', _, z⟩ := for_quiet (put := (Tg.many [2, 3]).put) (b := evalSs (callF (hdOf qsH) tab (m + 2)) hl [(.if_ (.un .not (.call 2 0 [(.var 3)])) [(.ret (.tup [(.var 2)]))] [])]) (ρ0 := fun ρ => ∃ a b, ρ = [some (.dat (.int n)), some (.dat (frsD x)), a, b]) (g := g) (pairs 0 (x.map frD)) (fun d hd ρ hρ => by
      obtain ⟨a, b, rfl⟩ := hρ
      rw [pairs_map] at hd
      obtain ⟨p, hp, rfl⟩ := List.mem_map.mp hd
      refine ⟨[some (.dat (.int n)), some (.dat (frsD x)), some (.dat (.int p.2)), some (.dat (frD p.1))], _, rfl, ?_, ⟨some (.dat (.int p.2)), some (.dat (frD p.1)), rfl⟩⟩
      simp [b_ok, b_er, b_no, fl_ok, fl_er, fl_no, sq_nx, sq_rt, sq_er, sq_bk, sq_ct, sq_no, c_nx, c_rt, c_er, to_ok, to_er, to_no, of_some, of_none, rd_eq, rd_dat, rd_own, ow_eq, ow_own, pu_eq, mm_var, mm_dat, mm_own, mm_mm, mm_scr, ag_eq, ag_some, ag_none, mm_k, mm_gl, mm_tup, mm_lst, mm_un, mm_bin, mm_and, mm_or, mm_ite, mm_slice, mm_call, mm_lc, mm_btup, mm_hall, e_var, e_k, e_gl, e_tup, e_lst, e_un, e_bin, e_and, e_or, e_ite, e_slice, e_call, e_callk, e_lc, e_btup, bt_some, es_nil, es_cons, as_nil, as_cons, o_none, o_some, int_some, j_seq, j_rng, j_zip, zip_tup, j_enum, en_some, s_set', s_setOwn', so_list, s_setN', s_unp', un_some, s_app', ap_some, s_expr', s_ret', s_if', s_for', s_raise', ss_nil, ss_cons, bR_ok, bR_no, shI, shB, shN, eqI, bd_addI, bd_addT, bd_addL, bd_sub, bd_mul, bd_mulL, bd_fdiv, bd_mod, bd_pow, bd_eq, bd_ne, bd_lt, bd_le, bd_gt, bd_ge, bd_gcd, bd_idx, sq_list, sq_tup, if_and, if_or, seq_ite, cr_ite, unD, at_, ixN, intOf, Tg.put, L_is_fraction, frac_frD]) _ ⟨none, none, rfl⟩
    exact ⟨ρ', z⟩
  obtain ⟨ρ', key⟩ := key
  simp [b_point_fault, b_ok, b_er, b_no, fl_ok, fl_er, fl_no, sq_nx, sq_rt, sq_er, sq_bk, sq_ct, sq_no, c_nx, c_rt, c_er, to_ok, to_er, to_no, of_some, of_none, rd_eq, rd_dat, rd_own, ow_eq, ow_own, pu_eq, mm_var, mm_dat, mm_own, mm_mm, mm_scr, ag_eq, ag_some, ag_none, mm_k, mm_gl, mm_tup, mm_lst, mm_un, mm_bin, mm_and, mm_or, mm_ite, mm_slice, mm_call, mm_lc, mm_btup, mm_hall, e_var, e_k, e_gl, e_tup, e_lst, e_un, e_bin, e_and, e_or, e_ite, e_slice, e_call, e_callk, e_lc, e_btup, bt_some, es_nil, es_cons, as_nil, as_cons, o_none, o_some, int_some, j_seq, j_rng, j_zip, zip_tup, j_enum, en_some, s_set', s_setOwn', so_list, s_setN', s_unp', un_some, s_app', ap_some, s_expr', s_ret', s_if', s_for', s_raise', ss_nil, ss_cons, bR_ok, bR_no, shI, shB, shN, eqI, bd_addI, bd_addT, bd_addL, bd_sub, bd_mul, bd_mulL, bd_fdiv, bd_mod, bd_pow, bd_eq, bd_ne, bd_lt, bd_le, bd_gt, bd_ge, bd_gcd, bd_idx, sq_list, sq_tup, if_and, if_or, seq_ite, cr_ite, unD, at_, ixN, intOf, Tg.put, L_r1, rowB, frsD, h] at key ⊢
  rw [key]
  simp [b_ok, b_er, b_no, fl_ok, fl_er, fl_no, sq_nx, sq_rt, sq_er, sq_bk, sq_ct, sq_no, c_nx, c_rt, c_er, to_ok, to_er, to_no, of_some, of_none, rd_eq, rd_dat, rd_own, ow_eq, ow_own, pu_eq, mm_var, mm_dat, mm_own, mm_mm, mm_scr, ag_eq, ag_some, ag_none, mm_k, mm_gl, mm_tup, mm_lst, mm_un, mm_bin, mm_and, mm_or, mm_ite, mm_slice, mm_call, mm_lc, mm_btup, mm_hall, e_var, e_k, e_gl, e_tup, e_lst, e_un, e_bin, e_and, e_or, e_ite, e_slice, e_call, e_callk, e_lc, e_btup, bt_some, es_nil, es_cons, as_nil, as_cons, o_none, o_some, int_some, j_seq, j_rng, j_zip, zip_tup, j_enum, en_some, s_set', s_setOwn', so_list, s_setN', s_unp', un_some, s_app', ap_some, s_expr', s_ret', s_if', s_for', s_raise', ss_nil, ss_cons, bR_ok, bR_no, shI, shB, shN, eqI, bd_addI, bd_addT, bd_addL, bd_sub, bd_mul, bd_mulL, bd_fdiv, bd_mod, bd_pow, bd_eq, bd_ne, bd_lt, bd_le, bd_gt, bd_ge, bd_gcd, bd_idx, sq_list, sq_tup, if_and, if_or, seq_ite, cr_ite, unD, at_, ixN, intOf, Tg.put]
/-- not a row of so many -/
theorem L_point_form (m : Nat) (n : Int) (d : D) (g : G) (h : rowB d (some n) = false) : cl (m + 2) 12 [.dat (.int n), .dat d] g = .ok (.tuple [.str ("form" : Str)]) g := by
  rw [run (d := ⟨4, b_point_fault, []⟩) rfl]
  generalize HLm (m + 1) _ = hl
  simp [b_point_fault, b_ok, b_er, b_no, fl_ok, fl_er, fl_no, sq_nx, sq_rt, sq_er, sq_bk, sq_ct, sq_no, c_nx, c_rt, c_er, to_ok, to_er, to_no, of_some, of_none, rd_eq, rd_dat, rd_own, ow_eq, ow_own, pu_eq, mm_var, mm_dat, mm_own, mm_mm, mm_scr, ag_eq, ag_some, ag_none, mm_k, mm_gl, mm_tup, mm_lst, mm_un, mm_bin, mm_and, mm_or, mm_ite, mm_slice, mm_call, mm_lc, mm_btup, mm_hall, e_var, e_k, e_gl, e_tup, e_lst, e_un, e_bin, e_and, e_or, e_ite, e_slice, e_call, e_callk, e_lc, e_btup, bt_some, es_nil, es_cons, as_nil, as_cons, o_none, o_some, int_some, j_seq, j_rng, j_zip, zip_tup, j_enum, en_some, s_set', s_setOwn', so_list, s_setN', s_unp', un_some, s_app', ap_some, s_expr', s_ret', s_if', s_for', s_raise', ss_nil, ss_cons, bR_ok, bR_no, shI, shB, shN, eqI, bd_addI, bd_addT, bd_addL, bd_sub, bd_mul, bd_mulL, bd_fdiv, bd_mod, bd_pow, bd_eq, bd_ne, bd_lt, bd_le, bd_gt, bd_ge, bd_gcd, bd_idx, sq_list, sq_tup, if_and, if_or, seq_ite, cr_ite, unD, at_, ixN, intOf, Tg.put, L_r1, h]
theorem L_need_point (m n : Nat) (x : List Rat) (g : G) (h : x.length = n) : cl (m + 4) 13 [.dat (.int n), .dat (frsD x)] g = .ok (frsD x) g := by
  rw [run (d := ⟨3, b_need_plain_point, []⟩) rfl]
  generalize HLm (m + 3) _ = hl
  have z := cl_eq (L_point_fault m n x g h)
  simp [b_need_plain_point, b_ok, b_er, b_no, fl_ok, fl_er, fl_no, sq_nx, sq_rt, sq_er, sq_bk, sq_ct, sq_no, c_nx, c_rt, c_er, to_ok, to_er, to_no, of_some, of_none, rd_eq, rd_dat, rd_own, ow_eq, ow_own, pu_eq, mm_var, mm_dat, mm_own, mm_mm, mm_scr, ag_eq, ag_some, ag_none, mm_k, mm_gl, mm_tup, mm_lst, mm_un, mm_bin, mm_and, mm_or, mm_ite, mm_slice, mm_call, mm_lc, mm_btup, mm_hall, e_var, e_k, e_gl, e_tup, e_lst, e_un, e_bin, e_and, e_or, e_ite, e_slice, e_call, e_callk, e_lc, e_btup, bt_some, es_nil, es_cons, as_nil, as_cons, o_none, o_some, int_some, j_seq, j_rng, j_zip, zip_tup, j_enum, en_some, s_set', s_setOwn', so_list, s_setN', s_unp', un_some, s_app', ap_some, s_expr', s_ret', s_if', s_for', s_raise', ss_nil, ss_cons, bR_ok, bR_no, shI, shB, shN, eqI, bd_addI, bd_addT, bd_addL, bd_sub, bd_mul, bd_mulL, bd_fdiv, bd_mod, bd_pow, bd_eq, bd_ne, bd_lt, bd_le, bd_gt, bd_ge, bd_gcd, bd_idx, sq_list, sq_tup, if_and, if_or, seq_ite, cr_ite, unD, at_, ixN, intOf, Tg.put, z, eqT0, shT0]
theorem L_need_point_bad (m : Nat) (n : Int) (d : D) (g : G) (h : rowB d (some n) = false) : cl (m + 3) 13 [.dat (.int n), .dat d] g = .er 2 (.str ("form" : Str)) g := by
  rw [run (d := ⟨3, b_need_plain_point, []⟩) rfl]
  generalize HLm (m + 2) _ = hl
  have z := cl_eq (L_point_form m n d g h)
  simp [b_need_plain_point, b_ok, b_er, b_no, fl_ok, fl_er, fl_no, sq_nx, sq_rt, sq_er, sq_bk, sq_ct, sq_no, c_nx, c_rt, c_er, to_ok, to_er, to_no, of_some, of_none, rd_eq, rd_dat, rd_own, ow_eq, ow_own, pu_eq, mm_var, mm_dat, mm_own, mm_mm, mm_scr, ag_eq, ag_some, ag_none, mm_k, mm_gl, mm_tup, mm_lst, mm_un, mm_bin, mm_and, mm_or, mm_ite, mm_slice, mm_call, mm_lc, mm_btup, mm_hall, e_var, e_k, e_gl, e_tup, e_lst, e_un, e_bin, e_and, e_or, e_ite, e_slice, e_call, e_callk, e_lc, e_btup, bt_some, es_nil, es_cons, as_nil, as_cons, o_none, o_some, int_some, j_seq, j_rng, j_zip, zip_tup, j_enum, en_some, s_set', s_setOwn', so_list, s_setN', s_unp', un_some, s_app', ap_some, s_expr', s_ret', s_if', s_for', s_raise', ss_nil, ss_cons, bR_ok, bR_no, shI, shB, shN, eqI, bd_addI, bd_addT, bd_addL, bd_sub, bd_mul, bd_mulL, bd_fdiv, bd_mod, bd_pow, bd_eq, bd_ne, bd_lt, bd_le, bd_gt, bd_ge, bd_gcd, bd_idx, sq_list, sq_tup, if_and, if_or, seq_ite, cr_ite, unD, at_, ixN, intOf, Tg.put, z, eqT1, shT0, shForm]
/-! ### maps -/
structure MapOk (c n : Nat) (ps : Mp) : Prop where
  n5 : n ≤ 5
  c5 : c ≤ 5
  len : ps.length = c
  w : ∀ p ∈ ps, p.1.length = n
def mapBody : List Sx := [(.if_ (.or_ (.un .not (.call 1 0 [(.var 3), (.k (.int 2))])) (.or_ (.un .not (.call 10 0 [(.bin .idx (.var 3) (.k (.int 0))), (.bin .idx (.var 1) (.k (.int 0)))])) (.un .not (.call 2 0 [(.bin .idx (.var 3) (.k (.int 1)))])))) [(.ret (.tup [(.var 2)]))] [])]
/-- a place of a map that is as it should be -/
def plB (d : D) (n : Int) : Bool := rowB d (some 2) && (match d with
  | .tuple [a, b] => areB a n && fracB b
  | _ => false)
theorem pl_plD (p : List Rat × Rat) (n : Nat) (h : p.1.length = n) : plB (plD p) n = true := by
  simp [plB, plD, rowB, are_frsD, frac_frD, h]
theorem map_step (m : Nat) (hl : Nat → Sg → R D) (c n : Int) (r d : D) (i : Int) (g : G) (hn : n ≤ 1000) : evalSs (callF (hdOf qsH) tab (m + 3)) hl mapBody ⟨[some (.dat (.int c)), some (.dat (.tuple [.int n, r])), some (.dat (.int i)), some (.dat d)], g⟩ =
    if plB d n then .nx ⟨[some (.dat (.int c)), some (.dat (.tuple [.int n, r])), some (.dat (.int i)), some (.dat d)], g⟩ else .rt (.tuple [.int i]) g := by
  cases hr : rowB d (some 2) with
  | false => simp [mapBody, b_ok, b_er, b_no, fl_ok, fl_er, fl_no, sq_nx, sq_rt, sq_er, sq_bk, sq_ct, sq_no, c_nx, c_rt, c_er, to_ok, to_er, to_no, of_some, of_none, rd_eq, rd_dat, rd_own, ow_eq, ow_own, pu_eq, mm_var, mm_dat, mm_own, mm_mm, mm_scr, ag_eq, ag_some, ag_none, mm_k, mm_gl, mm_tup, mm_lst, mm_un, mm_bin, mm_and, mm_or, mm_ite, mm_slice, mm_call, mm_lc, mm_btup, mm_hall, e_var, e_k, e_gl, e_tup, e_lst, e_un, e_bin, e_and, e_or, e_ite, e_slice, e_call, e_callk, e_lc, e_btup, bt_some, es_nil, es_cons, as_nil, as_cons, o_none, o_some, int_some, j_seq, j_rng, j_zip, zip_tup, j_enum, en_some, s_set', s_setOwn', so_list, s_setN', s_unp', un_some, s_app', ap_some, s_expr', s_ret', s_if', s_for', s_raise', ss_nil, ss_cons, bR_ok, bR_no, shI, shB, shN, eqI, bd_addI, bd_addT, bd_addL, bd_sub, bd_mul, bd_mulL, bd_fdiv, bd_mod, bd_pow, bd_eq, bd_ne, bd_lt, bd_le, bd_gt, bd_ge, bd_gcd, bd_idx, sq_list, sq_tup, if_and, if_or, seq_ite, cr_ite, unD, at_, ixN, intOf, Tg.put, L_r1, hr, plB]
  | true =>
    obtain ⟨a, b, rfl⟩ : ∃ a b, d = .tuple [a, b] := by
      cases d with
      | tuple ds =>
        rcases ds with _ | ⟨a, _ | ⟨b, _ | ⟨c, t⟩⟩⟩
        · simp [rowB] at hr
        · simp [rowB] at hr
        · exact ⟨a, b, rfl⟩
        · simp [rowB] at hr; omega
      | _ => cases hr
    have ha := cl_eq (L_are m a n g hn)
    cases h1 : areB a n with
    | false => rw [h1] at ha; simp [mapBody, b_ok, b_er, b_no, fl_ok, fl_er, fl_no, sq_nx, sq_rt, sq_er, sq_bk, sq_ct, sq_no, c_nx, c_rt, c_er, to_ok, to_er, to_no, of_some, of_none, rd_eq, rd_dat, rd_own, ow_eq, ow_own, pu_eq, mm_var, mm_dat, mm_own, mm_mm, mm_scr, ag_eq, ag_some, ag_none, mm_k, mm_gl, mm_tup, mm_lst, mm_un, mm_bin, mm_and, mm_or, mm_ite, mm_slice, mm_call, mm_lc, mm_btup, mm_hall, e_var, e_k, e_gl, e_tup, e_lst, e_un, e_bin, e_and, e_or, e_ite, e_slice, e_call, e_callk, e_lc, e_btup, bt_some, es_nil, es_cons, as_nil, as_cons, o_none, o_some, int_some, j_seq, j_rng, j_zip, zip_tup, j_enum, en_some, s_set', s_setOwn', so_list, s_setN', s_unp', un_some, s_app', ap_some, s_expr', s_ret', s_if', s_for', s_raise', ss_nil, ss_cons, bR_ok, bR_no, shI, shB, shN, eqI, bd_addI, bd_addT, bd_addL, bd_sub, bd_mul, bd_mulL, bd_fdiv, bd_mod, bd_pow, bd_eq, bd_ne, bd_lt, bd_le, bd_gt, bd_ge, bd_gcd, bd_idx, sq_list, sq_tup, if_and, if_or, seq_ite, cr_ite, unD, at_, ixN, intOf, Tg.put, L_r1, hr, plB, ha, h1]
    | true =>
      rw [h1] at ha
      cases h2 : fracB b <;> simp [mapBody, b_ok, b_er, b_no, fl_ok, fl_er, fl_no, sq_nx, sq_rt, sq_er, sq_bk, sq_ct, sq_no, c_nx, c_rt, c_er, to_ok, to_er, to_no, of_some, of_none, rd_eq, rd_dat, rd_own, ow_eq, ow_own, pu_eq, mm_var, mm_dat, mm_own, mm_mm, mm_scr, ag_eq, ag_some, ag_none, mm_k, mm_gl, mm_tup, mm_lst, mm_un, mm_bin, mm_and, mm_or, mm_ite, mm_slice, mm_call, mm_lc, mm_btup, mm_hall, e_var, e_k, e_gl, e_tup, e_lst, e_un, e_bin, e_and, e_or, e_ite, e_slice, e_call, e_callk, e_lc, e_btup, bt_some, es_nil, es_cons, as_nil, as_cons, o_none, o_some, int_some, j_seq, j_rng, j_zip, zip_tup, j_enum, en_some, s_set', s_setOwn', so_list, s_setN', s_unp', un_some, s_app', ap_some, s_expr', s_ret', s_if', s_for', s_raise', ss_nil, ss_cons, bR_ok, bR_no, shI, shB, shN, eqI, bd_addI, bd_addT, bd_addL, bd_sub, bd_mul, bd_mulL, bd_fdiv, bd_mod, bd_pow, bd_eq, bd_ne, bd_lt, bd_le, bd_gt, bd_ge, bd_gcd, bd_idx, sq_list, sq_tup, if_and, if_or, seq_ite, cr_ite, unD, at_, ixN, intOf, Tg.put, L_r1, hr, plB, ha, h1, h2, L_is_fraction]
/-- the first place that is wrong -/
def firstBad (n : Int) : Nat → List D → Option Nat
  | _, [] => none
  | i, d :: ds => if plB d n then firstBad n (i + 1) ds else some i
theorem map_loop (m : Nat) (hl : Nat → Sg → R D) (c n : Int) (r : D) (g : G) (hn : n ≤ 1000) : ∀ (ds : List D) (i : Nat) (a b : Option Sl), ∃ ρ', forLoop (Tg.many [2, 3]).put (evalSs (callF (hdOf qsH) tab (m + 3)) hl mapBody) (pairs i ds) ⟨[some (.dat (.int c)), some (.dat (.tuple [.int n, r])), a, b], g⟩ = match firstBad n i ds with
    | none => .nx ⟨ρ', g⟩
    | some j => .rt (.tuple [.int (j : Nat)]) g
  | [], i, a, b => ⟨_, rfl⟩
  | d :: ds, i, a, b => by
    have hp : (Tg.many [2, 3]).put (.tuple [.int i, d]) ⟨[some (.dat (.int c)), some (.dat (.tuple [.int n, r])), a, b], g⟩ = some ⟨[some (.dat (.int c)), some (.dat (.tuple [.int n, r])), some (.dat (.int i)), some (.dat d)], g⟩ := rfl
    have hs := map_step m hl c n r d i g hn
    unfold firstBad
    rw [pairs]
    cases h : plB d n with
    | true =>
      rw [h] at hs
      obtain ⟨ρ', z⟩ := map_loop m hl c n r g hn ds (i + 1) (some (.dat (.int i))) (some (.dat d))
      refine ⟨ρ', ?_⟩
      rw [for_nx hp hs, z]
      simp
    | false =>
      rw [h] at hs
      exact ⟨[], by rw [for_rt hp hs]; simp⟩
/-- map_fault, the form being right -/
theorem L_map_fault (m : Nat) (c n : Int) (ds : List D) (g : G) (h1 : (ds.length : Int) = c) (h2 : 0 ≤ n) (h3 : n ≤ 5) : cl (m + 4) 22 [.dat (.int c), .dat (.tuple [.int n, .tuple ds])] g = .ok (match firstBad n 0 ds with
    | none => .tuple []
    | some j => .tuple [.int (j : Nat)]) g := by
  rw [run (d := ⟨4, b_map_fault, []⟩) rfl]
  generalize HLm (m + 3) _ = hl
  obtain ⟨ρ', z⟩ := map_loop m hl c n (.tuple ds) g (by omega) ds 0 none none
  have hw : wholeB (.int n) (some 0) (some 5) = true := by simp [wholeB]; omega
  simp only [mapBody] at z
  simp [b_map_fault, b_ok, b_er, b_no, fl_ok, fl_er, fl_no, sq_nx, sq_rt, sq_er, sq_bk, sq_ct, sq_no, c_nx, c_rt, c_er, to_ok, to_er, to_no, of_some, of_none, rd_eq, rd_dat, rd_own, ow_eq, ow_own, pu_eq, mm_var, mm_dat, mm_own, mm_mm, mm_scr, ag_eq, ag_some, ag_none, mm_k, mm_gl, mm_tup, mm_lst, mm_un, mm_bin, mm_and, mm_or, mm_ite, mm_slice, mm_call, mm_lc, mm_btup, mm_hall, e_var, e_k, e_gl, e_tup, e_lst, e_un, e_bin, e_and, e_or, e_ite, e_slice, e_call, e_callk, e_lc, e_btup, bt_some, es_nil, es_cons, as_nil, as_cons, o_none, o_some, int_some, j_seq, j_rng, j_zip, zip_tup, j_enum, en_some, s_set', s_setOwn', so_list, s_setN', s_unp', un_some, s_app', ap_some, s_expr', s_ret', s_if', s_for', s_raise', ss_nil, ss_cons, bR_ok, bR_no, shI, shB, shN, eqI, bd_addI, bd_addT, bd_addL, bd_sub, bd_mul, bd_mulL, bd_fdiv, bd_mod, bd_pow, bd_eq, bd_ne, bd_lt, bd_le, bd_gt, bd_ge, bd_gcd, bd_idx, sq_list, sq_tup, if_and, if_or, seq_ite, cr_ite, unD, at_, ixN, intOf, Tg.put, L_r1, L_w2, rowB, hw, h1, z]
  cases firstBad n 0 ds <;> simp [b_ok, b_er, b_no, fl_ok, fl_er, fl_no, sq_nx, sq_rt, sq_er, sq_bk, sq_ct, sq_no, c_nx, c_rt, c_er, to_ok, to_er, to_no, of_some, of_none, rd_eq, rd_dat, rd_own, ow_eq, ow_own, pu_eq, mm_var, mm_dat, mm_own, mm_mm, mm_scr, ag_eq, ag_some, ag_none, mm_k, mm_gl, mm_tup, mm_lst, mm_un, mm_bin, mm_and, mm_or, mm_ite, mm_slice, mm_call, mm_lc, mm_btup, mm_hall, e_var, e_k, e_gl, e_tup, e_lst, e_un, e_bin, e_and, e_or, e_ite, e_slice, e_call, e_callk, e_lc, e_btup, bt_some, es_nil, es_cons, as_nil, as_cons, o_none, o_some, int_some, j_seq, j_rng, j_zip, zip_tup, j_enum, en_some, s_set', s_setOwn', so_list, s_setN', s_unp', un_some, s_app', ap_some, s_expr', s_ret', s_if', s_for', s_raise', ss_nil, ss_cons, bR_ok, bR_no, shI, shB, shN, eqI, bd_addI, bd_addT, bd_addL, bd_sub, bd_mul, bd_mulL, bd_fdiv, bd_mod, bd_pow, bd_eq, bd_ne, bd_lt, bd_le, bd_gt, bd_ge, bd_gcd, bd_idx, sq_list, sq_tup, if_and, if_or, seq_ite, cr_ite, unD, at_, ixN, intOf, Tg.put]
theorem L_map_form (m : Nat) (c : Int) (d : D) (g : G) (h : rowB d (some 2) = false ∨ ∃ a b, d = .tuple [a, b] ∧ rowB b (some c) = false) : cl (m + 2) 22 [.dat (.int c), .dat d] g = .ok (.tuple [.str ("form" : Str)]) g := by
  rw [run (d := ⟨4, b_map_fault, []⟩) rfl]
  generalize HLm (m + 1) _ = hl
  rcases h with h | ⟨a, b, rfl, h⟩
  · simp [b_map_fault, b_ok, b_er, b_no, fl_ok, fl_er, fl_no, sq_nx, sq_rt, sq_er, sq_bk, sq_ct, sq_no, c_nx, c_rt, c_er, to_ok, to_er, to_no, of_some, of_none, rd_eq, rd_dat, rd_own, ow_eq, ow_own, pu_eq, mm_var, mm_dat, mm_own, mm_mm, mm_scr, ag_eq, ag_some, ag_none, mm_k, mm_gl, mm_tup, mm_lst, mm_un, mm_bin, mm_and, mm_or, mm_ite, mm_slice, mm_call, mm_lc, mm_btup, mm_hall, e_var, e_k, e_gl, e_tup, e_lst, e_un, e_bin, e_and, e_or, e_ite, e_slice, e_call, e_callk, e_lc, e_btup, bt_some, es_nil, es_cons, as_nil, as_cons, o_none, o_some, int_some, j_seq, j_rng, j_zip, zip_tup, j_enum, en_some, s_set', s_setOwn', so_list, s_setN', s_unp', un_some, s_app', ap_some, s_expr', s_ret', s_if', s_for', s_raise', ss_nil, ss_cons, bR_ok, bR_no, shI, shB, shN, eqI, bd_addI, bd_addT, bd_addL, bd_sub, bd_mul, bd_mulL, bd_fdiv, bd_mod, bd_pow, bd_eq, bd_ne, bd_lt, bd_le, bd_gt, bd_ge, bd_gcd, bd_idx, sq_list, sq_tup, if_and, if_or, seq_ite, cr_ite, unD, at_, ixN, intOf, Tg.put, L_r1, h]
  · have h3 : rowB (.tuple [a, b]) (some 2) = true := rfl
    simp [b_map_fault, b_ok, b_er, b_no, fl_ok, fl_er, fl_no, sq_nx, sq_rt, sq_er, sq_bk, sq_ct, sq_no, c_nx, c_rt, c_er, to_ok, to_er, to_no, of_some, of_none, rd_eq, rd_dat, rd_own, ow_eq, ow_own, pu_eq, mm_var, mm_dat, mm_own, mm_mm, mm_scr, ag_eq, ag_some, ag_none, mm_k, mm_gl, mm_tup, mm_lst, mm_un, mm_bin, mm_and, mm_or, mm_ite, mm_slice, mm_call, mm_lc, mm_btup, mm_hall, e_var, e_k, e_gl, e_tup, e_lst, e_un, e_bin, e_and, e_or, e_ite, e_slice, e_call, e_callk, e_lc, e_btup, bt_some, es_nil, es_cons, as_nil, as_cons, o_none, o_some, int_some, j_seq, j_rng, j_zip, zip_tup, j_enum, en_some, s_set', s_setOwn', so_list, s_setN', s_unp', un_some, s_app', ap_some, s_expr', s_ret', s_if', s_for', s_raise', ss_nil, ss_cons, bR_ok, bR_no, shI, shB, shN, eqI, bd_addI, bd_addT, bd_addL, bd_sub, bd_mul, bd_mulL, bd_fdiv, bd_mod, bd_pow, bd_eq, bd_ne, bd_lt, bd_le, bd_gt, bd_ge, bd_gcd, bd_idx, sq_list, sq_tup, if_and, if_or, seq_ite, cr_ite, unD, at_, ixN, intOf, Tg.put, L_r1, h, h3]
theorem L_map_unk (m : Nat) (c : Int) (a b : D) (g : G) (h1 : rowB b (some c) = true) (h2 : wholeB a (some 0) (some 5) = false) : cl (m + 2) 22 [.dat (.int c), .dat (.tuple [a, b])] g = .ok (.tuple [.str ("unknowns" : Str)]) g := by
  rw [run (d := ⟨4, b_map_fault, []⟩) rfl]
  generalize HLm (m + 1) _ = hl
  have h3 : rowB (.tuple [a, b]) (some 2) = true := rfl
  simp [b_map_fault, b_ok, b_er, b_no, fl_ok, fl_er, fl_no, sq_nx, sq_rt, sq_er, sq_bk, sq_ct, sq_no, c_nx, c_rt, c_er, to_ok, to_er, to_no, of_some, of_none, rd_eq, rd_dat, rd_own, ow_eq, ow_own, pu_eq, mm_var, mm_dat, mm_own, mm_mm, mm_scr, ag_eq, ag_some, ag_none, mm_k, mm_gl, mm_tup, mm_lst, mm_un, mm_bin, mm_and, mm_or, mm_ite, mm_slice, mm_call, mm_lc, mm_btup, mm_hall, e_var, e_k, e_gl, e_tup, e_lst, e_un, e_bin, e_and, e_or, e_ite, e_slice, e_call, e_callk, e_lc, e_btup, bt_some, es_nil, es_cons, as_nil, as_cons, o_none, o_some, int_some, j_seq, j_rng, j_zip, zip_tup, j_enum, en_some, s_set', s_setOwn', so_list, s_setN', s_unp', un_some, s_app', ap_some, s_expr', s_ret', s_if', s_for', s_raise', ss_nil, ss_cons, bR_ok, bR_no, shI, shB, shN, eqI, bd_addI, bd_addT, bd_addL, bd_sub, bd_mul, bd_mulL, bd_fdiv, bd_mod, bd_pow, bd_eq, bd_ne, bd_lt, bd_le, bd_gt, bd_ge, bd_gcd, bd_idx, sq_list, sq_tup, if_and, if_or, seq_ite, cr_ite, unD, at_, ixN, intOf, Tg.put, L_r1, L_w2, h1, h2, h3]
end Pv

namespace Pv
open PySem L2
theorem firstBad_ok (n : Nat) : ∀ (ps : Mp) (i : Nat), (∀ p ∈ ps, p.1.length = n) → firstBad n i (ps.map plD) = none
  | [], _, _ => rfl
  | p :: ps, i, h => by
    simp only [List.map_cons, firstBad, pl_plD p n (h p (by simp)), if_true]
    exact firstBad_ok n ps (i + 1) fun q hq => h q (by simp [hq])
theorem firstBad_at (n : Nat) (w : D) (hw : plB w n = false) : ∀ (ps : Mp) (i : Nat) (r : List D), (∀ p ∈ ps, p.1.length = n) → firstBad n i (ps.map plD ++ w :: r) = some (i + ps.length)
  | [], i, r, _ => by simp [firstBad, hw]
  | p :: ps, i, r, h => by
    simp only [List.map_cons, List.cons_append, firstBad, pl_plD p n (h p (by simp)), if_true]
    rw [firstBad_at n w hw ps (i + 1) r fun q hq => h q (by simp [hq])]
    simp; omega
theorem L_need_map (m c n : Nat) (ps : Mp) (g : G) (h : MapOk c n ps) : cl (m + 5) 23 [.dat (.int c), .dat (mapD n ps)] g = .ok (mapD n ps) g := by
  rw [run (d := ⟨3, b_need_map, []⟩) rfl]
  generalize HLm (m + 4) _ = hl
  have z := cl_eq (L_map_fault m c n (ps.map plD) g (by rw [List.length_map, h.len]) (by omega) (by have := h.n5; omega))
  rw [firstBad_ok n ps 0 h.w] at z
  simp [b_need_map, b_ok, b_er, b_no, fl_ok, fl_er, fl_no, sq_nx, sq_rt, sq_er, sq_bk, sq_ct, sq_no, c_nx, c_rt, c_er, to_ok, to_er, to_no, of_some, of_none, rd_eq, rd_dat, rd_own, ow_eq, ow_own, pu_eq, mm_var, mm_dat, mm_own, mm_mm, mm_scr, ag_eq, ag_some, ag_none, mm_k, mm_gl, mm_tup, mm_lst, mm_un, mm_bin, mm_and, mm_or, mm_ite, mm_slice, mm_call, mm_lc, mm_btup, mm_hall, e_var, e_k, e_gl, e_tup, e_lst, e_un, e_bin, e_and, e_or, e_ite, e_slice, e_call, e_callk, e_lc, e_btup, bt_some, es_nil, es_cons, as_nil, as_cons, o_none, o_some, int_some, j_seq, j_rng, j_zip, zip_tup, j_enum, en_some, s_set', s_setOwn', so_list, s_setN', s_unp', un_some, s_app', ap_some, s_expr', s_ret', s_if', s_for', s_raise', ss_nil, ss_cons, bR_ok, bR_no, shI, shB, shN, eqI, bd_addI, bd_addT, bd_addL, bd_sub, bd_mul, bd_mulL, bd_fdiv, bd_mod, bd_pow, bd_eq, bd_ne, bd_lt, bd_le, bd_gt, bd_ge, bd_gcd, bd_idx, sq_list, sq_tup, if_and, if_or, seq_ite, cr_ite, unD, at_, ixN, intOf, Tg.put, mapD, z, eqT0, shT0]
theorem L_need_map_bad (m : Nat) (c n : Int) (ds : List D) (j : Nat) (g : G) (h1 : (ds.length : Int) = c) (h2 : 0 ≤ n) (h3 : n ≤ 5) (h : firstBad n 0 ds = some j) : cl (m + 5) 23 [.dat (.int c), .dat (.tuple [.int n, .tuple ds])] g = .er 4 (.int j) g := by
  rw [run (d := ⟨3, b_need_map, []⟩) rfl]
  generalize HLm (m + 4) _ = hl
  have z := cl_eq (L_map_fault m c n ds g h1 h2 h3)
  rw [h] at z
  simp [b_need_map, b_ok, b_er, b_no, fl_ok, fl_er, fl_no, sq_nx, sq_rt, sq_er, sq_bk, sq_ct, sq_no, c_nx, c_rt, c_er, to_ok, to_er, to_no, of_some, of_none, rd_eq, rd_dat, rd_own, ow_eq, ow_own, pu_eq, mm_var, mm_dat, mm_own, mm_mm, mm_scr, ag_eq, ag_some, ag_none, mm_k, mm_gl, mm_tup, mm_lst, mm_un, mm_bin, mm_and, mm_or, mm_ite, mm_slice, mm_call, mm_lc, mm_btup, mm_hall, e_var, e_k, e_gl, e_tup, e_lst, e_un, e_bin, e_and, e_or, e_ite, e_slice, e_call, e_callk, e_lc, e_btup, bt_some, es_nil, es_cons, as_nil, as_cons, o_none, o_some, int_some, j_seq, j_rng, j_zip, zip_tup, j_enum, en_some, s_set', s_setOwn', so_list, s_setN', s_unp', un_some, s_app', ap_some, s_expr', s_ret', s_if', s_for', s_raise', ss_nil, ss_cons, bR_ok, bR_no, shI, shB, shN, eqI, bd_addI, bd_addT, bd_addL, bd_sub, bd_mul, bd_mulL, bd_fdiv, bd_mod, bd_pow, bd_eq, bd_ne, bd_lt, bd_le, bd_gt, bd_ge, bd_gcd, bd_idx, sq_list, sq_tup, if_and, if_or, seq_ite, cr_ite, unD, at_, ixN, intOf, Tg.put, z, eqT1, shT0, shTi]
theorem L_need_map_form (m : Nat) (c : Int) (d : D) (g : G) (h : rowB d (some 2) = false ∨ ∃ a b, d = .tuple [a, b] ∧ rowB b (some c) = false) : cl (m + 3) 23 [.dat (.int c), .dat d] g = .er 4 (.str ("form" : Str)) g := by
  rw [run (d := ⟨3, b_need_map, []⟩) rfl]
  generalize HLm (m + 2) _ = hl
  have z := cl_eq (L_map_form m c d g h)
  simp [b_need_map, b_ok, b_er, b_no, fl_ok, fl_er, fl_no, sq_nx, sq_rt, sq_er, sq_bk, sq_ct, sq_no, c_nx, c_rt, c_er, to_ok, to_er, to_no, of_some, of_none, rd_eq, rd_dat, rd_own, ow_eq, ow_own, pu_eq, mm_var, mm_dat, mm_own, mm_mm, mm_scr, ag_eq, ag_some, ag_none, mm_k, mm_gl, mm_tup, mm_lst, mm_un, mm_bin, mm_and, mm_or, mm_ite, mm_slice, mm_call, mm_lc, mm_btup, mm_hall, e_var, e_k, e_gl, e_tup, e_lst, e_un, e_bin, e_and, e_or, e_ite, e_slice, e_call, e_callk, e_lc, e_btup, bt_some, es_nil, es_cons, as_nil, as_cons, o_none, o_some, int_some, j_seq, j_rng, j_zip, zip_tup, j_enum, en_some, s_set', s_setOwn', so_list, s_setN', s_unp', un_some, s_app', ap_some, s_expr', s_ret', s_if', s_for', s_raise', ss_nil, ss_cons, bR_ok, bR_no, shI, shB, shN, eqI, bd_addI, bd_addT, bd_addL, bd_sub, bd_mul, bd_mulL, bd_fdiv, bd_mod, bd_pow, bd_eq, bd_ne, bd_lt, bd_le, bd_gt, bd_ge, bd_gcd, bd_idx, sq_list, sq_tup, if_and, if_or, seq_ite, cr_ite, unD, at_, ixN, intOf, Tg.put, z, eqT1, shT0, shForm]
theorem L_need_map_unk (m : Nat) (c : Int) (a b : D) (g : G) (h1 : rowB b (some c) = true) (h2 : wholeB a (some 0) (some 5) = false) : cl (m + 3) 23 [.dat (.int c), .dat (.tuple [a, b])] g = .er 4 (.str ("unknowns" : Str)) g := by
  rw [run (d := ⟨3, b_need_map, []⟩) rfl]
  generalize HLm (m + 2) _ = hl
  have z := cl_eq (L_map_unk m c a b g h1 h2)
  simp [b_need_map, b_ok, b_er, b_no, fl_ok, fl_er, fl_no, sq_nx, sq_rt, sq_er, sq_bk, sq_ct, sq_no, c_nx, c_rt, c_er, to_ok, to_er, to_no, of_some, of_none, rd_eq, rd_dat, rd_own, ow_eq, ow_own, pu_eq, mm_var, mm_dat, mm_own, mm_mm, mm_scr, ag_eq, ag_some, ag_none, mm_k, mm_gl, mm_tup, mm_lst, mm_un, mm_bin, mm_and, mm_or, mm_ite, mm_slice, mm_call, mm_lc, mm_btup, mm_hall, e_var, e_k, e_gl, e_tup, e_lst, e_un, e_bin, e_and, e_or, e_ite, e_slice, e_call, e_callk, e_lc, e_btup, bt_some, es_nil, es_cons, as_nil, as_cons, o_none, o_some, int_some, j_seq, j_rng, j_zip, zip_tup, j_enum, en_some, s_set', s_setOwn', so_list, s_setN', s_unp', un_some, s_app', ap_some, s_expr', s_ret', s_if', s_for', s_raise', ss_nil, ss_cons, bR_ok, bR_no, shI, shB, shN, eqI, bd_addI, bd_addT, bd_addL, bd_sub, bd_mul, bd_mulL, bd_fdiv, bd_mod, bd_pow, bd_eq, bd_ne, bd_lt, bd_le, bd_gt, bd_ge, bd_gcd, bd_idx, sq_list, sq_tup, if_and, if_or, seq_ite, cr_ite, unD, at_, ixN, intOf, Tg.put, z, eqT1, shT0, shUnk]
/-! ### a row put through a map -/
section
variable {r : Row} {n : Nat} {ps : Mp} {p : List Rat × Rat} {q : Rat} {w : List Rat} {rs : List Row} {s : Sg} {ys : List D}
theorem seq_row : seqOf (rowD r) = some [.str (kindS r.same), frsD r.w, frD r.b] := rfl
theorem seq_map : seqOf (mapD n ps) = some [.int n, .tuple (ps.map plD)] := rfl
theorem seq_pl : seqOf (plD p) = some [frsD p.1, frD p.2] := rfl
theorem seq_fr : seqOf (frD q) = some [.int q.num, .int q.den] := rfl
theorem seq_frs : seqOf (frsD w) = some (w.map frD) := rfl
theorem seq_lot : seqOf (lotD n rs) = some [.int n, rowsD rs] := rfl
theorem seq_rows : seqOf (rowsD rs) = some (rs.map rowD) := rfl
theorem zip_frs : zipA (frsD w) (.tuple ys) s = .ok (zips (w.map frD) ys) s := rfl
theorem zip_frs2 {x : List Rat} : zipA (frsD w) (frsD x) s = .ok (zips (w.map frD) (x.map frD)) s := rfl
end
theorem for_app {put : D → Sg → Option Sg} {b : Sg → Fl} {g : G} {α β : Type} (enc f : α → D) (mk : List D → β → List (Option Sl)) : ∀ (l : List α), (∀ a ∈ l, ∀ acc u, acc.length < 1000000 → ∃ ρ1 v, put (enc a) ⟨mk acc u, g⟩ = some ⟨ρ1, g⟩ ∧ b ⟨ρ1, g⟩ = .nx ⟨mk (acc ++ [f a]) v, g⟩) →
    ∀ (acc : List D) (u : β), acc.length + l.length ≤ 1000000 → ∃ v, forLoop put b (l.map enc) ⟨mk acc u, g⟩ = .nx ⟨mk (acc ++ l.map f) v, g⟩
  | [], _, acc, u, _ => ⟨u, by simp [forLoop]⟩
  | a :: l, h, acc, u, hl => by
    obtain ⟨ρ1, v, h1, h2⟩ := h a (by simp) acc u (by simp at hl; omega)
    obtain ⟨v', z⟩ := for_app enc f mk l (fun c hc => h c (by simp [hc])) (acc ++ [f a]) v (by simp at hl ⊢; omega)
    refine ⟨v', ?_⟩
    rw [List.map_cons, for_nx h1 h2, z]
    simp
def colQ (j : Nat) (p : List Rat × Rat) : Rat := p.1.getD j 0
/-- weights through the j-th column -/
def colSum (w : List Rat) (ps : Mp) (j : Nat) : Rat := sumQ ((w.zip ps).map fun p => p.1 * colQ j p.2)
def numSum (w : List Rat) (ps : Mp) : Rat := sumQ ((w.zip ps).map fun p => p.1 * p.2.2)
def putW (n : Nat) (ps : Mp) (w : List Rat) : List Rat := (List.range n).map (colSum w ps)
def putRow (n : Nat) (ps : Mp) (r : Row) : Row := ⟨r.same, putW n ps r.w, r.b - numSum r.w ps⟩
/-- how great a map's numbers are -/
def MpB (b : Nat) (ps : Mp) : Prop := ∀ p ∈ ps, (∀ q ∈ p.1, Bq b q) ∧ Bq b p.2
theorem col_at {p : List Rat × Rat} {n j : Nat} (h : p.1.length = n) (hj : j < n) : (p.1.map frD)[j]? = some (frD (colQ j p)) := by
  have h1 : j < p.1.length := by omega
  rw [List.getElem?_map, List.getElem?_eq_getElem h1]
  simp [colQ, List.getD, List.getElem?_eq_getElem h1]
theorem col_bq {b : Nat} {p : List Rat × Rat} {n j : Nat} (h : p.1.length = n) (hj : j < n) (hb : ∀ q ∈ p.1, Bq b q) : Bq b (colQ j p) := by
  have h1 : j < p.1.length := by omega
  have e : colQ j p = p.1[j] := by simp [colQ, List.getD, List.getElem?_eq_getElem h1]
  rw [e]
  exact hb _ (List.getElem_mem h1)
theorem zip_mem {α β : Type} {w : List α} {ps : List β} {p : α × β} (h : p ∈ w.zip ps) : p.1 ∈ w ∧ p.2 ∈ ps := List.of_mem_zip (show (p.1, p.2) ∈ w.zip ps from h)
section
variable (m n : Nat) (w : List Rat) (ps : Mp) (a b : Nat) (g : G) (hw : ∀ q ∈ w, Bq a q) (hp : MpB b ps) (hn : ∀ p ∈ ps, p.1.length = n) (hl5 : w.length ≤ 5) (hb : a + b < 1500)
include hw hp hl5 hb
theorem tot_bound {f : Rat × (List Rat × Rat) → Rat} (hf : ∀ p ∈ w.zip ps, Bq (a + b) (f p)) : cl (m + 2) 9 [.dat (.list (((w.zip ps).map f).map frD))] g = .ok (frD (sumQ ((w.zip ps).map f))) g := by
  refine L_total m _ (a + b) g (fun q hq => ?_) ?_
  · obtain ⟨p, hp, rfl⟩ := List.mem_map.mp hq
    exact hf p hp
  · have : (a + b + 1) * ((w.zip ps).map f).length ≤ (a + b + 1) * 5 := Nat.mul_le_mul_left _ (by rw [List.length_map, List.length_zip]; omega)
    omega
end
theorem colSum_bq {a b n j : Nat} {w : List Rat} {ps : Mp} (hw : ∀ q ∈ w, Bq a q) (hp : MpB b ps) (hn : ∀ p ∈ ps, p.1.length = n) (hl5 : w.length ≤ 5) (hj : j < n) : Bq (1 + (a + b + 1) * 5) (colSum w ps j) := by
  refine (sumQ_bq (b := a + b) _ fun q hq => ?_).up ?_
  · obtain ⟨p, hp', rfl⟩ := List.mem_map.mp hq
    obtain ⟨h1, h2⟩ := zip_mem hp'
    exact (hw _ h1).times (col_bq (hn _ h2) hj (hp _ h2).1)
  · have : (a + b + 1) * ((w.zip ps).map fun p => p.1 * colQ j p.2).length ≤ (a + b + 1) * 5 := Nat.mul_le_mul_left _ (by rw [List.length_map, List.length_zip]; omega)
    omega
theorem numSum_bq {a b : Nat} {w : List Rat} {ps : Mp} (hw : ∀ q ∈ w, Bq a q) (hp : MpB b ps) (hl5 : w.length ≤ 5) : Bq (1 + (a + b + 1) * 5) (numSum w ps) := by
  refine (sumQ_bq (b := a + b) _ fun q hq => ?_).up ?_
  · obtain ⟨p, hp', rfl⟩ := List.mem_map.mp hq
    obtain ⟨h1, h2⟩ := zip_mem hp'
    exact (hw _ h1).times (hp _ h2).2
  · have : (a + b + 1) * ((w.zip ps).map fun p => p.1 * p.2.2).length ≤ (a + b + 1) * 5 := Nat.mul_le_mul_left _ (by rw [List.length_map, List.length_zip]; omega)
    omega
theorem L_put_row (m n : Nat) (r : Row) (ps : Mp) (a b : Nat) (g : G) (hw : ∀ q ∈ r.w, Bq a q) (hrb : Bq a r.b) (hp : MpB b ps) (hn : ∀ p ∈ ps, p.1.length = n) (hn5 : n ≤ 5) (hl5 : r.w.length ≤ 5) (hb : a + b < 1200) : cl (m + 3) 24 [.dat (rowD r), .dat (mapD n ps)] g = .ok (rowD (putRow n ps r)) g := by
  rw [run (d := ⟨7, b_put_row, []⟩) rfl]
  generalize HLm (m + 2) _ = hl
  -- the comprehension of a column
  have hc : ∀ (j : Nat) (ws : List D) (u v : Option Sl), j < n → lcA (callF (hdOf qsH) tab (m + 2)) hl [5, 6] (.many [5, 6]) none (.call 7 0 [(.var 5), (.bin .idx (.bin .idx (.var 6) (.k (.int 0))) (.var 3))]) (zips (r.w.map frD) (ps.map plD)) ⟨[some (.dat (rowD r)), some (.dat (mapD n ps)), some (.own ws), some (.dat (.int j)), none, none, none], g⟩ =
      .ok (.list (((r.w.zip ps).map fun p => p.1 * colQ j p.2).map frD)) ⟨[some (.dat (rowD r)), some (.dat (mapD n ps)), some (.own ws), some (.dat (.int j)), none, none, none], g⟩ := by
    intro j ws u v hj
    rw [zips_map]
    have z := lcA_pure (cf := callF (hdOf qsH) tab (m + 2)) (hl := hl) (own := [5, 6]) (tg := .many [5, 6]) (elt := .call 7 0 [(.var 5), (.bin .idx (.bin .idx (.var 6) (.k (.int 0))) (.var 3))]) (ρ := [some (.dat (rowD r)), some (.dat (mapD n ps)), some (.own ws), some (.dat (.int j)), none, none, none]) (g := g)
      (fun p : Rat × (List Rat × Rat) => PyData.tuple [frD p.1, plD p.2]) (fun p => frD (p.1 * colQ j p.2)) (r.w.zip ps) (fun p hp' => by
        obtain ⟨h1, h2⟩ := zip_mem hp'
        have hr := cl_eq (L_times m p.1 (colQ j p.2) a b g (hw _ h1) (col_bq (hn _ h2) hj (hp _ h2).1) (by omega))
        refine ⟨[some (.dat (rowD r)), some (.dat (mapD n ps)), some (.own ws), some (.dat (.int j)), none, some (.dat (frD p.1)), some (.dat (plD p.2))], rfl, ?_, rfl⟩
        have hj2 : (j : Int) < (p.2.1.map frD).length := by rw [List.length_map, hn _ h2]; omega
        have hat := col_at (hn _ h2) hj
        simp [b_ok, b_er, b_no, fl_ok, fl_er, fl_no, sq_nx, sq_rt, sq_er, sq_bk, sq_ct, sq_no, c_nx, c_rt, c_er, to_ok, to_er, to_no, of_some, of_none, rd_eq, rd_dat, rd_own, ow_eq, ow_own, pu_eq, mm_var, mm_dat, mm_own, mm_mm, mm_scr, ag_eq, ag_some, ag_none, mm_k, mm_gl, mm_tup, mm_lst, mm_un, mm_bin, mm_and, mm_or, mm_ite, mm_slice, mm_call, mm_lc, mm_btup, mm_hall, e_var, e_k, e_gl, e_tup, e_lst, e_un, e_bin, e_and, e_or, e_ite, e_slice, e_call, e_callk, e_lc, e_btup, bt_some, es_nil, es_cons, as_nil, as_cons, o_none, o_some, int_some, j_seq, j_rng, j_zip, zip_tup, j_enum, en_some, s_set', s_setOwn', so_list, s_setN', s_unp', un_some, s_app', ap_some, s_expr', s_ret', s_if', s_for', s_raise', ss_nil, ss_cons, bR_ok, bR_no, shI, shB, shN, eqI, bd_addI, bd_addT, bd_addL, bd_sub, bd_mul, bd_mulL, bd_fdiv, bd_mod, bd_pow, bd_eq, bd_ne, bd_lt, bd_le, bd_gt, bd_ge, bd_gcd, bd_idx, sq_list, sq_tup, if_and, if_or, seq_ite, cr_ite, unD, at_, ixN, intOf, Tg.put, plD, frsD] at hj2 ⊢
        simp [hj2, hat] at hat ⊢
        simp [b_ok, b_er, b_no, fl_ok, fl_er, fl_no, sq_nx, sq_rt, sq_er, sq_bk, sq_ct, sq_no, c_nx, c_rt, c_er, to_ok, to_er, to_no, of_some, of_none, rd_eq, rd_dat, rd_own, ow_eq, ow_own, pu_eq, mm_var, mm_dat, mm_own, mm_mm, mm_scr, ag_eq, ag_some, ag_none, mm_k, mm_gl, mm_tup, mm_lst, mm_un, mm_bin, mm_and, mm_or, mm_ite, mm_slice, mm_call, mm_lc, mm_btup, mm_hall, e_var, e_k, e_gl, e_tup, e_lst, e_un, e_bin, e_and, e_or, e_ite, e_slice, e_call, e_callk, e_lc, e_btup, bt_some, es_nil, es_cons, as_nil, as_cons, o_none, o_some, int_some, j_seq, j_rng, j_zip, zip_tup, j_enum, en_some, s_set', s_setOwn', so_list, s_setN', s_unp', un_some, s_app', ap_some, s_expr', s_ret', s_if', s_for', s_raise', ss_nil, ss_cons, bR_ok, bR_no, shI, shB, shN, eqI, bd_addI, bd_addT, bd_addL, bd_sub, bd_mul, bd_mulL, bd_fdiv, bd_mod, bd_pow, bd_eq, bd_ne, bd_lt, bd_le, bd_gt, bd_ge, bd_gcd, bd_idx, sq_list, sq_tup, if_and, if_or, seq_ite, cr_ite, unD, at_, ixN, intOf, Tg.put, hat, hr]) (by rw [List.length_zip]; omega)
    rw [z, List.map_map]
    rfl
  have hloop := for_app (put := (Tg.one 3).put) (b := evalSs (callF (hdOf qsH) tab (m + 2)) hl [(.app 2 (.call 9 0 [(.lc [5, 6] (.many [5, 6]) (.zip (.bin .idx (.var 0) (.k (.int 1))) (.bin .idx (.var 1) (.k (.int 1)))) none (.call 7 0 [(.var 5), (.bin .idx (.bin .idx (.var 6) (.k (.int 0))) (.var 3))]))]))]) (g := g)
    (fun j : Nat => PyData.int j) (fun j => frD (colSum r.w ps j)) (fun acc (u : Option Sl) => [some (.dat (rowD r)), some (.dat (mapD n ps)), some (.own acc), u, none, none, none]) (List.range n) (fun j hj acc u hacc => by
      have hj' := List.mem_range.mp hj
      refine ⟨[some (.dat (rowD r)), some (.dat (mapD n ps)), some (.own acc), some (.dat (.int j)), none, none, none], some (.dat (.int j)), rfl, ?_⟩
      have ht := cl_eq (tot_bound m r.w ps a b g hw hp hl5 (by omega) (f := fun p => p.1 * colQ j p.2) (fun p hp' => by
        obtain ⟨h1, h2⟩ := zip_mem hp'
        exact (hw _ h1).times (col_bq (hn _ h2) hj' (hp _ h2).1)))
      rw [List.map_map] at ht
      simp [b_ok, b_er, b_no, fl_ok, fl_er, fl_no, sq_nx, sq_rt, sq_er, sq_bk, sq_ct, sq_no, c_nx, c_rt, c_er, to_ok, to_er, to_no, of_some, of_none, rd_eq, rd_dat, rd_own, ow_eq, ow_own, pu_eq, mm_var, mm_dat, mm_own, mm_mm, mm_scr, ag_eq, ag_some, ag_none, mm_k, mm_gl, mm_tup, mm_lst, mm_un, mm_bin, mm_and, mm_or, mm_ite, mm_slice, mm_call, mm_lc, mm_btup, mm_hall, e_var, e_k, e_gl, e_tup, e_lst, e_un, e_bin, e_and, e_or, e_ite, e_slice, e_call, e_callk, e_lc, e_btup, bt_some, es_nil, es_cons, as_nil, as_cons, o_none, o_some, int_some, j_seq, j_rng, j_zip, zip_tup, j_enum, en_some, s_set', s_setOwn', so_list, s_setN', s_unp', un_some, s_app', ap_some, s_expr', s_ret', s_if', s_for', s_raise', ss_nil, ss_cons, bR_ok, bR_no, shI, shB, shN, eqI, bd_addI, bd_addT, bd_addL, bd_sub, bd_mul, bd_mulL, bd_fdiv, bd_mod, bd_pow, bd_eq, bd_ne, bd_lt, bd_le, bd_gt, bd_ge, bd_gcd, bd_idx, sq_list, sq_tup, if_and, if_or, seq_ite, cr_ite, unD, at_, ixN, intOf, Tg.put, seq_row, seq_map, zip_frs, hc j acc none none hj', ht, apA_some hacc, colSum]) [] none (by simp; omega)
  obtain ⟨v, hloop⟩ := hloop
  have hgone := lcA_pure (cf := callF (hdOf qsH) tab (m + 2)) (hl := hl) (own := [5, 6]) (tg := .many [5, 6]) (elt := .call 7 0 [(.var 5), (.bin .idx (.var 6) (.k (.int 1)))]) (ρ := [some (.dat (rowD r)), some (.dat (mapD n ps)), some (.own (List.map (fun j => frD (colSum r.w ps j)) (List.range n))), v, none, none, none]) (g := g)
    (fun p : Rat × (List Rat × Rat) => PyData.tuple [frD p.1, plD p.2]) (fun p => frD (p.1 * p.2.2)) (r.w.zip ps) (fun p hp' => by
      obtain ⟨h1, h2⟩ := zip_mem hp'
      have hr := cl_eq (L_times m p.1 p.2.2 a b g (hw _ h1) (hp _ h2).2 (by omega))
      refine ⟨[some (.dat (rowD r)), some (.dat (mapD n ps)), some (.own (List.map (fun j => frD (colSum r.w ps j)) (List.range n))), v, none, some (.dat (frD p.1)), some (.dat (plD p.2))], rfl, ?_, rfl⟩
      simp [b_ok, b_er, b_no, fl_ok, fl_er, fl_no, sq_nx, sq_rt, sq_er, sq_bk, sq_ct, sq_no, c_nx, c_rt, c_er, to_ok, to_er, to_no, of_some, of_none, rd_eq, rd_dat, rd_own, ow_eq, ow_own, pu_eq, mm_var, mm_dat, mm_own, mm_mm, mm_scr, ag_eq, ag_some, ag_none, mm_k, mm_gl, mm_tup, mm_lst, mm_un, mm_bin, mm_and, mm_or, mm_ite, mm_slice, mm_call, mm_lc, mm_btup, mm_hall, e_var, e_k, e_gl, e_tup, e_lst, e_un, e_bin, e_and, e_or, e_ite, e_slice, e_call, e_callk, e_lc, e_btup, bt_some, es_nil, es_cons, as_nil, as_cons, o_none, o_some, int_some, j_seq, j_rng, j_zip, zip_tup, j_enum, en_some, s_set', s_setOwn', so_list, s_setN', s_unp', un_some, s_app', ap_some, s_expr', s_ret', s_if', s_for', s_raise', ss_nil, ss_cons, bR_ok, bR_no, shI, shB, shN, eqI, bd_addI, bd_addT, bd_addL, bd_sub, bd_mul, bd_mulL, bd_fdiv, bd_mod, bd_pow, bd_eq, bd_ne, bd_lt, bd_le, bd_gt, bd_ge, bd_gcd, bd_idx, sq_list, sq_tup, if_and, if_or, seq_ite, cr_ite, unD, at_, ixN, intOf, Tg.put, seq_pl, hr]) (by rw [List.length_zip]; omega)
  rw [← zips_map frD plD] at hgone
  have ht := cl_eq (tot_bound m r.w ps a b g hw hp hl5 (by omega) (f := fun p => p.1 * p.2.2) (fun p hp' => by
    obtain ⟨h1, h2⟩ := zip_mem hp'
    exact (hw _ h1).times (hp _ h2).2))
  rw [List.map_map] at ht
  simp only [Function.comp_def] at ht
  have hmin := cl_eq (L_minus m r.b (numSum r.w ps) a (1 + (a + b + 1) * 5) g hrb (numSum_bq hw hp hl5) (by omega))
  have hrng : (-1000000 : Int) ≤ n ∧ (n : Int) ≤ 1000000 := by omega
  simp only [List.nil_append] at hloop
  have hcol : rowD (putRow n ps r) = .tuple [.str (kindS r.same), .tuple (List.map (fun j => frD (colSum r.w ps j)) (List.range n)), frD (r.b - numSum r.w ps)] := by
    simp [rowD, putRow, frsD, putW, Function.comp_def]
  rw [hcol]
  simp only [numSum] at hmin ⊢
  simp [b_put_row, b_ok, b_er, b_no, fl_ok, fl_er, fl_no, sq_nx, sq_rt, sq_er, sq_bk, sq_ct, sq_no, c_nx, c_rt, c_er, to_ok, to_er, to_no, of_some, of_none, rd_eq, rd_dat, rd_own, ow_eq, ow_own, pu_eq, mm_var, mm_dat, mm_own, mm_mm, mm_scr, ag_eq, ag_some, ag_none, mm_k, mm_gl, mm_tup, mm_lst, mm_un, mm_bin, mm_and, mm_or, mm_ite, mm_slice, mm_call, mm_lc, mm_btup, mm_hall, e_var, e_k, e_gl, e_tup, e_lst, e_un, e_bin, e_and, e_or, e_ite, e_slice, e_call, e_callk, e_lc, e_btup, bt_some, es_nil, es_cons, as_nil, as_cons, o_none, o_some, int_some, j_seq, j_rng, j_zip, zip_tup, j_enum, en_some, s_set', s_setOwn', so_list, s_setN', s_unp', un_some, s_app', ap_some, s_expr', s_ret', s_if', s_for', s_raise', ss_nil, ss_cons, bR_ok, bR_no, shI, shB, shN, eqI, bd_addI, bd_addT, bd_addL, bd_sub, bd_mul, bd_mulL, bd_fdiv, bd_mod, bd_pow, bd_eq, bd_ne, bd_lt, bd_le, bd_gt, bd_ge, bd_gcd, bd_idx, sq_list, sq_tup, if_and, if_or, seq_ite, cr_ite, unD, at_, ixN, intOf, Tg.put, seq_row, seq_map, zip_frs, rng_int hrng, hloop, hgone, ht, hmin, backS, wipeS]
end Pv

namespace Pv
open PySem L2
/-- how great a lot's numbers are -/
def RsB (a : Nat) (rs : List Row) : Prop := ∀ r ∈ rs, (∀ q ∈ r.w, Bq a q) ∧ Bq a r.b
theorem L_plain_put (m c n : Nat) (rs : List Row) (ps : Mp) (a b : Nat) (g : G) (hr : RsB a rs) (hl : LotOk c rs) (hp : MpB b ps) (hm : MapOk c n ps) (hb : a + b < 1200) : cl (m + 4) 25 [.dat (lotD c rs), .dat (mapD n ps)] g = .ok (lotD n (rs.map (putRow n ps))) g := by
  rw [run (d := ⟨3, b_plain_put, []⟩) rfl]
  generalize HLm (m + 3) _ = hl'
  have hlc := lcA_pure (cf := callF (hdOf qsH) tab (m + 3)) (hl := hl') (own := [2]) (tg := .one 2) (elt := .call 24 0 [.var 2, .var 1]) (ρ := [some (.dat (lotD c rs)), some (.dat (mapD n ps)), none]) (g := g)
    rowD (fun r => rowD (putRow n ps r)) rs (fun r hr' => by
      have z := cl_eq (L_put_row m n r ps a b g (hr r hr').1 (hr r hr').2 hp hm.w hm.n5 (by rw [hl.w r hr']; exact hl.n5) hb)
      refine ⟨[some (.dat (lotD c rs)), some (.dat (mapD n ps)), some (.dat (rowD r))], rfl, ?_, rfl⟩
      simp [b_ok, b_er, b_no, fl_ok, fl_er, fl_no, sq_nx, sq_rt, sq_er, sq_bk, sq_ct, sq_no, c_nx, c_rt, c_er, to_ok, to_er, to_no, of_some, of_none, rd_eq, rd_dat, rd_own, ow_eq, ow_own, pu_eq, mm_var, mm_dat, mm_own, mm_mm, mm_scr, ag_eq, ag_some, ag_none, mm_k, mm_gl, mm_tup, mm_lst, mm_un, mm_bin, mm_and, mm_or, mm_ite, mm_slice, mm_call, mm_lc, mm_btup, mm_hall, e_var, e_k, e_gl, e_tup, e_lst, e_un, e_bin, e_and, e_or, e_ite, e_slice, e_call, e_callk, e_lc, e_btup, bt_some, es_nil, es_cons, as_nil, as_cons, o_none, o_some, int_some, j_seq, j_rng, j_zip, zip_tup, j_enum, en_some, s_set', s_setOwn', so_list, s_setN', s_unp', un_some, s_app', ap_some, s_expr', s_ret', s_if', s_for', s_raise', ss_nil, ss_cons, bR_ok, bR_no, shI, shB, shN, eqI, bd_addI, bd_addT, bd_addL, bd_sub, bd_mul, bd_mulL, bd_fdiv, bd_mod, bd_pow, bd_eq, bd_ne, bd_lt, bd_le, bd_gt, bd_ge, bd_gcd, bd_idx, sq_list, sq_tup, if_and, if_or, seq_ite, cr_ite, unD, at_, ixN, intOf, Tg.put, z]) (by have := hl.r60; omega)
  have e : lotD n (rs.map (putRow n ps)) = .tuple [.int n, .tuple (rs.map fun r => rowD (putRow n ps r))] := by simp [lotD, rowsD, Function.comp_def]
  rw [e]
  simp [b_plain_put, b_ok, b_er, b_no, fl_ok, fl_er, fl_no, sq_nx, sq_rt, sq_er, sq_bk, sq_ct, sq_no, c_nx, c_rt, c_er, to_ok, to_er, to_no, of_some, of_none, rd_eq, rd_dat, rd_own, ow_eq, ow_own, pu_eq, mm_var, mm_dat, mm_own, mm_mm, mm_scr, ag_eq, ag_some, ag_none, mm_k, mm_gl, mm_tup, mm_lst, mm_un, mm_bin, mm_and, mm_or, mm_ite, mm_slice, mm_call, mm_lc, mm_btup, mm_hall, e_var, e_k, e_gl, e_tup, e_lst, e_un, e_bin, e_and, e_or, e_ite, e_slice, e_call, e_callk, e_lc, e_btup, bt_some, es_nil, es_cons, as_nil, as_cons, o_none, o_some, int_some, j_seq, j_rng, j_zip, zip_tup, j_enum, en_some, s_set', s_setOwn', so_list, s_setN', s_unp', un_some, s_app', ap_some, s_expr', s_ret', s_if', s_for', s_raise', ss_nil, ss_cons, bR_ok, bR_no, shI, shB, shN, eqI, bd_addI, bd_addT, bd_addL, bd_sub, bd_mul, bd_mulL, bd_fdiv, bd_mod, bd_pow, bd_eq, bd_ne, bd_lt, bd_le, bd_gt, bd_ge, bd_gcd, bd_idx, sq_list, sq_tup, if_and, if_or, seq_ite, cr_ite, unD, at_, ixN, intOf, Tg.put, seq_lot, seq_map, seq_rows, hlc, backS, wipeS]
theorem L_lot_put (m c n : Nat) (rs : List Row) (ps : Mp) (a b : Nat) (g : G) (hr : RsB a rs) (hl : LotOk c rs) (hp : MpB b ps) (hm : MapOk c n ps) (hb : a + b < 1200) : cl (m + 7) 26 [.dat (lotD c rs), .dat (mapD n ps)] g = .ok (lotD n (rs.map (putRow n ps))) g := by
  rw [run (d := ⟨2, b_lot_put, []⟩) rfl]
  generalize HLm (m + 6) _ = hl'
  have z1 := cl_eq (L_need_lot m c rs g hl)
  have z2 := cl_eq (L_need_map (m + 1) c n ps g hm)
  have z3 := cl_eq (L_plain_put (m + 2) c n rs ps a b g hr hl hp hm hb)
  simp [b_lot_put, b_ok, b_er, b_no, fl_ok, fl_er, fl_no, sq_nx, sq_rt, sq_er, sq_bk, sq_ct, sq_no, c_nx, c_rt, c_er, to_ok, to_er, to_no, of_some, of_none, rd_eq, rd_dat, rd_own, ow_eq, ow_own, pu_eq, mm_var, mm_dat, mm_own, mm_mm, mm_scr, ag_eq, ag_some, ag_none, mm_k, mm_gl, mm_tup, mm_lst, mm_un, mm_bin, mm_and, mm_or, mm_ite, mm_slice, mm_call, mm_lc, mm_btup, mm_hall, e_var, e_k, e_gl, e_tup, e_lst, e_un, e_bin, e_and, e_or, e_ite, e_slice, e_call, e_callk, e_lc, e_btup, bt_some, es_nil, es_cons, as_nil, as_cons, o_none, o_some, int_some, j_seq, j_rng, j_zip, zip_tup, j_enum, en_some, s_set', s_setOwn', so_list, s_setN', s_unp', un_some, s_app', ap_some, s_expr', s_ret', s_if', s_for', s_raise', ss_nil, ss_cons, bR_ok, bR_no, shI, shB, shN, eqI, bd_addI, bd_addT, bd_addL, bd_sub, bd_mul, bd_mulL, bd_fdiv, bd_mod, bd_pow, bd_eq, bd_ne, bd_lt, bd_le, bd_gt, bd_ge, bd_gcd, bd_idx, sq_list, sq_tup, if_and, if_or, seq_ite, cr_ite, unD, at_, ixN, intOf, Tg.put, seq_lot, z1, z2, z3]
theorem L_lot_put_bad (m c : Nat) (rs : List Row) (d e : D) (g : G) (hl : LotOk c rs) (h : cl (m + 6) 23 [.dat (.int c), .dat d] g = .er 4 e g) : cl (m + 7) 26 [.dat (lotD c rs), .dat d] g = .er 4 e g := by
  rw [run (d := ⟨2, b_lot_put, []⟩) rfl]
  generalize HLm (m + 6) _ = hl'
  have z1 := cl_eq (L_need_lot m c rs g hl)
  have z2 := cl_eq h
  simp [b_lot_put, b_ok, b_er, b_no, fl_ok, fl_er, fl_no, sq_nx, sq_rt, sq_er, sq_bk, sq_ct, sq_no, c_nx, c_rt, c_er, to_ok, to_er, to_no, of_some, of_none, rd_eq, rd_dat, rd_own, ow_eq, ow_own, pu_eq, mm_var, mm_dat, mm_own, mm_mm, mm_scr, ag_eq, ag_some, ag_none, mm_k, mm_gl, mm_tup, mm_lst, mm_un, mm_bin, mm_and, mm_or, mm_ite, mm_slice, mm_call, mm_lc, mm_btup, mm_hall, e_var, e_k, e_gl, e_tup, e_lst, e_un, e_bin, e_and, e_or, e_ite, e_slice, e_call, e_callk, e_lc, e_btup, bt_some, es_nil, es_cons, as_nil, as_cons, o_none, o_some, int_some, j_seq, j_rng, j_zip, zip_tup, j_enum, en_some, s_set', s_setOwn', so_list, s_setN', s_unp', un_some, s_app', ap_some, s_expr', s_ret', s_if', s_for', s_raise', ss_nil, ss_cons, bR_ok, bR_no, shI, shB, shN, eqI, bd_addI, bd_addT, bd_addL, bd_sub, bd_mul, bd_mulL, bd_fdiv, bd_mod, bd_pow, bd_eq, bd_ne, bd_lt, bd_le, bd_gt, bd_ge, bd_gcd, bd_idx, sq_list, sq_tup, if_and, if_or, seq_ite, cr_ite, unD, at_, ixN, intOf, Tg.put, seq_lot, z1, z2]
/-! ### images -/
def imQ (ps : Mp) (x : List Rat) : List Rat := ps.map fun p => dot p.1 x + p.2
theorem L_image (m c n : Nat) (ps : Mp) (x : List Rat) (a b : Nat) (g : G) (hp : MpB a ps) (hm : MapOk c n ps) (hx : ∀ q ∈ x, Bq b q) (hb : a + b < 1200) : cl (m + 4) 27 [.dat (mapD n ps), .dat (frsD x)] g = .ok (frsD (imQ ps x)) g := by
  rw [run (d := ⟨4, b_plain_image, []⟩) rfl]
  generalize HLm (m + 3) _ = hl'
  have hlc := lcA_pure (cf := callF (hdOf qsH) tab (m + 3)) (hl := hl') (own := [2, 3]) (tg := .many [2, 3]) (elt := .call 5 0 [(.call 14 0 [(.var 2), (.var 1)]), (.var 3)]) (ρ := [some (.dat (mapD n ps)), some (.dat (frsD x)), none, none]) (g := g)
    plD (fun p => frD (dot p.1 x + p.2)) ps (fun p hp' => by
      have hl5 : p.1.length ≤ 5 := by rw [hm.w p hp']; exact hm.n5
      have z := cl_eq (L_value m p.1 x a b 5 g (hp p hp').1 hx hl5 (by omega) (by omega) (by omega))
      have z2 := cl_eq (L_plus (m + 1) (dot p.1 x) p.2 (1 + (a + b + 1) * 5) a g (dot_bq (hp p hp').1 hx hl5) (hp p hp').2 (by omega))
      refine ⟨[some (.dat (mapD n ps)), some (.dat (frsD x)), some (.dat (frsD p.1)), some (.dat (frD p.2))], rfl, ?_, rfl⟩
      simp [b_ok, b_er, b_no, fl_ok, fl_er, fl_no, sq_nx, sq_rt, sq_er, sq_bk, sq_ct, sq_no, c_nx, c_rt, c_er, to_ok, to_er, to_no, of_some, of_none, rd_eq, rd_dat, rd_own, ow_eq, ow_own, pu_eq, mm_var, mm_dat, mm_own, mm_mm, mm_scr, ag_eq, ag_some, ag_none, mm_k, mm_gl, mm_tup, mm_lst, mm_un, mm_bin, mm_and, mm_or, mm_ite, mm_slice, mm_call, mm_lc, mm_btup, mm_hall, e_var, e_k, e_gl, e_tup, e_lst, e_un, e_bin, e_and, e_or, e_ite, e_slice, e_call, e_callk, e_lc, e_btup, bt_some, es_nil, es_cons, as_nil, as_cons, o_none, o_some, int_some, j_seq, j_rng, j_zip, zip_tup, j_enum, en_some, s_set', s_setOwn', so_list, s_setN', s_unp', un_some, s_app', ap_some, s_expr', s_ret', s_if', s_for', s_raise', ss_nil, ss_cons, bR_ok, bR_no, shI, shB, shN, eqI, bd_addI, bd_addT, bd_addL, bd_sub, bd_mul, bd_mulL, bd_fdiv, bd_mod, bd_pow, bd_eq, bd_ne, bd_lt, bd_le, bd_gt, bd_ge, bd_gcd, bd_idx, sq_list, sq_tup, if_and, if_or, seq_ite, cr_ite, unD, at_, ixN, intOf, Tg.put, z, z2]) (by rw [hm.len]; have := hm.c5; omega)
  have e : frsD (imQ ps x) = .tuple (ps.map fun p => frD (dot p.1 x + p.2)) := by simp [frsD, imQ, Function.comp_def]
  rw [e]
  simp [b_plain_image, b_ok, b_er, b_no, fl_ok, fl_er, fl_no, sq_nx, sq_rt, sq_er, sq_bk, sq_ct, sq_no, c_nx, c_rt, c_er, to_ok, to_er, to_no, of_some, of_none, rd_eq, rd_dat, rd_own, ow_eq, ow_own, pu_eq, mm_var, mm_dat, mm_own, mm_mm, mm_scr, ag_eq, ag_some, ag_none, mm_k, mm_gl, mm_tup, mm_lst, mm_un, mm_bin, mm_and, mm_or, mm_ite, mm_slice, mm_call, mm_lc, mm_btup, mm_hall, e_var, e_k, e_gl, e_tup, e_lst, e_un, e_bin, e_and, e_or, e_ite, e_slice, e_call, e_callk, e_lc, e_btup, bt_some, es_nil, es_cons, as_nil, as_cons, o_none, o_some, int_some, j_seq, j_rng, j_zip, zip_tup, j_enum, en_some, s_set', s_setOwn', so_list, s_setN', s_unp', un_some, s_app', ap_some, s_expr', s_ret', s_if', s_for', s_raise', ss_nil, ss_cons, bR_ok, bR_no, shI, shB, shN, eqI, bd_addI, bd_addT, bd_addL, bd_sub, bd_mul, bd_mulL, bd_fdiv, bd_mod, bd_pow, bd_eq, bd_ne, bd_lt, bd_le, bd_gt, bd_ge, bd_gcd, bd_idx, sq_list, sq_tup, if_and, if_or, seq_ite, cr_ite, unD, at_, ixN, intOf, Tg.put, seq_map, hlc, backS, wipeS]
theorem L_map_image (m c n : Nat) (rs : List Row) (ps : Mp) (x : List Rat) (a b : Nat) (g : G) (hl : LotOk c rs) (hp : MpB a ps) (hm : MapOk c n ps) (hx : ∀ q ∈ x, Bq b q) (hxl : x.length = n) (hb : a + b < 1200) : cl (m + 7) 28 [.dat (lotD c rs), .dat (mapD n ps), .dat (frsD x)] g = .ok (frsD (imQ ps x)) g := by
  rw [run (d := ⟨3, b_map_image, []⟩) rfl]
  generalize HLm (m + 6) _ = hl'
  have z1 := cl_eq (L_need_lot m c rs g hl)
  have z2 := cl_eq (L_need_map (m + 1) c n ps g hm)
  have z3 := cl_eq (L_need_point (m + 2) n x g hxl)
  have z4 := cl_eq (L_image (m + 2) c n ps x a b g hp hm hx hb)
  simp [b_map_image, b_ok, b_er, b_no, fl_ok, fl_er, fl_no, sq_nx, sq_rt, sq_er, sq_bk, sq_ct, sq_no, c_nx, c_rt, c_er, to_ok, to_er, to_no, of_some, of_none, rd_eq, rd_dat, rd_own, ow_eq, ow_own, pu_eq, mm_var, mm_dat, mm_own, mm_mm, mm_scr, ag_eq, ag_some, ag_none, mm_k, mm_gl, mm_tup, mm_lst, mm_un, mm_bin, mm_and, mm_or, mm_ite, mm_slice, mm_call, mm_lc, mm_btup, mm_hall, e_var, e_k, e_gl, e_tup, e_lst, e_un, e_bin, e_and, e_or, e_ite, e_slice, e_call, e_callk, e_lc, e_btup, bt_some, es_nil, es_cons, as_nil, as_cons, o_none, o_some, int_some, j_seq, j_rng, j_zip, zip_tup, j_enum, en_some, s_set', s_setOwn', so_list, s_setN', s_unp', un_some, s_app', ap_some, s_expr', s_ret', s_if', s_for', s_raise', ss_nil, ss_cons, bR_ok, bR_no, shI, shB, shN, eqI, bd_addI, bd_addT, bd_addL, bd_sub, bd_mul, bd_mulL, bd_fdiv, bd_mod, bd_pow, bd_eq, bd_ne, bd_lt, bd_le, bd_gt, bd_ge, bd_gcd, bd_idx, sq_list, sq_tup, if_and, if_or, seq_ite, cr_ite, unD, at_, ixN, intOf, Tg.put, seq_lot, seq_map, z1, z2, z3, z4]
theorem L_map_image_form (m c n : Nat) (rs : List Row) (d x e : D) (g : G) (hl : LotOk c rs) (h : cl (m + 6) 23 [.dat (.int c), .dat d] g = .er 4 e g) : cl (m + 7) 28 [.dat (lotD c rs), .dat d, .dat x] g = .er 4 e g := by
  rw [run (d := ⟨3, b_map_image, []⟩) rfl]
  generalize HLm (m + 6) _ = hl'
  have z1 := cl_eq (L_need_lot m c rs g hl)
  have z2 := cl_eq h
  simp [b_map_image, b_ok, b_er, b_no, fl_ok, fl_er, fl_no, sq_nx, sq_rt, sq_er, sq_bk, sq_ct, sq_no, c_nx, c_rt, c_er, to_ok, to_er, to_no, of_some, of_none, rd_eq, rd_dat, rd_own, ow_eq, ow_own, pu_eq, mm_var, mm_dat, mm_own, mm_mm, mm_scr, ag_eq, ag_some, ag_none, mm_k, mm_gl, mm_tup, mm_lst, mm_un, mm_bin, mm_and, mm_or, mm_ite, mm_slice, mm_call, mm_lc, mm_btup, mm_hall, e_var, e_k, e_gl, e_tup, e_lst, e_un, e_bin, e_and, e_or, e_ite, e_slice, e_call, e_callk, e_lc, e_btup, bt_some, es_nil, es_cons, as_nil, as_cons, o_none, o_some, int_some, j_seq, j_rng, j_zip, zip_tup, j_enum, en_some, s_set', s_setOwn', so_list, s_setN', s_unp', un_some, s_app', ap_some, s_expr', s_ret', s_if', s_for', s_raise', ss_nil, ss_cons, bR_ok, bR_no, shI, shB, shN, eqI, bd_addI, bd_addT, bd_addL, bd_sub, bd_mul, bd_mulL, bd_fdiv, bd_mod, bd_pow, bd_eq, bd_ne, bd_lt, bd_le, bd_gt, bd_ge, bd_gcd, bd_idx, sq_list, sq_tup, if_and, if_or, seq_ite, cr_ite, unD, at_, ixN, intOf, Tg.put, seq_lot, z1, z2]
theorem L_map_image_point (m c n : Nat) (rs : List Row) (ps : Mp) (x : D) (g : G) (hl : LotOk c rs) (hm : MapOk c n ps) (h : rowB x (some n) = false) : cl (m + 7) 28 [.dat (lotD c rs), .dat (mapD n ps), .dat x] g = .er 2 (.str ("form" : Str)) g := by
  rw [run (d := ⟨3, b_map_image, []⟩) rfl]
  generalize HLm (m + 6) _ = hl'
  have z1 := cl_eq (L_need_lot m c rs g hl)
  have z2 := cl_eq (L_need_map (m + 1) c n ps g hm)
  have z3 := cl_eq (L_need_point_bad (m + 3) n x g h)
  simp [b_map_image, b_ok, b_er, b_no, fl_ok, fl_er, fl_no, sq_nx, sq_rt, sq_er, sq_bk, sq_ct, sq_no, c_nx, c_rt, c_er, to_ok, to_er, to_no, of_some, of_none, rd_eq, rd_dat, rd_own, ow_eq, ow_own, pu_eq, mm_var, mm_dat, mm_own, mm_mm, mm_scr, ag_eq, ag_some, ag_none, mm_k, mm_gl, mm_tup, mm_lst, mm_un, mm_bin, mm_and, mm_or, mm_ite, mm_slice, mm_call, mm_lc, mm_btup, mm_hall, e_var, e_k, e_gl, e_tup, e_lst, e_un, e_bin, e_and, e_or, e_ite, e_slice, e_call, e_callk, e_lc, e_btup, bt_some, es_nil, es_cons, as_nil, as_cons, o_none, o_some, int_some, j_seq, j_rng, j_zip, zip_tup, j_enum, en_some, s_set', s_setOwn', so_list, s_setN', s_unp', un_some, s_app', ap_some, s_expr', s_ret', s_if', s_for', s_raise', ss_nil, ss_cons, bR_ok, bR_no, shI, shB, shN, eqI, bd_addI, bd_addT, bd_addL, bd_sub, bd_mul, bd_mulL, bd_fdiv, bd_mod, bd_pow, bd_eq, bd_ne, bd_lt, bd_le, bd_gt, bd_ge, bd_gcd, bd_idx, sq_list, sq_tup, if_and, if_or, seq_ite, cr_ite, unD, at_, ixN, intOf, Tg.put, seq_lot, seq_map, z1, z2, z3]
/-! ### inside -/
def holdB (r : Row) (x : List Rat) : Bool := if r.same then decide (dot r.w x = r.b) else (decide (dot r.w x < r.b) || decide (dot r.w x = r.b))
theorem L_holds (m : Nat) (r : Row) (x : List Rat) (a b : Nat) (g : G) (hw : ∀ q ∈ r.w, Bq a q) (hrb : Bq a r.b) (hx : ∀ q ∈ x, Bq b q) (hl5 : r.w.length ≤ 5) (hb : a + b < 1200) : cl (m + 4) 15 [.dat (rowD r), .dat (frsD x)] g = .ok (.bool (holdB r x)) g := by
  rw [run (d := ⟨3, b_holds_at, []⟩) rfl]
  generalize HLm (m + 3) _ = hl'
  have z := cl_eq (L_value m r.w x a b 5 g hw hx hl5 (by omega) (by omega) (by omega))
  have z2 := cl_eq (L_less (m + 2) (dot r.w x) r.b (1 + (a + b + 1) * 5) a g (dot_bq hw hx hl5) hrb (by omega))
  have e1 : ∀ (s : Bool), (R.ofOpt (binD .eq (.str (kindS s)) (.str ("same" : Str)))) = (fun st : Sg => R.ok (.bool s) st) := fun s => by funext st; simp [b_ok, b_er, b_no, fl_ok, fl_er, fl_no, sq_nx, sq_rt, sq_er, sq_bk, sq_ct, sq_no, c_nx, c_rt, c_er, to_ok, to_er, to_no, of_some, of_none, rd_eq, rd_dat, rd_own, ow_eq, ow_own, pu_eq, mm_var, mm_dat, mm_own, mm_mm, mm_scr, ag_eq, ag_some, ag_none, mm_k, mm_gl, mm_tup, mm_lst, mm_un, mm_bin, mm_and, mm_or, mm_ite, mm_slice, mm_call, mm_lc, mm_btup, mm_hall, e_var, e_k, e_gl, e_tup, e_lst, e_un, e_bin, e_and, e_or, e_ite, e_slice, e_call, e_callk, e_lc, e_btup, bt_some, es_nil, es_cons, as_nil, as_cons, o_none, o_some, int_some, j_seq, j_rng, j_zip, zip_tup, j_enum, en_some, s_set', s_setOwn', so_list, s_setN', s_unp', un_some, s_app', ap_some, s_expr', s_ret', s_if', s_for', s_raise', ss_nil, ss_cons, bR_ok, bR_no, shI, shB, shN, eqI, bd_addI, bd_addT, bd_addL, bd_sub, bd_mul, bd_mulL, bd_fdiv, bd_mod, bd_pow, bd_eq, bd_ne, bd_lt, bd_le, bd_gt, bd_ge, bd_gcd, bd_idx, sq_list, sq_tup, if_and, if_or, seq_ite, cr_ite, unD, at_, ixN, intOf, Tg.put, kind_sh, sh_same, kind_same]
  cases hs : r.same with
  | true =>
    have k := kind_same true
    have k2 := kind_sh true
    simp [b_holds_at, b_ok, b_er, b_no, fl_ok, fl_er, fl_no, sq_nx, sq_rt, sq_er, sq_bk, sq_ct, sq_no, c_nx, c_rt, c_er, to_ok, to_er, to_no, of_some, of_none, rd_eq, rd_dat, rd_own, ow_eq, ow_own, pu_eq, mm_var, mm_dat, mm_own, mm_mm, mm_scr, ag_eq, ag_some, ag_none, mm_k, mm_gl, mm_tup, mm_lst, mm_un, mm_bin, mm_and, mm_or, mm_ite, mm_slice, mm_call, mm_lc, mm_btup, mm_hall, e_var, e_k, e_gl, e_tup, e_lst, e_un, e_bin, e_and, e_or, e_ite, e_slice, e_call, e_callk, e_lc, e_btup, bt_some, es_nil, es_cons, as_nil, as_cons, o_none, o_some, int_some, j_seq, j_rng, j_zip, zip_tup, j_enum, en_some, s_set', s_setOwn', so_list, s_setN', s_unp', un_some, s_app', ap_some, s_expr', s_ret', s_if', s_for', s_raise', ss_nil, ss_cons, bR_ok, bR_no, shI, shB, shN, eqI, bd_addI, bd_addT, bd_addL, bd_sub, bd_mul, bd_mulL, bd_fdiv, bd_mod, bd_pow, bd_eq, bd_ne, bd_lt, bd_le, bd_gt, bd_ge, bd_gcd, bd_idx, sq_list, sq_tup, if_and, if_or, seq_ite, cr_ite, unD, at_, ixN, intOf, Tg.put, seq_row, z, hs, k, k2, sh_same, sh_frD, eq_frD, holdB]
  | false =>
    have k := kind_same false
    have k2 := kind_sh false
    have k3 := kind_most false
    simp [b_holds_at, b_ok, b_er, b_no, fl_ok, fl_er, fl_no, sq_nx, sq_rt, sq_er, sq_bk, sq_ct, sq_no, c_nx, c_rt, c_er, to_ok, to_er, to_no, of_some, of_none, rd_eq, rd_dat, rd_own, ow_eq, ow_own, pu_eq, mm_var, mm_dat, mm_own, mm_mm, mm_scr, ag_eq, ag_some, ag_none, mm_k, mm_gl, mm_tup, mm_lst, mm_un, mm_bin, mm_and, mm_or, mm_ite, mm_slice, mm_call, mm_lc, mm_btup, mm_hall, e_var, e_k, e_gl, e_tup, e_lst, e_un, e_bin, e_and, e_or, e_ite, e_slice, e_call, e_callk, e_lc, e_btup, bt_some, es_nil, es_cons, as_nil, as_cons, o_none, o_some, int_some, j_seq, j_rng, j_zip, zip_tup, j_enum, en_some, s_set', s_setOwn', so_list, s_setN', s_unp', un_some, s_app', ap_some, s_expr', s_ret', s_if', s_for', s_raise', ss_nil, ss_cons, bR_ok, bR_no, shI, shB, shN, eqI, bd_addI, bd_addT, bd_addL, bd_sub, bd_mul, bd_mulL, bd_fdiv, bd_mod, bd_pow, bd_eq, bd_ne, bd_lt, bd_le, bd_gt, bd_ge, bd_gcd, bd_idx, sq_list, sq_tup, if_and, if_or, seq_ite, cr_ite, unD, at_, ixN, intOf, Tg.put, seq_row, z, z2, hs, k, k2, k3, sh_same, sh_most, sh_frD, eq_frD, holdB]
theorem L_all_hold (m c : Nat) (rs : List Row) (x : List Rat) (a b : Nat) (g : G) (hr : RsB a rs) (hl : LotOk c rs) (hx : ∀ q ∈ x, Bq b q) (hb : a + b < 1200) : cl (m + 5) 20 [.dat (rowsD rs), .dat (frsD x)] g = .ok (.bool (rs.all fun r => holdB r x)) g := by
  rw [run (d := ⟨3, b_all_hold, []⟩) rfl]
  generalize HLm (m + 4) _ = hl'
  have hlc := lcA_pure (cf := callF (hdOf qsH) tab (m + 4)) (hl := hl') (own := [2]) (tg := .one 2) (elt := .call 15 0 [.var 2, .var 1]) (ρ := [some (.dat (rowsD rs)), some (.dat (frsD x)), none]) (g := g)
    rowD (fun r => .bool (holdB r x)) rs (fun r hr' => by
      have z := cl_eq (L_holds m r x a b g (hr r hr').1 (hr r hr').2 hx (by rw [hl.w r hr']; exact hl.n5) hb)
      refine ⟨[some (.dat (rowsD rs)), some (.dat (frsD x)), some (.dat (rowD r))], rfl, ?_, rfl⟩
      simp [b_ok, b_er, b_no, fl_ok, fl_er, fl_no, sq_nx, sq_rt, sq_er, sq_bk, sq_ct, sq_no, c_nx, c_rt, c_er, to_ok, to_er, to_no, of_some, of_none, rd_eq, rd_dat, rd_own, ow_eq, ow_own, pu_eq, mm_var, mm_dat, mm_own, mm_mm, mm_scr, ag_eq, ag_some, ag_none, mm_k, mm_gl, mm_tup, mm_lst, mm_un, mm_bin, mm_and, mm_or, mm_ite, mm_slice, mm_call, mm_lc, mm_btup, mm_hall, e_var, e_k, e_gl, e_tup, e_lst, e_un, e_bin, e_and, e_or, e_ite, e_slice, e_call, e_callk, e_lc, e_btup, bt_some, es_nil, es_cons, as_nil, as_cons, o_none, o_some, int_some, j_seq, j_rng, j_zip, zip_tup, j_enum, en_some, s_set', s_setOwn', so_list, s_setN', s_unp', un_some, s_app', ap_some, s_expr', s_ret', s_if', s_for', s_raise', ss_nil, ss_cons, bR_ok, bR_no, shI, shB, shN, eqI, bd_addI, bd_addT, bd_addL, bd_sub, bd_mul, bd_mulL, bd_fdiv, bd_mod, bd_pow, bd_eq, bd_ne, bd_lt, bd_le, bd_gt, bd_ge, bd_gcd, bd_idx, sq_list, sq_tup, if_and, if_or, seq_ite, cr_ite, unD, at_, ixN, intOf, Tg.put, z]) (by have := hl.r60; omega)
  simp [b_all_hold, b_ok, b_er, b_no, fl_ok, fl_er, fl_no, sq_nx, sq_rt, sq_er, sq_bk, sq_ct, sq_no, c_nx, c_rt, c_er, to_ok, to_er, to_no, of_some, of_none, rd_eq, rd_dat, rd_own, ow_eq, ow_own, pu_eq, mm_var, mm_dat, mm_own, mm_mm, mm_scr, ag_eq, ag_some, ag_none, mm_k, mm_gl, mm_tup, mm_lst, mm_un, mm_bin, mm_and, mm_or, mm_ite, mm_slice, mm_call, mm_lc, mm_btup, mm_hall, e_var, e_k, e_gl, e_tup, e_lst, e_un, e_bin, e_and, e_or, e_ite, e_slice, e_call, e_callk, e_lc, e_btup, bt_some, es_nil, es_cons, as_nil, as_cons, o_none, o_some, int_some, j_seq, j_rng, j_zip, zip_tup, j_enum, en_some, s_set', s_setOwn', so_list, s_setN', s_unp', un_some, s_app', ap_some, s_expr', s_ret', s_if', s_for', s_raise', ss_nil, ss_cons, bR_ok, bR_no, shI, shB, shN, eqI, bd_addI, bd_addT, bd_addL, bd_sub, bd_mul, bd_mulL, bd_fdiv, bd_mod, bd_pow, bd_eq, bd_ne, bd_lt, bd_le, bd_gt, bd_ge, bd_gcd, bd_idx, sq_list, sq_tup, if_and, if_or, seq_ite, cr_ite, unD, at_, ixN, intOf, Tg.put, seq_rows, hlc, backS, wipeS, boolsD_map]
theorem L_inside (m c : Nat) (rs : List Row) (x : List Rat) (a b : Nat) (g : G) (hr : RsB a rs) (hl : LotOk c rs) (hx : ∀ q ∈ x, Bq b q) (hxl : x.length = c) (hb : a + b < 1200) : cl (m + 7) 21 [.dat (lotD c rs), .dat (frsD x)] g = .ok (.bool (rs.all fun r => holdB r x)) g := by
  rw [run (d := ⟨2, b_is_inside, []⟩) rfl]
  generalize HLm (m + 6) _ = hl'
  have z1 := cl_eq (L_need_mixed m c rs g hl)
  have z2 := cl_eq (L_need_point (m + 2) c x g hxl)
  have z3 := cl_eq (L_all_hold (m + 1) c rs x a b g hr hl hx hb)
  simp [b_is_inside, b_ok, b_er, b_no, fl_ok, fl_er, fl_no, sq_nx, sq_rt, sq_er, sq_bk, sq_ct, sq_no, c_nx, c_rt, c_er, to_ok, to_er, to_no, of_some, of_none, rd_eq, rd_dat, rd_own, ow_eq, ow_own, pu_eq, mm_var, mm_dat, mm_own, mm_mm, mm_scr, ag_eq, ag_some, ag_none, mm_k, mm_gl, mm_tup, mm_lst, mm_un, mm_bin, mm_and, mm_or, mm_ite, mm_slice, mm_call, mm_lc, mm_btup, mm_hall, e_var, e_k, e_gl, e_tup, e_lst, e_un, e_bin, e_and, e_or, e_ite, e_slice, e_call, e_callk, e_lc, e_btup, bt_some, es_nil, es_cons, as_nil, as_cons, o_none, o_some, int_some, j_seq, j_rng, j_zip, zip_tup, j_enum, en_some, s_set', s_setOwn', so_list, s_setN', s_unp', un_some, s_app', ap_some, s_expr', s_ret', s_if', s_for', s_raise', ss_nil, ss_cons, bR_ok, bR_no, shI, shB, shN, eqI, bd_addI, bd_addT, bd_addL, bd_sub, bd_mul, bd_mulL, bd_fdiv, bd_mod, bd_pow, bd_eq, bd_ne, bd_lt, bd_le, bd_gt, bd_ge, bd_gcd, bd_idx, sq_list, sq_tup, if_and, if_or, seq_ite, cr_ite, unD, at_, ixN, intOf, Tg.put, seq_lot, z1, z2, z3]
end Pv

namespace Pv
open PySem L2
def shRow (x : List Rat) (r : Row) : Row := ⟨r.same, r.w, r.b + dot r.w x⟩
def tmRow (f : Rat) (r : Row) : Row := ⟨r.same, r.w, r.b * f⟩
def tnRow (r : Row) : Row := ⟨r.same, r.w.map fun q => -q, r.b⟩
theorem L_shifted0 (m c : Nat) (rs : List Row) (x : List Rat) (a b : Nat) (g : G) (hr : RsB a rs) (hl : LotOk c rs) (hx : ∀ q ∈ x, Bq b q) (hb : a + b < 1200) : cl (m + 4) 29 [.dat (lotD c rs), .dat (frsD x)] g = .ok (lotD c (rs.map (shRow x))) g := by
  rw [run (d := ⟨6, b_plain_shifted, []⟩) rfl]
  generalize HLm (m + 3) _ = hl'
  have hlc := lcA_pure (cf := callF (hdOf qsH) tab (m + 3)) (hl := hl') (own := [3, 4, 5]) (tg := .many [3, 4, 5]) (elt := .tup [(.var 3), (.var 4), (.call 5 0 [(.var 5), (.call 14 0 [(.var 4), (.var 1)])])]) (ρ := [some (.dat (lotD c rs)), some (.dat (frsD x)), none, none, none, none]) (g := g)
    rowD (fun r => rowD (shRow x r)) rs (fun r hr' => by
      have hl5 : r.w.length ≤ 5 := by rw [hl.w r hr']; exact hl.n5
      have z := cl_eq (L_value m r.w x a b 5 g (hr r hr').1 hx hl5 (by omega) (by omega) (by omega))
      have z2 := cl_eq (L_plus (m + 1) r.b (dot r.w x) a (1 + (a + b + 1) * 5) g (hr r hr').2 (dot_bq (hr r hr').1 hx hl5) (by omega))
      refine ⟨[some (.dat (lotD c rs)), some (.dat (frsD x)), none, some (.dat (.str (kindS r.same))), some (.dat (frsD r.w)), some (.dat (frD r.b))], rfl, ?_, rfl⟩
      have e : rowD (shRow x r) = .tuple [.str (kindS r.same), frsD r.w, frD (r.b + dot r.w x)] := rfl
      rw [e]
      simp [b_ok, b_er, b_no, fl_ok, fl_er, fl_no, sq_nx, sq_rt, sq_er, sq_bk, sq_ct, sq_no, c_nx, c_rt, c_er, to_ok, to_er, to_no, of_some, of_none, rd_eq, rd_dat, rd_own, ow_eq, ow_own, pu_eq, mm_var, mm_dat, mm_own, mm_mm, mm_scr, ag_eq, ag_some, ag_none, mm_k, mm_gl, mm_tup, mm_lst, mm_un, mm_bin, mm_and, mm_or, mm_ite, mm_slice, mm_call, mm_lc, mm_btup, mm_hall, e_var, e_k, e_gl, e_tup, e_lst, e_un, e_bin, e_and, e_or, e_ite, e_slice, e_call, e_callk, e_lc, e_btup, bt_some, es_nil, es_cons, as_nil, as_cons, o_none, o_some, int_some, j_seq, j_rng, j_zip, zip_tup, j_enum, en_some, s_set', s_setOwn', so_list, s_setN', s_unp', un_some, s_app', ap_some, s_expr', s_ret', s_if', s_for', s_raise', ss_nil, ss_cons, bR_ok, bR_no, shI, shB, shN, eqI, bd_addI, bd_addT, bd_addL, bd_sub, bd_mul, bd_mulL, bd_fdiv, bd_mod, bd_pow, bd_eq, bd_ne, bd_lt, bd_le, bd_gt, bd_ge, bd_gcd, bd_idx, sq_list, sq_tup, if_and, if_or, seq_ite, cr_ite, unD, at_, ixN, intOf, Tg.put, z, z2]) (by have := hl.r60; omega)
  have e : lotD c (rs.map (shRow x)) = .tuple [.int c, .tuple (rs.map fun r => rowD (shRow x r))] := by simp [lotD, rowsD, Function.comp_def]
  rw [e]
  simp [b_plain_shifted, b_ok, b_er, b_no, fl_ok, fl_er, fl_no, sq_nx, sq_rt, sq_er, sq_bk, sq_ct, sq_no, c_nx, c_rt, c_er, to_ok, to_er, to_no, of_some, of_none, rd_eq, rd_dat, rd_own, ow_eq, ow_own, pu_eq, mm_var, mm_dat, mm_own, mm_mm, mm_scr, ag_eq, ag_some, ag_none, mm_k, mm_gl, mm_tup, mm_lst, mm_un, mm_bin, mm_and, mm_or, mm_ite, mm_slice, mm_call, mm_lc, mm_btup, mm_hall, e_var, e_k, e_gl, e_tup, e_lst, e_un, e_bin, e_and, e_or, e_ite, e_slice, e_call, e_callk, e_lc, e_btup, bt_some, es_nil, es_cons, as_nil, as_cons, o_none, o_some, int_some, j_seq, j_rng, j_zip, zip_tup, j_enum, en_some, s_set', s_setOwn', so_list, s_setN', s_unp', un_some, s_app', ap_some, s_expr', s_ret', s_if', s_for', s_raise', ss_nil, ss_cons, bR_ok, bR_no, shI, shB, shN, eqI, bd_addI, bd_addT, bd_addL, bd_sub, bd_mul, bd_mulL, bd_fdiv, bd_mod, bd_pow, bd_eq, bd_ne, bd_lt, bd_le, bd_gt, bd_ge, bd_gcd, bd_idx, sq_list, sq_tup, if_and, if_or, seq_ite, cr_ite, unD, at_, ixN, intOf, Tg.put, seq_lot, seq_rows, hlc, backS, wipeS]
theorem L_shifted (m c : Nat) (rs : List Row) (x : List Rat) (a b : Nat) (g : G) (hr : RsB a rs) (hl : LotOk c rs) (hx : ∀ q ∈ x, Bq b q) (hxl : x.length = c) (hb : a + b < 1200) : cl (m + 7) 30 [.dat (lotD c rs), .dat (frsD x)] g = .ok (lotD c (rs.map (shRow x))) g := by
  rw [run (d := ⟨2, b_lot_shifted, []⟩) rfl]
  generalize HLm (m + 6) _ = hl'
  have z1 := cl_eq (L_need_lot m c rs g hl)
  have z2 := cl_eq (L_need_point (m + 2) c x g hxl)
  have z3 := cl_eq (L_shifted0 (m + 2) c rs x a b g hr hl hx hb)
  simp [b_lot_shifted, b_ok, b_er, b_no, fl_ok, fl_er, fl_no, sq_nx, sq_rt, sq_er, sq_bk, sq_ct, sq_no, c_nx, c_rt, c_er, to_ok, to_er, to_no, of_some, of_none, rd_eq, rd_dat, rd_own, ow_eq, ow_own, pu_eq, mm_var, mm_dat, mm_own, mm_mm, mm_scr, ag_eq, ag_some, ag_none, mm_k, mm_gl, mm_tup, mm_lst, mm_un, mm_bin, mm_and, mm_or, mm_ite, mm_slice, mm_call, mm_lc, mm_btup, mm_hall, e_var, e_k, e_gl, e_tup, e_lst, e_un, e_bin, e_and, e_or, e_ite, e_slice, e_call, e_callk, e_lc, e_btup, bt_some, es_nil, es_cons, as_nil, as_cons, o_none, o_some, int_some, j_seq, j_rng, j_zip, zip_tup, j_enum, en_some, s_set', s_setOwn', so_list, s_setN', s_unp', un_some, s_app', ap_some, s_expr', s_ret', s_if', s_for', s_raise', ss_nil, ss_cons, bR_ok, bR_no, shI, shB, shN, eqI, bd_addI, bd_addT, bd_addL, bd_sub, bd_mul, bd_mulL, bd_fdiv, bd_mod, bd_pow, bd_eq, bd_ne, bd_lt, bd_le, bd_gt, bd_ge, bd_gcd, bd_idx, sq_list, sq_tup, if_and, if_or, seq_ite, cr_ite, unD, at_, ixN, intOf, Tg.put, seq_lot, z1, z2, z3]
theorem L_shifted_bad (m c : Nat) (rs : List Row) (x : D) (g : G) (hl : LotOk c rs) (h : rowB x (some c) = false) : cl (m + 7) 30 [.dat (lotD c rs), .dat x] g = .er 2 (.str ("form" : Str)) g := by
  rw [run (d := ⟨2, b_lot_shifted, []⟩) rfl]
  generalize HLm (m + 6) _ = hl'
  have z1 := cl_eq (L_need_lot m c rs g hl)
  have z2 := cl_eq (L_need_point_bad (m + 3) c x g h)
  simp [b_lot_shifted, b_ok, b_er, b_no, fl_ok, fl_er, fl_no, sq_nx, sq_rt, sq_er, sq_bk, sq_ct, sq_no, c_nx, c_rt, c_er, to_ok, to_er, to_no, of_some, of_none, rd_eq, rd_dat, rd_own, ow_eq, ow_own, pu_eq, mm_var, mm_dat, mm_own, mm_mm, mm_scr, ag_eq, ag_some, ag_none, mm_k, mm_gl, mm_tup, mm_lst, mm_un, mm_bin, mm_and, mm_or, mm_ite, mm_slice, mm_call, mm_lc, mm_btup, mm_hall, e_var, e_k, e_gl, e_tup, e_lst, e_un, e_bin, e_and, e_or, e_ite, e_slice, e_call, e_callk, e_lc, e_btup, bt_some, es_nil, es_cons, as_nil, as_cons, o_none, o_some, int_some, j_seq, j_rng, j_zip, zip_tup, j_enum, en_some, s_set', s_setOwn', so_list, s_setN', s_unp', un_some, s_app', ap_some, s_expr', s_ret', s_if', s_for', s_raise', ss_nil, ss_cons, bR_ok, bR_no, shI, shB, shN, eqI, bd_addI, bd_addT, bd_addL, bd_sub, bd_mul, bd_mulL, bd_fdiv, bd_mod, bd_pow, bd_eq, bd_ne, bd_lt, bd_le, bd_gt, bd_ge, bd_gcd, bd_idx, sq_list, sq_tup, if_and, if_or, seq_ite, cr_ite, unD, at_, ixN, intOf, Tg.put, seq_lot, z1, z2]
theorem L_times0 (m c : Nat) (rs : List Row) (f : Rat) (a b : Nat) (g : G) (hr : RsB a rs) (hl : LotOk c rs) (hf : Bq b f) (hb : a + b < 1200) : cl (m + 4) 31 [.dat (lotD c rs), .dat (frD f)] g = .ok (lotD c (rs.map (tmRow f))) g := by
  rw [run (d := ⟨5, b_plain_times, []⟩) rfl]
  generalize HLm (m + 3) _ = hl'
  have hlc := lcA_pure (cf := callF (hdOf qsH) tab (m + 3)) (hl := hl') (own := [2, 3, 4]) (tg := .many [2, 3, 4]) (elt := .tup [(.var 2), (.var 3), (.call 7 0 [(.var 4), (.var 1)])]) (ρ := [some (.dat (lotD c rs)), some (.dat (frD f)), none, none, none]) (g := g)
    rowD (fun r => rowD (tmRow f r)) rs (fun r hr' => by
      have z2 := cl_eq (L_times (m + 1) r.b f a b g (hr r hr').2 hf (by omega))
      refine ⟨[some (.dat (lotD c rs)), some (.dat (frD f)), some (.dat (.str (kindS r.same))), some (.dat (frsD r.w)), some (.dat (frD r.b))], rfl, ?_, rfl⟩
      have e : rowD (tmRow f r) = .tuple [.str (kindS r.same), frsD r.w, frD (r.b * f)] := rfl
      rw [e]
      simp [b_ok, b_er, b_no, fl_ok, fl_er, fl_no, sq_nx, sq_rt, sq_er, sq_bk, sq_ct, sq_no, c_nx, c_rt, c_er, to_ok, to_er, to_no, of_some, of_none, rd_eq, rd_dat, rd_own, ow_eq, ow_own, pu_eq, mm_var, mm_dat, mm_own, mm_mm, mm_scr, ag_eq, ag_some, ag_none, mm_k, mm_gl, mm_tup, mm_lst, mm_un, mm_bin, mm_and, mm_or, mm_ite, mm_slice, mm_call, mm_lc, mm_btup, mm_hall, e_var, e_k, e_gl, e_tup, e_lst, e_un, e_bin, e_and, e_or, e_ite, e_slice, e_call, e_callk, e_lc, e_btup, bt_some, es_nil, es_cons, as_nil, as_cons, o_none, o_some, int_some, j_seq, j_rng, j_zip, zip_tup, j_enum, en_some, s_set', s_setOwn', so_list, s_setN', s_unp', un_some, s_app', ap_some, s_expr', s_ret', s_if', s_for', s_raise', ss_nil, ss_cons, bR_ok, bR_no, shI, shB, shN, eqI, bd_addI, bd_addT, bd_addL, bd_sub, bd_mul, bd_mulL, bd_fdiv, bd_mod, bd_pow, bd_eq, bd_ne, bd_lt, bd_le, bd_gt, bd_ge, bd_gcd, bd_idx, sq_list, sq_tup, if_and, if_or, seq_ite, cr_ite, unD, at_, ixN, intOf, Tg.put, z2]) (by have := hl.r60; omega)
  have e : lotD c (rs.map (tmRow f)) = .tuple [.int c, .tuple (rs.map fun r => rowD (tmRow f r))] := by simp [lotD, rowsD, Function.comp_def]
  rw [e]
  simp [b_plain_times, b_ok, b_er, b_no, fl_ok, fl_er, fl_no, sq_nx, sq_rt, sq_er, sq_bk, sq_ct, sq_no, c_nx, c_rt, c_er, to_ok, to_er, to_no, of_some, of_none, rd_eq, rd_dat, rd_own, ow_eq, ow_own, pu_eq, mm_var, mm_dat, mm_own, mm_mm, mm_scr, ag_eq, ag_some, ag_none, mm_k, mm_gl, mm_tup, mm_lst, mm_un, mm_bin, mm_and, mm_or, mm_ite, mm_slice, mm_call, mm_lc, mm_btup, mm_hall, e_var, e_k, e_gl, e_tup, e_lst, e_un, e_bin, e_and, e_or, e_ite, e_slice, e_call, e_callk, e_lc, e_btup, bt_some, es_nil, es_cons, as_nil, as_cons, o_none, o_some, int_some, j_seq, j_rng, j_zip, zip_tup, j_enum, en_some, s_set', s_setOwn', so_list, s_setN', s_unp', un_some, s_app', ap_some, s_expr', s_ret', s_if', s_for', s_raise', ss_nil, ss_cons, bR_ok, bR_no, shI, shB, shN, eqI, bd_addI, bd_addT, bd_addL, bd_sub, bd_mul, bd_mulL, bd_fdiv, bd_mod, bd_pow, bd_eq, bd_ne, bd_lt, bd_le, bd_gt, bd_ge, bd_gcd, bd_idx, sq_list, sq_tup, if_and, if_or, seq_ite, cr_ite, unD, at_, ixN, intOf, Tg.put, seq_lot, seq_rows, hlc, backS, wipeS]
theorem L_lot_times (m c : Nat) (rs : List Row) (f : Rat) (a b : Nat) (g : G) (hr : RsB a rs) (hl : LotOk c rs) (hf : Bq b f) (h0 : 0 < f.num) (hb : a + b < 1200) : cl (m + 7) 32 [.dat (lotD c rs), .dat (frD f)] g = .ok (lotD c (rs.map (tmRow f))) g := by
  rw [run (d := ⟨2, b_lot_times, []⟩) rfl]
  generalize HLm (m + 6) _ = hl'
  have z1 := cl_eq (L_need_lot m c rs g hl)
  have z2 := cl_eq (L_need_fraction (m + 3) (frD f) g)
  rw [frac_frD, if_pos rfl] at z2
  have z3 := cl_eq (L_times0 (m + 2) c rs f a b g hr hl hf hb)
  have h1 : ¬ f.num ≤ 0 := by omega
  simp [b_lot_times, b_ok, b_er, b_no, fl_ok, fl_er, fl_no, sq_nx, sq_rt, sq_er, sq_bk, sq_ct, sq_no, c_nx, c_rt, c_er, to_ok, to_er, to_no, of_some, of_none, rd_eq, rd_dat, rd_own, ow_eq, ow_own, pu_eq, mm_var, mm_dat, mm_own, mm_mm, mm_scr, ag_eq, ag_some, ag_none, mm_k, mm_gl, mm_tup, mm_lst, mm_un, mm_bin, mm_and, mm_or, mm_ite, mm_slice, mm_call, mm_lc, mm_btup, mm_hall, e_var, e_k, e_gl, e_tup, e_lst, e_un, e_bin, e_and, e_or, e_ite, e_slice, e_call, e_callk, e_lc, e_btup, bt_some, es_nil, es_cons, as_nil, as_cons, o_none, o_some, int_some, j_seq, j_rng, j_zip, zip_tup, j_enum, en_some, s_set', s_setOwn', so_list, s_setN', s_unp', un_some, s_app', ap_some, s_expr', s_ret', s_if', s_for', s_raise', ss_nil, ss_cons, bR_ok, bR_no, shI, shB, shN, eqI, bd_addI, bd_addT, bd_addL, bd_sub, bd_mul, bd_mulL, bd_fdiv, bd_mod, bd_pow, bd_eq, bd_ne, bd_lt, bd_le, bd_gt, bd_ge, bd_gcd, bd_idx, sq_list, sq_tup, if_and, if_or, seq_ite, cr_ite, unD, at_, ixN, intOf, Tg.put, seq_lot, seq_fr, z1, z2, z3, h1]
theorem L_lot_times_odd (m c : Nat) (rs : List Row) (d : D) (g : G) (hl : LotOk c rs) (h : fracB d = false) : cl (m + 7) 32 [.dat (lotD c rs), .dat d] g = .er 3 d g := by
  rw [run (d := ⟨2, b_lot_times, []⟩) rfl]
  generalize HLm (m + 6) _ = hl'
  have z1 := cl_eq (L_need_lot m c rs g hl)
  have z2 := cl_eq (L_need_fraction (m + 3) d g)
  rw [h] at z2
  simp only [Bool.false_eq_true, if_false] at z2
  simp [b_lot_times, b_ok, b_er, b_no, fl_ok, fl_er, fl_no, sq_nx, sq_rt, sq_er, sq_bk, sq_ct, sq_no, c_nx, c_rt, c_er, to_ok, to_er, to_no, of_some, of_none, rd_eq, rd_dat, rd_own, ow_eq, ow_own, pu_eq, mm_var, mm_dat, mm_own, mm_mm, mm_scr, ag_eq, ag_some, ag_none, mm_k, mm_gl, mm_tup, mm_lst, mm_un, mm_bin, mm_and, mm_or, mm_ite, mm_slice, mm_call, mm_lc, mm_btup, mm_hall, e_var, e_k, e_gl, e_tup, e_lst, e_un, e_bin, e_and, e_or, e_ite, e_slice, e_call, e_callk, e_lc, e_btup, bt_some, es_nil, es_cons, as_nil, as_cons, o_none, o_some, int_some, j_seq, j_rng, j_zip, zip_tup, j_enum, en_some, s_set', s_setOwn', so_list, s_setN', s_unp', un_some, s_app', ap_some, s_expr', s_ret', s_if', s_for', s_raise', ss_nil, ss_cons, bR_ok, bR_no, shI, shB, shN, eqI, bd_addI, bd_addT, bd_addL, bd_sub, bd_mul, bd_mulL, bd_fdiv, bd_mod, bd_pow, bd_eq, bd_ne, bd_lt, bd_le, bd_gt, bd_ge, bd_gcd, bd_idx, sq_list, sq_tup, if_and, if_or, seq_ite, cr_ite, unD, at_, ixN, intOf, Tg.put, seq_lot, z1, z2]
theorem L_lot_times_low (m c : Nat) (rs : List Row) (f : Rat) (g : G) (hl : LotOk c rs) (h : f.num ≤ 0) : cl (m + 7) 32 [.dat (lotD c rs), .dat (frD f)] g = .er 3 (frD f) g := by
  rw [run (d := ⟨2, b_lot_times, []⟩) rfl]
  generalize HLm (m + 6) _ = hl'
  have z1 := cl_eq (L_need_lot m c rs g hl)
  have z2 := cl_eq (L_need_fraction (m + 3) (frD f) g)
  rw [frac_frD, if_pos rfl] at z2
  simp [b_lot_times, b_ok, b_er, b_no, fl_ok, fl_er, fl_no, sq_nx, sq_rt, sq_er, sq_bk, sq_ct, sq_no, c_nx, c_rt, c_er, to_ok, to_er, to_no, of_some, of_none, rd_eq, rd_dat, rd_own, ow_eq, ow_own, pu_eq, mm_var, mm_dat, mm_own, mm_mm, mm_scr, ag_eq, ag_some, ag_none, mm_k, mm_gl, mm_tup, mm_lst, mm_un, mm_bin, mm_and, mm_or, mm_ite, mm_slice, mm_call, mm_lc, mm_btup, mm_hall, e_var, e_k, e_gl, e_tup, e_lst, e_un, e_bin, e_and, e_or, e_ite, e_slice, e_call, e_callk, e_lc, e_btup, bt_some, es_nil, es_cons, as_nil, as_cons, o_none, o_some, int_some, j_seq, j_rng, j_zip, zip_tup, j_enum, en_some, s_set', s_setOwn', so_list, s_setN', s_unp', un_some, s_app', ap_some, s_expr', s_ret', s_if', s_for', s_raise', ss_nil, ss_cons, bR_ok, bR_no, shI, shB, shN, eqI, bd_addI, bd_addT, bd_addL, bd_sub, bd_mul, bd_mulL, bd_fdiv, bd_mod, bd_pow, bd_eq, bd_ne, bd_lt, bd_le, bd_gt, bd_ge, bd_gcd, bd_idx, sq_list, sq_tup, if_and, if_or, seq_ite, cr_ite, unD, at_, ixN, intOf, Tg.put, seq_lot, seq_fr, z1, z2, h]
theorem frD_neg (q : Rat) : frD (-q) = .tuple [.int (-q.num), .int q.den] := by
  simp [frD, Rat.neg_num, Rat.neg_den]
theorem L_turned_numbers (m : Nat) (w : List Rat) (g : G) (h : w.length ≤ 1000) : cl (m + 1) 16 [.dat (frsD w)] g = .ok (frsD (w.map fun q => -q)) g := by
  rw [run (d := ⟨2, b_turned_numbers, []⟩) rfl]
  generalize HLm m _ = hl'
  have hlc := lcA_pure (cf := callF (hdOf qsH) tab m) (hl := hl') (own := [1]) (tg := .one 1) (elt := .tup [(.un .neg (.bin .idx (.var 1) (.k (.int 0)))), (.bin .idx (.var 1) (.k (.int 1)))]) (ρ := [some (.dat (frsD w)), none]) (g := g)
    frD (fun q => frD (-q)) w (fun q hq => by
      refine ⟨[some (.dat (frsD w)), some (.dat (frD q))], rfl, ?_, rfl⟩
      rw [frD_neg]
      simp [b_ok, b_er, b_no, fl_ok, fl_er, fl_no, sq_nx, sq_rt, sq_er, sq_bk, sq_ct, sq_no, c_nx, c_rt, c_er, to_ok, to_er, to_no, of_some, of_none, rd_eq, rd_dat, rd_own, ow_eq, ow_own, pu_eq, mm_var, mm_dat, mm_own, mm_mm, mm_scr, ag_eq, ag_some, ag_none, mm_k, mm_gl, mm_tup, mm_lst, mm_un, mm_bin, mm_and, mm_or, mm_ite, mm_slice, mm_call, mm_lc, mm_btup, mm_hall, e_var, e_k, e_gl, e_tup, e_lst, e_un, e_bin, e_and, e_or, e_ite, e_slice, e_call, e_callk, e_lc, e_btup, bt_some, es_nil, es_cons, as_nil, as_cons, o_none, o_some, int_some, j_seq, j_rng, j_zip, zip_tup, j_enum, en_some, s_set', s_setOwn', so_list, s_setN', s_unp', un_some, s_app', ap_some, s_expr', s_ret', s_if', s_for', s_raise', ss_nil, ss_cons, bR_ok, bR_no, shI, shB, shN, eqI, bd_addI, bd_addT, bd_addL, bd_sub, bd_mul, bd_mulL, bd_fdiv, bd_mod, bd_pow, bd_eq, bd_ne, bd_lt, bd_le, bd_gt, bd_ge, bd_gcd, bd_idx, sq_list, sq_tup, if_and, if_or, seq_ite, cr_ite, unD, at_, ixN, intOf, Tg.put, seq_fr]) (by omega)
  have e : frsD (w.map fun q => -q) = .tuple (w.map fun q => frD (-q)) := by simp [frsD, Function.comp_def]
  rw [e]
  simp [b_turned_numbers, b_ok, b_er, b_no, fl_ok, fl_er, fl_no, sq_nx, sq_rt, sq_er, sq_bk, sq_ct, sq_no, c_nx, c_rt, c_er, to_ok, to_er, to_no, of_some, of_none, rd_eq, rd_dat, rd_own, ow_eq, ow_own, pu_eq, mm_var, mm_dat, mm_own, mm_mm, mm_scr, ag_eq, ag_some, ag_none, mm_k, mm_gl, mm_tup, mm_lst, mm_un, mm_bin, mm_and, mm_or, mm_ite, mm_slice, mm_call, mm_lc, mm_btup, mm_hall, e_var, e_k, e_gl, e_tup, e_lst, e_un, e_bin, e_and, e_or, e_ite, e_slice, e_call, e_callk, e_lc, e_btup, bt_some, es_nil, es_cons, as_nil, as_cons, o_none, o_some, int_some, j_seq, j_rng, j_zip, zip_tup, j_enum, en_some, s_set', s_setOwn', so_list, s_setN', s_unp', un_some, s_app', ap_some, s_expr', s_ret', s_if', s_for', s_raise', ss_nil, ss_cons, bR_ok, bR_no, shI, shB, shN, eqI, bd_addI, bd_addT, bd_addL, bd_sub, bd_mul, bd_mulL, bd_fdiv, bd_mod, bd_pow, bd_eq, bd_ne, bd_lt, bd_le, bd_gt, bd_ge, bd_gcd, bd_idx, sq_list, sq_tup, if_and, if_or, seq_ite, cr_ite, unD, at_, ixN, intOf, Tg.put, seq_frs, hlc, backS, wipeS]
theorem L_turned (m c : Nat) (rs : List Row) (g : G) (hl : LotOk c rs) : cl (m + 7) 34 [.dat (lotD c rs)] g = .ok (lotD c (rs.map tnRow)) g := by
  rw [run (d := ⟨1, b_lot_turned, []⟩) rfl]
  generalize HLm (m + 6) _ = hl'
  have z1 := cl_eq (L_need_lot m c rs g hl)
  have z2 : callF (hdOf qsH) tab (m + 6) 33 [.dat (lotD c rs)] g = .ok (lotD c (rs.map tnRow)) g := by
    refine (run (d := ⟨4, b_plain_lot_turned, []⟩) rfl (m + 5) _ g).trans ?_
    generalize HLm (m + 5) _ = hl2
    have hlc := lcA_pure (cf := callF (hdOf qsH) tab (m + 5)) (hl := hl2) (own := [1, 2, 3]) (tg := .many [1, 2, 3]) (elt := .tup [(.var 1), (.call 16 0 [(.var 2)]), (.var 3)]) (ρ := [some (.dat (lotD c rs)), none, none, none]) (g := g)
      rowD (fun r => rowD (tnRow r)) rs (fun r hr' => by
        have z := cl_eq (L_turned_numbers (m + 4) r.w g (by rw [hl.w r hr']; have := hl.n5; omega))
        refine ⟨[some (.dat (lotD c rs)), some (.dat (.str (kindS r.same))), some (.dat (frsD r.w)), some (.dat (frD r.b))], rfl, ?_, rfl⟩
        have e : rowD (tnRow r) = .tuple [.str (kindS r.same), frsD (r.w.map fun q => -q), frD r.b] := rfl
        rw [e]
        simp [b_ok, b_er, b_no, fl_ok, fl_er, fl_no, sq_nx, sq_rt, sq_er, sq_bk, sq_ct, sq_no, c_nx, c_rt, c_er, to_ok, to_er, to_no, of_some, of_none, rd_eq, rd_dat, rd_own, ow_eq, ow_own, pu_eq, mm_var, mm_dat, mm_own, mm_mm, mm_scr, ag_eq, ag_some, ag_none, mm_k, mm_gl, mm_tup, mm_lst, mm_un, mm_bin, mm_and, mm_or, mm_ite, mm_slice, mm_call, mm_lc, mm_btup, mm_hall, e_var, e_k, e_gl, e_tup, e_lst, e_un, e_bin, e_and, e_or, e_ite, e_slice, e_call, e_callk, e_lc, e_btup, bt_some, es_nil, es_cons, as_nil, as_cons, o_none, o_some, int_some, j_seq, j_rng, j_zip, zip_tup, j_enum, en_some, s_set', s_setOwn', so_list, s_setN', s_unp', un_some, s_app', ap_some, s_expr', s_ret', s_if', s_for', s_raise', ss_nil, ss_cons, bR_ok, bR_no, shI, shB, shN, eqI, bd_addI, bd_addT, bd_addL, bd_sub, bd_mul, bd_mulL, bd_fdiv, bd_mod, bd_pow, bd_eq, bd_ne, bd_lt, bd_le, bd_gt, bd_ge, bd_gcd, bd_idx, sq_list, sq_tup, if_and, if_or, seq_ite, cr_ite, unD, at_, ixN, intOf, Tg.put, z]) (by have := hl.r60; omega)
    have e : lotD c (rs.map tnRow) = .tuple [.int c, .tuple (rs.map fun r => rowD (tnRow r))] := by simp [lotD, rowsD, Function.comp_def]
    rw [e]
    simp [b_plain_lot_turned, b_ok, b_er, b_no, fl_ok, fl_er, fl_no, sq_nx, sq_rt, sq_er, sq_bk, sq_ct, sq_no, c_nx, c_rt, c_er, to_ok, to_er, to_no, of_some, of_none, rd_eq, rd_dat, rd_own, ow_eq, ow_own, pu_eq, mm_var, mm_dat, mm_own, mm_mm, mm_scr, ag_eq, ag_some, ag_none, mm_k, mm_gl, mm_tup, mm_lst, mm_un, mm_bin, mm_and, mm_or, mm_ite, mm_slice, mm_call, mm_lc, mm_btup, mm_hall, e_var, e_k, e_gl, e_tup, e_lst, e_un, e_bin, e_and, e_or, e_ite, e_slice, e_call, e_callk, e_lc, e_btup, bt_some, es_nil, es_cons, as_nil, as_cons, o_none, o_some, int_some, j_seq, j_rng, j_zip, zip_tup, j_enum, en_some, s_set', s_setOwn', so_list, s_setN', s_unp', un_some, s_app', ap_some, s_expr', s_ret', s_if', s_for', s_raise', ss_nil, ss_cons, bR_ok, bR_no, shI, shB, shN, eqI, bd_addI, bd_addT, bd_addL, bd_sub, bd_mul, bd_mulL, bd_fdiv, bd_mod, bd_pow, bd_eq, bd_ne, bd_lt, bd_le, bd_gt, bd_ge, bd_gcd, bd_idx, sq_list, sq_tup, if_and, if_or, seq_ite, cr_ite, unD, at_, ixN, intOf, Tg.put, seq_lot, seq_rows, hlc, backS, wipeS]
  simp [b_lot_turned, b_ok, b_er, b_no, fl_ok, fl_er, fl_no, sq_nx, sq_rt, sq_er, sq_bk, sq_ct, sq_no, c_nx, c_rt, c_er, to_ok, to_er, to_no, of_some, of_none, rd_eq, rd_dat, rd_own, ow_eq, ow_own, pu_eq, mm_var, mm_dat, mm_own, mm_mm, mm_scr, ag_eq, ag_some, ag_none, mm_k, mm_gl, mm_tup, mm_lst, mm_un, mm_bin, mm_and, mm_or, mm_ite, mm_slice, mm_call, mm_lc, mm_btup, mm_hall, e_var, e_k, e_gl, e_tup, e_lst, e_un, e_bin, e_and, e_or, e_ite, e_slice, e_call, e_callk, e_lc, e_btup, bt_some, es_nil, es_cons, as_nil, as_cons, o_none, o_some, int_some, j_seq, j_rng, j_zip, zip_tup, j_enum, en_some, s_set', s_setOwn', so_list, s_setN', s_unp', un_some, s_app', ap_some, s_expr', s_ret', s_if', s_for', s_raise', ss_nil, ss_cons, bR_ok, bR_no, shI, shB, shN, eqI, bd_addI, bd_addT, bd_addL, bd_sub, bd_mul, bd_mulL, bd_fdiv, bd_mod, bd_pow, bd_eq, bd_ne, bd_lt, bd_le, bd_gt, bd_ge, bd_gcd, bd_idx, sq_list, sq_tup, if_and, if_or, seq_ite, cr_ite, unD, at_, ixN, intOf, Tg.put, z1, z2]
theorem L_turned_none (m : Nat) (g : G) : cl (m + 4) 34 [.dat .none] g = .er 1 (.str ("form" : Str)) g := by
  rw [run (d := ⟨1, b_lot_turned, []⟩) rfl]
  generalize HLm (m + 3) _ = hl'
  have z0 : callF (hdOf qsH) tab (m + 2) 17 [.dat .none, .dat (.bool false)] g = .ok (.tuple [.str ("form" : Str)]) g := by
    refine (run (d := ⟨4, b_lot_fault, []⟩) rfl (m + 1) _ g).trans ?_
    generalize HLm (m + 1) _ = hl2
    simp [b_lot_fault, b_ok, b_er, b_no, fl_ok, fl_er, fl_no, sq_nx, sq_rt, sq_er, sq_bk, sq_ct, sq_no, c_nx, c_rt, c_er, to_ok, to_er, to_no, of_some, of_none, rd_eq, rd_dat, rd_own, ow_eq, ow_own, pu_eq, mm_var, mm_dat, mm_own, mm_mm, mm_scr, ag_eq, ag_some, ag_none, mm_k, mm_gl, mm_tup, mm_lst, mm_un, mm_bin, mm_and, mm_or, mm_ite, mm_slice, mm_call, mm_lc, mm_btup, mm_hall, e_var, e_k, e_gl, e_tup, e_lst, e_un, e_bin, e_and, e_or, e_ite, e_slice, e_call, e_callk, e_lc, e_btup, bt_some, es_nil, es_cons, as_nil, as_cons, o_none, o_some, int_some, j_seq, j_rng, j_zip, zip_tup, j_enum, en_some, s_set', s_setOwn', so_list, s_setN', s_unp', un_some, s_app', ap_some, s_expr', s_ret', s_if', s_for', s_raise', ss_nil, ss_cons, bR_ok, bR_no, shI, shB, shN, eqI, bd_addI, bd_addT, bd_addL, bd_sub, bd_mul, bd_mulL, bd_fdiv, bd_mod, bd_pow, bd_eq, bd_ne, bd_lt, bd_le, bd_gt, bd_ge, bd_gcd, bd_idx, sq_list, sq_tup, if_and, if_or, seq_ite, cr_ite, unD, at_, ixN, intOf, Tg.put, L_r1, rowB]
  have z1 : callF (hdOf qsH) tab (m + 3) 18 [.dat .none] g = .er 1 (.str ("form" : Str)) g := by
    refine (run (d := ⟨2, b_need_lot, []⟩) rfl (m + 2) _ g).trans ?_
    generalize HLm (m + 2) _ = hl2
    simp [b_need_lot, b_ok, b_er, b_no, fl_ok, fl_er, fl_no, sq_nx, sq_rt, sq_er, sq_bk, sq_ct, sq_no, c_nx, c_rt, c_er, to_ok, to_er, to_no, of_some, of_none, rd_eq, rd_dat, rd_own, ow_eq, ow_own, pu_eq, mm_var, mm_dat, mm_own, mm_mm, mm_scr, ag_eq, ag_some, ag_none, mm_k, mm_gl, mm_tup, mm_lst, mm_un, mm_bin, mm_and, mm_or, mm_ite, mm_slice, mm_call, mm_lc, mm_btup, mm_hall, e_var, e_k, e_gl, e_tup, e_lst, e_un, e_bin, e_and, e_or, e_ite, e_slice, e_call, e_callk, e_lc, e_btup, bt_some, es_nil, es_cons, as_nil, as_cons, o_none, o_some, int_some, j_seq, j_rng, j_zip, zip_tup, j_enum, en_some, s_set', s_setOwn', so_list, s_setN', s_unp', un_some, s_app', ap_some, s_expr', s_ret', s_if', s_for', s_raise', ss_nil, ss_cons, bR_ok, bR_no, shI, shB, shN, eqI, bd_addI, bd_addT, bd_addL, bd_sub, bd_mul, bd_mulL, bd_fdiv, bd_mod, bd_pow, bd_eq, bd_ne, bd_lt, bd_le, bd_gt, bd_ge, bd_gcd, bd_idx, sq_list, sq_tup, if_and, if_or, seq_ite, cr_ite, unD, at_, ixN, intOf, Tg.put, z0, eqT1, shT0, shForm]
  simp [b_lot_turned, b_ok, b_er, b_no, fl_ok, fl_er, fl_no, sq_nx, sq_rt, sq_er, sq_bk, sq_ct, sq_no, c_nx, c_rt, c_er, to_ok, to_er, to_no, of_some, of_none, rd_eq, rd_dat, rd_own, ow_eq, ow_own, pu_eq, mm_var, mm_dat, mm_own, mm_mm, mm_scr, ag_eq, ag_some, ag_none, mm_k, mm_gl, mm_tup, mm_lst, mm_un, mm_bin, mm_and, mm_or, mm_ite, mm_slice, mm_call, mm_lc, mm_btup, mm_hall, e_var, e_k, e_gl, e_tup, e_lst, e_un, e_bin, e_and, e_or, e_ite, e_slice, e_call, e_callk, e_lc, e_btup, bt_some, es_nil, es_cons, as_nil, as_cons, o_none, o_some, int_some, j_seq, j_rng, j_zip, zip_tup, j_enum, en_some, s_set', s_setOwn', so_list, s_setN', s_unp', un_some, s_app', ap_some, s_expr', s_ret', s_if', s_for', s_raise', ss_nil, ss_cons, bR_ok, bR_no, shI, shB, shN, eqI, bd_addI, bd_addT, bd_addL, bd_sub, bd_mul, bd_mulL, bd_fdiv, bd_mod, bd_pow, bd_eq, bd_ne, bd_lt, bd_le, bd_gt, bd_ge, bd_gcd, bd_idx, sq_list, sq_tup, if_and, if_or, seq_ite, cr_ite, unD, at_, ixN, intOf, Tg.put, z1]
end Pv

namespace Pv
open PySem L2
theorem s_while' {cf : Nat → List Sl → G → CR} {hl : Nat → Sg → R D} {ρ : List (Option Sl)} {g : G} {c : Ex} {b : List Sx} : evalS cf hl (.while_ c b) ⟨ρ, g⟩ = whileLoop (fun s => boolR (evalE cf hl c s)) (evalSs cf hl b) wTurns ⟨ρ, g⟩ := by simp only [evalS]
theorem wh_no {t : Sg → R Bool} {b : Sg → Fl} {n : Nat} {s : Sg} (h : t s = .ok false s) : whileLoop t b (n + 1) s = .nx s := by
  rw [whileLoop, h]; rfl
theorem wh_yes {t : Sg → R Bool} {b : Sg → Fl} {n : Nat} {s s2 : Sg} (h : t s = .ok true s) (h2 : b s = .nx s2) : whileLoop t b (n + 1) s = whileLoop t b n s2 := by
  rw [whileLoop, h]
  simp only [fl_ok, if_true, h2]
def euT (cf : Nat → List Sl → G → CR) (hl : Nat → Sg → R D) : Sg → R Bool := fun s => boolR (evalE cf hl (.bin .ne (.var 1) (.k (.int 0))) s)
def euB (cf : Nat → List Sl → G → CR) (hl : Nat → Sg → R D) : Sg → Fl := evalSs cf hl [(.setN [0, 1] [(.var 1), (.bin .mod (.un .int (.var 0)) (.var 1))])]
section
variable {cf : Nat → List Sl → G → CR} {hl : Nat → Sg → R D} {g : G}
theorem eu_t (a b : Nat) : euT cf hl ⟨[some (.dat (.int a)), some (.dat (.int b))], g⟩ = .ok (!decide (b = 0)) ⟨[some (.dat (.int a)), some (.dat (.int b))], g⟩ := by
  simp [euT, b_ok, b_er, b_no, fl_ok, fl_er, fl_no, sq_nx, sq_rt, sq_er, sq_bk, sq_ct, sq_no, c_nx, c_rt, c_er, to_ok, to_er, to_no, of_some, of_none, rd_eq, rd_dat, rd_own, ow_eq, ow_own, pu_eq, mm_var, mm_dat, mm_own, mm_mm, mm_scr, ag_eq, ag_some, ag_none, mm_k, mm_gl, mm_tup, mm_lst, mm_un, mm_bin, mm_and, mm_or, mm_ite, mm_slice, mm_call, mm_lc, mm_btup, mm_hall, e_var, e_k, e_gl, e_tup, e_lst, e_un, e_bin, e_and, e_or, e_ite, e_slice, e_call, e_callk, e_lc, e_btup, bt_some, es_nil, es_cons, as_nil, as_cons, o_none, o_some, int_some, j_seq, j_rng, j_zip, zip_tup, j_enum, en_some, s_set', s_setOwn', so_list, s_setN', s_unp', un_some, s_app', ap_some, s_expr', s_ret', s_if', s_for', s_raise', ss_nil, ss_cons, bR_ok, bR_no, shI, shB, shN, eqI, bd_addI, bd_addT, bd_addL, bd_sub, bd_mul, bd_mulL, bd_fdiv, bd_mod, bd_pow, bd_eq, bd_ne, bd_lt, bd_le, bd_gt, bd_ge, bd_gcd, bd_idx, sq_list, sq_tup, if_and, if_or, seq_ite, cr_ite, unD, at_, ixN, intOf, Tg.put]
theorem eu_b (a b : Nat) (h : 0 < b) : euB cf hl ⟨[some (.dat (.int a)), some (.dat (.int b))], g⟩ = .nx ⟨[some (.dat (.int b)), some (.dat (.int (a % b : Nat)))], g⟩ := by
  have h1 : (0 : Int) < b := by omega
  simp [euB, b_ok, b_er, b_no, fl_ok, fl_er, fl_no, sq_nx, sq_rt, sq_er, sq_bk, sq_ct, sq_no, c_nx, c_rt, c_er, to_ok, to_er, to_no, of_some, of_none, rd_eq, rd_dat, rd_own, ow_eq, ow_own, pu_eq, mm_var, mm_dat, mm_own, mm_mm, mm_scr, ag_eq, ag_some, ag_none, mm_k, mm_gl, mm_tup, mm_lst, mm_un, mm_bin, mm_and, mm_or, mm_ite, mm_slice, mm_call, mm_lc, mm_btup, mm_hall, e_var, e_k, e_gl, e_tup, e_lst, e_un, e_bin, e_and, e_or, e_ite, e_slice, e_call, e_callk, e_lc, e_btup, bt_some, es_nil, es_cons, as_nil, as_cons, o_none, o_some, int_some, j_seq, j_rng, j_zip, zip_tup, j_enum, en_some, s_set', s_setOwn', so_list, s_setN', s_unp', un_some, s_app', ap_some, s_expr', s_ret', s_if', s_for', s_raise', ss_nil, ss_cons, bR_ok, bR_no, shI, shB, shN, eqI, bd_addI, bd_addT, bd_addL, bd_sub, bd_mul, bd_mulL, bd_fdiv, bd_mod, bd_pow, bd_eq, bd_ne, bd_lt, bd_le, bd_gt, bd_ge, bd_gcd, bd_idx, sq_list, sq_tup, if_and, if_or, seq_ite, cr_ite, unD, at_, ixN, intOf, Tg.put, h1, h]
theorem eu_loop : ∀ (k a b fuel : Nat), b < 2 ^ k → 2 * k + 1 ≤ fuel → whileLoop (euT cf hl) (euB cf hl) fuel ⟨[some (.dat (.int a)), some (.dat (.int b))], g⟩ = .nx ⟨[some (.dat (.int (Nat.gcd a b))), some (.dat (.int (0 : Nat)))], g⟩
  | 0, a, b, fuel, hb, hf => by
    have hb0 : b = 0 := by simpa using hb
    subst hb0
    obtain ⟨f, rfl⟩ : ∃ f, fuel = f + 1 := ⟨fuel - 1, by omega⟩
    rw [wh_no (by rw [eu_t]; simp)]
    simp
  | k + 1, a, b, fuel, hb, hf => by
    obtain ⟨f, rfl⟩ : ∃ f, fuel = f + 1 := ⟨fuel - 1, by omega⟩
    by_cases h0 : b = 0
    · subst h0
      rw [wh_no (by rw [eu_t]; simp)]
      simp
    · rw [wh_yes (by rw [eu_t]; simp [h0]) (eu_b a b (by omega))]
      obtain ⟨f2, rfl⟩ : ∃ f2, f = f2 + 1 := ⟨f - 1, by omega⟩
      have hc : a % b < b := Nat.mod_lt _ (by omega)
      by_cases h1 : a % b = 0
      · rw [h1, wh_no (by rw [eu_t]; simp)]
        rw [Nat.gcd_comm, Nat.gcd_rec, h1]
        simp
      · rw [wh_yes (by rw [eu_t]; simp [h1]) (eu_b b (a % b) (by omega))]
        have hd : b % (a % b) < 2 ^ k := by
          have h2 : b % (a % b) < a % b := Nat.mod_lt _ (by omega)
          have h3 : b = (a % b) * (b / (a % b)) + b % (a % b) := (Nat.div_add_mod _ _).symm
          have h4 : 1 ≤ b / (a % b) := Nat.div_pos (by omega) (by omega)
          have h5 : a % b ≤ (a % b) * (b / (a % b)) := Nat.le_mul_of_pos_right _ h4
          have h6 : 2 ^ (k + 1) = 2 * 2 ^ k := by rw [Nat.pow_succ]; omega
          omega
        rw [eu_loop k (a % b) (b % (a % b)) f2 hd (by omega)]
        have e : Nat.gcd (a % b) (b % (a % b)) = Nat.gcd a b := by
          rw [Nat.gcd_comm, ← Nat.gcd_rec, Nat.gcd_comm a b, Nat.gcd_rec b a]
        rw [e]
end
theorem abs_nat (i : Int) : (if i < 0 then -i else i) = (i.natAbs : Int) := by omega
theorem L_common (m : Nat) (u n : Int) (g : G) (h : n.natAbs < 2 ^ 8000) : cl (m + 1) 41 [.dat (.int u), .dat (.int n)] g = .ok (.int (Nat.gcd u.natAbs n.natAbs : Nat)) g := by
  rw [run (d := ⟨2, b__law_common, []⟩) rfl]
  generalize HLm m _ = hl
  have z := eu_loop (cf := callF (hdOf qsH) tab m) (hl := hl) (g := g) 8000 u.natAbs n.natAbs wTurns h (by decide)
  have ht : euT (callF (hdOf qsH) tab m) hl = fun s => boolR (evalE (callF (hdOf qsH) tab m) hl (.bin .ne (.var 1) (.k (.int 0))) s) := rfl
  rw [ht] at z
  simp only [euB] at z
  simp [b__law_common, b_ok, b_er, b_no, fl_ok, fl_er, fl_no, sq_nx, sq_rt, sq_er, sq_bk, sq_ct, sq_no, c_nx, c_rt, c_er, to_ok, to_er, to_no, of_some, of_none, rd_eq, rd_dat, rd_own, ow_eq, ow_own, pu_eq, mm_var, mm_dat, mm_own, mm_mm, mm_scr, ag_eq, ag_some, ag_none, mm_k, mm_gl, mm_tup, mm_lst, mm_un, mm_bin, mm_and, mm_or, mm_ite, mm_slice, mm_call, mm_lc, mm_btup, mm_hall, e_var, e_k, e_gl, e_tup, e_lst, e_un, e_bin, e_and, e_or, e_ite, e_slice, e_call, e_callk, e_lc, e_btup, bt_some, es_nil, es_cons, as_nil, as_cons, o_none, o_some, int_some, j_seq, j_rng, j_zip, zip_tup, j_enum, en_some, s_set', s_setOwn', so_list, s_setN', s_unp', un_some, s_app', ap_some, s_expr', s_ret', s_if', s_for', s_raise', ss_nil, ss_cons, bR_ok, bR_no, shI, shB, shN, eqI, bd_addI, bd_addT, bd_addL, bd_sub, bd_mul, bd_mulL, bd_fdiv, bd_mod, bd_pow, bd_eq, bd_ne, bd_lt, bd_le, bd_gt, bd_ge, bd_gcd, bd_idx, sq_list, sq_tup, if_and, if_or, seq_ite, cr_ite, unD, at_, ixN, intOf, Tg.put, s_while', abs_nat, z]
theorem L_lratio (m : Nat) (u n : Int) (g : G) (h : 0 < n) (hb : n.natAbs < 2 ^ 8000) : cl (m + 2) 42 [.dat (.int u), .dat (.int n)] g = .ok (frD (Rat.divInt u n)) g := by
  rw [run (d := ⟨3, b__law_ratio, []⟩) rfl]
  generalize HLm (m + 1) _ = hl
  have z := cl_eq (L_common m u n g hb)
  have h1 : ¬ n < 0 := by omega
  have h2 := gcd_pos (u := u) h
  have h3 : (Nat.gcd u.natAbs n.natAbs).log2 < 9000 := by
    have := div_ok (j := ((Nat.gcd u.natAbs n.natAbs : Nat) : Int)) (b := 8000) (by rw [Int.natAbs_natCast]; exact Nat.lt_of_le_of_lt (gcd_le h) hb) (by decide)
    rwa [Int.natAbs_natCast] at this
  simp only [frD, div_num h, div_den h]
  generalize hc : ((Nat.gcd u.natAbs n.natAbs : Nat) : Int) = c at *
  have h4 : c.natAbs.log2 < 9000 := by rw [← hc, Int.natAbs_natCast]; exact h3
  simp [b__law_ratio, b_ok, b_er, b_no, fl_ok, fl_er, fl_no, sq_nx, sq_rt, sq_er, sq_bk, sq_ct, sq_no, c_nx, c_rt, c_er, to_ok, to_er, to_no, of_some, of_none, rd_eq, rd_dat, rd_own, ow_eq, ow_own, pu_eq, mm_var, mm_dat, mm_own, mm_mm, mm_scr, ag_eq, ag_some, ag_none, mm_k, mm_gl, mm_tup, mm_lst, mm_un, mm_bin, mm_and, mm_or, mm_ite, mm_slice, mm_call, mm_lc, mm_btup, mm_hall, e_var, e_k, e_gl, e_tup, e_lst, e_un, e_bin, e_and, e_or, e_ite, e_slice, e_call, e_callk, e_lc, e_btup, bt_some, es_nil, es_cons, as_nil, as_cons, o_none, o_some, int_some, j_seq, j_rng, j_zip, zip_tup, j_enum, en_some, s_set', s_setOwn', so_list, s_setN', s_unp', un_some, s_app', ap_some, s_expr', s_ret', s_if', s_for', s_raise', ss_nil, ss_cons, bR_ok, bR_no, shI, shB, shN, eqI, bd_addI, bd_addT, bd_addL, bd_sub, bd_mul, bd_mulL, bd_fdiv, bd_mod, bd_pow, bd_eq, bd_ne, bd_lt, bd_le, bd_gt, bd_ge, bd_gcd, bd_idx, sq_list, sq_tup, if_and, if_or, seq_ite, cr_ite, unD, at_, ixN, intOf, Tg.put, h1, z, h2, h4]
section
variable (m : Nat) (a b : Rat) (x y : Nat) (g : G) (ha : Bq x a) (hb : Bq y b) (hx : x + y < 7900)
include ha hb hx
theorem R_plus : cl (m + 2) 42 [.dat (.int (a.num * b.den + b.num * a.den)), .dat (.int (a.den * b.den))] g = .ok (frD (a + b)) g := by
  have z := L_lratio m (a.num * b.den + b.num * a.den) (a.den * b.den) g (mulden_pos a b) (Pv.up (plus_lt ha hb).2 (by omega))
  rwa [plus_eq] at z
theorem R_times : cl (m + 2) 42 [.dat (.int (a.num * b.num)), .dat (.int (a.den * b.den))] g = .ok (frD (a * b)) g := by
  have z := L_lratio m (a.num * b.num) (a.den * b.den) g (mulden_pos a b) (Pv.up (plus_lt ha hb).2 (by omega))
  rwa [times_eq] at z
theorem L_lminus : cl (m + 3) 45 [.dat (frD a), .dat (frD b)] g = .ok (frD (a - b)) g := by
  rw [run (d := ⟨2, b__law_minus, []⟩) rfl]
  generalize HLm (m + 2) _ = hl
  have l1 := mul_ok ha.1 (by rw [den_abs]; exact hb.2) (by omega)
  have l2 := mul_ok hb.1 (by rw [den_abs]; exact ha.2) (by omega)
  have l3 := mul_ok (i := a.den) (j := b.den) (by rw [den_abs]; exact ha.2) (by rw [den_abs]; exact hb.2) (by omega)
  have hr := cl_eq (L_lratio m (a.num * b.den - b.num * a.den) (a.den * b.den) g (mulden_pos a b) (Pv.up (plus_lt ha hb).2 (by omega)))
  rw [minus_eq] at hr
  simp only [Int.natAbs_natCast] at l1 l2 l3
  simp [b__law_minus, b_ok, b_er, b_no, fl_ok, fl_er, fl_no, sq_nx, sq_rt, sq_er, sq_bk, sq_ct, sq_no, c_nx, c_rt, c_er, to_ok, to_er, to_no, of_some, of_none, rd_eq, rd_dat, rd_own, ow_eq, ow_own, pu_eq, mm_var, mm_dat, mm_own, mm_mm, mm_scr, ag_eq, ag_some, ag_none, mm_k, mm_gl, mm_tup, mm_lst, mm_un, mm_bin, mm_and, mm_or, mm_ite, mm_slice, mm_call, mm_lc, mm_btup, mm_hall, e_var, e_k, e_gl, e_tup, e_lst, e_un, e_bin, e_and, e_or, e_ite, e_slice, e_call, e_callk, e_lc, e_btup, bt_some, es_nil, es_cons, as_nil, as_cons, o_none, o_some, int_some, j_seq, j_rng, j_zip, zip_tup, j_enum, en_some, s_set', s_setOwn', so_list, s_setN', s_unp', un_some, s_app', ap_some, s_expr', s_ret', s_if', s_for', s_raise', ss_nil, ss_cons, bR_ok, bR_no, shI, shB, shN, eqI, bd_addI, bd_addT, bd_addL, bd_sub, bd_mul, bd_mulL, bd_fdiv, bd_mod, bd_pow, bd_eq, bd_ne, bd_lt, bd_le, bd_gt, bd_ge, bd_gcd, bd_idx, sq_list, sq_tup, if_and, if_or, seq_ite, cr_ite, unD, at_, ixN, intOf, Tg.put, seq_fr, l1, l2, l3, hr]
end
theorem fr0 : frD 0 = .tuple [.int 0, .int 1] := rfl
theorem fr1 : frD 1 = .tuple [.int 1, .int 1] := rfl
theorem Bq.one : Bq 1 1 := ⟨by show (1 : Int).natAbs < 2 ^ 1; decide, by show 1 < 2 ^ 1; decide⟩
def lsBody : List Sx := [(.set 1 (.call 42 0 [(.bin .add (.bin .mul (.bin .idx (.var 1) (.k (.int 0))) (.var 3)) (.bin .mul (.var 2) (.bin .idx (.var 1) (.k (.int 1))))), (.bin .mul (.bin .idx (.var 1) (.k (.int 1))) (.var 3))]))]
theorem lsum_loop (m : Nat) (hl : Nat → Sg → R D) (fs : Option Sl) (g : G) (b : Nat) : ∀ (l : List Rat) (s : Rat) (u v : Option Sl) (B : Nat), (∀ q ∈ l, Bq b q) → Bq B s → B + (b + 1) * l.length < 7800 →
    ∃ (u' v' : Option Sl), forLoop (Tg.many [2, 3]).put (evalSs (callF (hdOf qsH) tab (m + 2)) hl lsBody) (l.map frD) ⟨[fs, some (.dat (frD s)), u, v], g⟩ = .nx ⟨[fs, some (.dat (frD (s + sumQ l))), u', v'], g⟩
  | [], s, u, v, B, _, _, _ => ⟨u, v, by simp [sumQ, Rat.add_zero, forLoop]⟩
  | q :: l, s, u, v, B, hq, hs, hB => by
    have hb := hq q (by simp)
    have e : B + (b + 1) * (q :: l).length = (B + b + 1) + (b + 1) * l.length := by simp [Nat.mul_add]; omega
    rw [e] at hB
    obtain ⟨u', v', z⟩ := lsum_loop m hl fs g b l (s + q) (some (.dat (.int q.num))) (some (.dat (.int q.den))) (B + b + 1) (fun p hp => hq p (by simp [hp])) (hs.plus hb) hB
    refine ⟨u', v', ?_⟩
    have l1 := mul_ok hs.1 (j := (q.den : Int)) (by rw [den_abs]; exact hb.2) (by omega)
    have l2 := mul_ok hb.1 (j := (s.den : Int)) (by rw [den_abs]; exact hs.2) (by omega)
    have l3 := mul_ok (i := s.den) (j := q.den) (by rw [den_abs]; exact hs.2) (by rw [den_abs]; exact hb.2) (by omega)
    have hr := cl_eq (R_plus m s q B b g hs hb (by omega))
    simp only [Int.natAbs_natCast] at l1 l2 l3
    rw [List.map_cons, for_nx (s1 := ⟨[fs, some (.dat (frD s)), some (.dat (.int q.num)), some (.dat (.int q.den))], g⟩) (s2 := ⟨[fs, some (.dat (frD (s + q))), some (.dat (.int q.num)), some (.dat (.int q.den))], g⟩) rfl _, z]
    · simp [sumQ, Rat.add_assoc]
    · simp [lsBody, b_ok, b_er, b_no, fl_ok, fl_er, fl_no, sq_nx, sq_rt, sq_er, sq_bk, sq_ct, sq_no, c_nx, c_rt, c_er, to_ok, to_er, to_no, of_some, of_none, rd_eq, rd_dat, rd_own, ow_eq, ow_own, pu_eq, mm_var, mm_dat, mm_own, mm_mm, mm_scr, ag_eq, ag_some, ag_none, mm_k, mm_gl, mm_tup, mm_lst, mm_un, mm_bin, mm_and, mm_or, mm_ite, mm_slice, mm_call, mm_lc, mm_btup, mm_hall, e_var, e_k, e_gl, e_tup, e_lst, e_un, e_bin, e_and, e_or, e_ite, e_slice, e_call, e_callk, e_lc, e_btup, bt_some, es_nil, es_cons, as_nil, as_cons, o_none, o_some, int_some, j_seq, j_rng, j_zip, zip_tup, j_enum, en_some, s_set', s_setOwn', so_list, s_setN', s_unp', un_some, s_app', ap_some, s_expr', s_ret', s_if', s_for', s_raise', ss_nil, ss_cons, bR_ok, bR_no, shI, shB, shN, eqI, bd_addI, bd_addT, bd_addL, bd_sub, bd_mul, bd_mulL, bd_fdiv, bd_mod, bd_pow, bd_eq, bd_ne, bd_lt, bd_le, bd_gt, bd_ge, bd_gcd, bd_idx, sq_list, sq_tup, if_and, if_or, seq_ite, cr_ite, unD, at_, ixN, intOf, Tg.put, seq_fr, l1, l2, l3, hr]
theorem L_lsum (m : Nat) (l : List Rat) (b : Nat) (g : G) (hq : ∀ q ∈ l, Bq b q) (hB : (b + 1) * l.length < 7790) : cl (m + 3) 43 [.dat (.list (l.map frD))] g = .ok (frD (sumQ l)) g := by
  rw [run (d := ⟨4, b__law_sum, []⟩) rfl]
  generalize HLm (m + 2) _ = hl
  obtain ⟨u', v', z⟩ := lsum_loop m hl (some (.dat (.list (l.map frD)))) g b l 0 none none 1 hq (Bq.zero (by decide)) (by omega)
  rw [Rat.zero_add] at z
  simp only [lsBody, fr0] at z
  simp [b__law_sum, b_ok, b_er, b_no, fl_ok, fl_er, fl_no, sq_nx, sq_rt, sq_er, sq_bk, sq_ct, sq_no, c_nx, c_rt, c_er, to_ok, to_er, to_no, of_some, of_none, rd_eq, rd_dat, rd_own, ow_eq, ow_own, pu_eq, mm_var, mm_dat, mm_own, mm_mm, mm_scr, ag_eq, ag_some, ag_none, mm_k, mm_gl, mm_tup, mm_lst, mm_un, mm_bin, mm_and, mm_or, mm_ite, mm_slice, mm_call, mm_lc, mm_btup, mm_hall, e_var, e_k, e_gl, e_tup, e_lst, e_un, e_bin, e_and, e_or, e_ite, e_slice, e_call, e_callk, e_lc, e_btup, bt_some, es_nil, es_cons, as_nil, as_cons, o_none, o_some, int_some, j_seq, j_rng, j_zip, zip_tup, j_enum, en_some, s_set', s_setOwn', so_list, s_setN', s_unp', un_some, s_app', ap_some, s_expr', s_ret', s_if', s_for', s_raise', ss_nil, ss_cons, bR_ok, bR_no, shI, shB, shN, eqI, bd_addI, bd_addT, bd_addL, bd_sub, bd_mul, bd_mulL, bd_fdiv, bd_mod, bd_pow, bd_eq, bd_ne, bd_lt, bd_le, bd_gt, bd_ge, bd_gcd, bd_idx, sq_list, sq_tup, if_and, if_or, seq_ite, cr_ite, unD, at_, ixN, intOf, Tg.put, z]
theorem L_ltimes (m : Nat) (a b : Rat) (x y : Nat) (g : G) (ha : Bq x a) (hb : Bq y b) (hx : x + y < 7800) : cl (m + 3) 44 [.dat (.list [frD a, frD b])] g = .ok (frD (a * b)) g := by
  rw [run (d := ⟨4, b__law_times, []⟩) rfl]
  generalize HLm (m + 2) _ = hl
  have key : ∀ (s q : Rat) (B c : Nat) (fs u v : Option Sl), Bq B s → Bq c q → B + c < 7850 → evalSs (callF (hdOf qsH) tab (m + 2)) hl [(.set 1 (.call 42 0 [(.bin .mul (.bin .idx (.var 1) (.k (.int 0))) (.var 2)), (.bin .mul (.bin .idx (.var 1) (.k (.int 1))) (.var 3))]))] ⟨[fs, some (.dat (frD s)), some (.dat (.int q.num)), some (.dat (.int q.den))], g⟩ =
      .nx ⟨[fs, some (.dat (frD (s * q))), some (.dat (.int q.num)), some (.dat (.int q.den))], g⟩ := by
    intro s q B c fs u v hs hq hB
    have l1 := mul_ok hs.1 hq.1 (by omega)
    have l3 := mul_ok (i := s.den) (j := q.den) (by rw [den_abs]; exact hs.2) (by rw [den_abs]; exact hq.2) (by omega)
    have hr := cl_eq (R_times m s q B c g hs hq (by omega))
    simp only [Int.natAbs_natCast] at l3
    simp [b_ok, b_er, b_no, fl_ok, fl_er, fl_no, sq_nx, sq_rt, sq_er, sq_bk, sq_ct, sq_no, c_nx, c_rt, c_er, to_ok, to_er, to_no, of_some, of_none, rd_eq, rd_dat, rd_own, ow_eq, ow_own, pu_eq, mm_var, mm_dat, mm_own, mm_mm, mm_scr, ag_eq, ag_some, ag_none, mm_k, mm_gl, mm_tup, mm_lst, mm_un, mm_bin, mm_and, mm_or, mm_ite, mm_slice, mm_call, mm_lc, mm_btup, mm_hall, e_var, e_k, e_gl, e_tup, e_lst, e_un, e_bin, e_and, e_or, e_ite, e_slice, e_call, e_callk, e_lc, e_btup, bt_some, es_nil, es_cons, as_nil, as_cons, o_none, o_some, int_some, j_seq, j_rng, j_zip, zip_tup, j_enum, en_some, s_set', s_setOwn', so_list, s_setN', s_unp', un_some, s_app', ap_some, s_expr', s_ret', s_if', s_for', s_raise', ss_nil, ss_cons, bR_ok, bR_no, shI, shB, shN, eqI, bd_addI, bd_addT, bd_addL, bd_sub, bd_mul, bd_mulL, bd_fdiv, bd_mod, bd_pow, bd_eq, bd_ne, bd_lt, bd_le, bd_gt, bd_ge, bd_gcd, bd_idx, sq_list, sq_tup, if_and, if_or, seq_ite, cr_ite, unD, at_, ixN, intOf, Tg.put, seq_fr, l1, l3, hr]
  have k1 := key 1 a 1 x (some (.dat (.list [frD a, frD b]))) none none Bq.one ha (by omega)
  have k2 := key (1 * a) b x y (some (.dat (.list [frD a, frD b]))) none none (by rw [Rat.one_mul]; exact ha) hb (by omega)
  have z : forLoop (Tg.many [2, 3]).put (evalSs (callF (hdOf qsH) tab (m + 2)) hl [(.set 1 (.call 42 0 [(.bin .mul (.bin .idx (.var 1) (.k (.int 0))) (.var 2)), (.bin .mul (.bin .idx (.var 1) (.k (.int 1))) (.var 3))]))]) [frD a, frD b] ⟨[some (.dat (.list [frD a, frD b])), some (.dat (frD 1)), none, none], g⟩ = .nx ⟨[some (.dat (.list [frD a, frD b])), some (.dat (frD (1 * a * b))), some (.dat (.int b.num)), some (.dat (.int b.den))], g⟩ := by
    rw [for_nx (s1 := ⟨[some (.dat (.list [frD a, frD b])), some (.dat (frD 1)), some (.dat (.int a.num)), some (.dat (.int a.den))], g⟩) rfl k1]
    rw [for_nx (s1 := ⟨[some (.dat (.list [frD a, frD b])), some (.dat (frD (1 * a))), some (.dat (.int b.num)), some (.dat (.int b.den))], g⟩) rfl k2]
    rfl
  rw [Rat.one_mul] at z
  simp only [fr1] at z
  simp [b__law_times, b_ok, b_er, b_no, fl_ok, fl_er, fl_no, sq_nx, sq_rt, sq_er, sq_bk, sq_ct, sq_no, c_nx, c_rt, c_er, to_ok, to_er, to_no, of_some, of_none, rd_eq, rd_dat, rd_own, ow_eq, ow_own, pu_eq, mm_var, mm_dat, mm_own, mm_mm, mm_scr, ag_eq, ag_some, ag_none, mm_k, mm_gl, mm_tup, mm_lst, mm_un, mm_bin, mm_and, mm_or, mm_ite, mm_slice, mm_call, mm_lc, mm_btup, mm_hall, e_var, e_k, e_gl, e_tup, e_lst, e_un, e_bin, e_and, e_or, e_ite, e_slice, e_call, e_callk, e_lc, e_btup, bt_some, es_nil, es_cons, as_nil, as_cons, o_none, o_some, int_some, j_seq, j_rng, j_zip, zip_tup, j_enum, en_some, s_set', s_setOwn', so_list, s_setN', s_unp', un_some, s_app', ap_some, s_expr', s_ret', s_if', s_for', s_raise', ss_nil, ss_cons, bR_ok, bR_no, shI, shB, shN, eqI, bd_addI, bd_addT, bd_addL, bd_sub, bd_mul, bd_mulL, bd_fdiv, bd_mod, bd_pow, bd_eq, bd_ne, bd_lt, bd_le, bd_gt, bd_ge, bd_gcd, bd_idx, sq_list, sq_tup, if_and, if_or, seq_ite, cr_ite, unD, at_, ixN, intOf, Tg.put, z]
end Pv

namespace Pv
open PySem L2
section
variable (m n : Nat) (w : List Rat) (ps : Mp) (a b : Nat) (g : G) (hw : ∀ q ∈ w, Bq a q) (hp : MpB b ps) (hl5 : w.length ≤ 5) (hb : a + b < 1500)
include hw hp hl5 hb
theorem ltot_bound {f : Rat × (List Rat × Rat) → Rat} (hf : ∀ p ∈ w.zip ps, Bq (a + b) (f p)) : cl (m + 3) 43 [.dat (.list (((w.zip ps).map f).map frD))] g = .ok (frD (sumQ ((w.zip ps).map f))) g := by
  refine L_lsum m _ (a + b) g (fun q hq => ?_) ?_
  · obtain ⟨p, hp, rfl⟩ := List.mem_map.mp hq
    exact hf p hp
  · have : (a + b + 1) * ((w.zip ps).map f).length ≤ (a + b + 1) * 5 := Nat.mul_le_mul_left _ (by rw [List.length_map, List.length_zip]; omega)
    omega
end
theorem L_lvalue (m : Nat) (w x : List Rat) (a b n : Nat) (g : G) (hw : ∀ q ∈ w, Bq a q) (hx : ∀ q ∈ x, Bq b q) (hn : w.length ≤ n) (hb : (a + b + 1) * n < 7700) (h1 : a + b < 7700) (h2 : n ≤ 1000) : cl (m + 4) 50 [.dat (frsD w), .dat (frsD x)] g = .ok (frD (dot w x)) g := by
  rw [run (d := ⟨4, b__law_value, []⟩) rfl]
  generalize HLm (m + 3) _ = hl
  have hlen : ((w.zip x).map fun p => p.1 * p.2).length ≤ n := by rw [List.length_map, List.length_zip]; omega
  have ht := cl_eq (L_lsum m ((w.zip x).map fun p => p.1 * p.2) (a + b) g (fun q hq => by
    obtain ⟨p, hp, rfl⟩ := List.mem_map.mp hq
    obtain ⟨h1, h2⟩ := mem_zip_bq hw hx p hp
    exact h1.times h2) (by have : (a + b + 1) * ((w.zip x).map fun p => p.1 * p.2).length ≤ (a + b + 1) * n := Nat.mul_le_mul_left _ hlen
                           omega))
  have hlc := lcA_pure (cf := callF (hdOf qsH) tab (m + 3)) (hl := hl) (own := [2, 3]) (tg := .many [2, 3]) (elt := .call 44 0 [.lst [.var 2, .var 3]]) (ρ := [some (.dat (frsD w)), some (.dat (frsD x)), none, none]) (g := g)
    (fun p : Rat × Rat => PyData.tuple [frD p.1, frD p.2]) (fun p => frD (p.1 * p.2)) (w.zip x) (fun p hp => by
      obtain ⟨h3, h4⟩ := mem_zip_bq hw hx p hp
      have hr := cl_eq (L_ltimes m p.1 p.2 a b g h3 h4 (by omega))
      refine ⟨[some (.dat (frsD w)), some (.dat (frsD x)), some (.dat (frD p.1)), some (.dat (frD p.2))], rfl, ?_, rfl⟩
      simp [b_ok, b_er, b_no, fl_ok, fl_er, fl_no, sq_nx, sq_rt, sq_er, sq_bk, sq_ct, sq_no, c_nx, c_rt, c_er, to_ok, to_er, to_no, of_some, of_none, rd_eq, rd_dat, rd_own, ow_eq, ow_own, pu_eq, mm_var, mm_dat, mm_own, mm_mm, mm_scr, ag_eq, ag_some, ag_none, mm_k, mm_gl, mm_tup, mm_lst, mm_un, mm_bin, mm_and, mm_or, mm_ite, mm_slice, mm_call, mm_lc, mm_btup, mm_hall, e_var, e_k, e_gl, e_tup, e_lst, e_un, e_bin, e_and, e_or, e_ite, e_slice, e_call, e_callk, e_lc, e_btup, bt_some, es_nil, es_cons, as_nil, as_cons, o_none, o_some, int_some, j_seq, j_rng, j_zip, zip_tup, j_enum, en_some, s_set', s_setOwn', so_list, s_setN', s_unp', un_some, s_app', ap_some, s_expr', s_ret', s_if', s_for', s_raise', ss_nil, ss_cons, bR_ok, bR_no, shI, shB, shN, eqI, bd_addI, bd_addT, bd_addL, bd_sub, bd_mul, bd_mulL, bd_fdiv, bd_mod, bd_pow, bd_eq, bd_ne, bd_lt, bd_le, bd_gt, bd_ge, bd_gcd, bd_idx, sq_list, sq_tup, if_and, if_or, seq_ite, cr_ite, unD, at_, ixN, intOf, Tg.put, hr]) (by rw [List.length_zip]; omega)
  rw [← zips_map frD frD] at hlc
  rw [List.map_map] at ht
  simp only [Function.comp_def] at ht
  simp [b__law_value, b_ok, b_er, b_no, fl_ok, fl_er, fl_no, sq_nx, sq_rt, sq_er, sq_bk, sq_ct, sq_no, c_nx, c_rt, c_er, to_ok, to_er, to_no, of_some, of_none, rd_eq, rd_dat, rd_own, ow_eq, ow_own, pu_eq, mm_var, mm_dat, mm_own, mm_mm, mm_scr, ag_eq, ag_some, ag_none, mm_k, mm_gl, mm_tup, mm_lst, mm_un, mm_bin, mm_and, mm_or, mm_ite, mm_slice, mm_call, mm_lc, mm_btup, mm_hall, e_var, e_k, e_gl, e_tup, e_lst, e_un, e_bin, e_and, e_or, e_ite, e_slice, e_call, e_callk, e_lc, e_btup, bt_some, es_nil, es_cons, as_nil, as_cons, o_none, o_some, int_some, j_seq, j_rng, j_zip, zip_tup, j_enum, en_some, s_set', s_setOwn', so_list, s_setN', s_unp', un_some, s_app', ap_some, s_expr', s_ret', s_if', s_for', s_raise', ss_nil, ss_cons, bR_ok, bR_no, shI, shB, shN, eqI, bd_addI, bd_addT, bd_addL, bd_sub, bd_mul, bd_mulL, bd_fdiv, bd_mod, bd_pow, bd_eq, bd_ne, bd_lt, bd_le, bd_gt, bd_ge, bd_gcd, bd_idx, sq_list, sq_tup, if_and, if_or, seq_ite, cr_ite, unD, at_, ixN, intOf, Tg.put, zip_frs2, hlc, backS, wipeS, ht, dot]
theorem L_limage (m c n : Nat) (ps : Mp) (x : List Rat) (a b : Nat) (g : G) (hp : MpB a ps) (hm : MapOk c n ps) (hx : ∀ q ∈ x, Bq b q) (hb : a + b < 300) : cl (m + 5) 55 [.dat (mapD n ps), .dat (frsD x)] g = .ok (frsD (imQ ps x)) g := by
  rw [run (d := ⟨4, b__law_image, []⟩) rfl]
  generalize HLm (m + 4) _ = hl'
  have hlc := lcA_pure (cf := callF (hdOf qsH) tab (m + 4)) (hl := hl') (own := [2, 3]) (tg := .many [2, 3]) (elt := .call 43 0 [(.lst [(.call 50 0 [(.var 2), (.var 1)]), (.var 3)])]) (ρ := [some (.dat (mapD n ps)), some (.dat (frsD x)), none, none]) (g := g)
    plD (fun p => frD (dot p.1 x + p.2)) ps (fun p hp' => by
      have hl5 : p.1.length ≤ 5 := by rw [hm.w p hp']; exact hm.n5
      have z := cl_eq (L_lvalue m p.1 x a b 5 g (hp p hp').1 hx hl5 (by omega) (by omega) (by omega))
      have bz := dot_bq (hp p hp').1 hx hl5
      have z2 := cl_eq (L_lsum (m + 1) [dot p.1 x, p.2] (1 + (a + b + 1) * 5) g (fun q hq => by
        simp only [List.mem_cons, List.not_mem_nil, or_false] at hq
        rcases hq with rfl | rfl
        · exact bz
        · exact (hp p hp').2.up (by omega)) (by simp; omega))
      have e : sumQ [dot p.1 x, p.2] = dot p.1 x + p.2 := by simp [sumQ, Rat.add_zero]
      rw [e] at z2
      refine ⟨[some (.dat (mapD n ps)), some (.dat (frsD x)), some (.dat (frsD p.1)), some (.dat (frD p.2))], rfl, ?_, rfl⟩
      simp only [List.map_cons, List.map_nil] at z2
      simp [b_ok, b_er, b_no, fl_ok, fl_er, fl_no, sq_nx, sq_rt, sq_er, sq_bk, sq_ct, sq_no, c_nx, c_rt, c_er, to_ok, to_er, to_no, of_some, of_none, rd_eq, rd_dat, rd_own, ow_eq, ow_own, pu_eq, mm_var, mm_dat, mm_own, mm_mm, mm_scr, ag_eq, ag_some, ag_none, mm_k, mm_gl, mm_tup, mm_lst, mm_un, mm_bin, mm_and, mm_or, mm_ite, mm_slice, mm_call, mm_lc, mm_btup, mm_hall, e_var, e_k, e_gl, e_tup, e_lst, e_un, e_bin, e_and, e_or, e_ite, e_slice, e_call, e_callk, e_lc, e_btup, bt_some, es_nil, es_cons, as_nil, as_cons, o_none, o_some, int_some, j_seq, j_rng, j_zip, zip_tup, j_enum, en_some, s_set', s_setOwn', so_list, s_setN', s_unp', un_some, s_app', ap_some, s_expr', s_ret', s_if', s_for', s_raise', ss_nil, ss_cons, bR_ok, bR_no, shI, shB, shN, eqI, bd_addI, bd_addT, bd_addL, bd_sub, bd_mul, bd_mulL, bd_fdiv, bd_mod, bd_pow, bd_eq, bd_ne, bd_lt, bd_le, bd_gt, bd_ge, bd_gcd, bd_idx, sq_list, sq_tup, if_and, if_or, seq_ite, cr_ite, unD, at_, ixN, intOf, Tg.put, z, z2]) (by rw [hm.len]; have := hm.c5; omega)
  have e : frsD (imQ ps x) = .tuple (ps.map fun p => frD (dot p.1 x + p.2)) := by simp [frsD, imQ, Function.comp_def]
  rw [e]
  simp [b__law_image, b_ok, b_er, b_no, fl_ok, fl_er, fl_no, sq_nx, sq_rt, sq_er, sq_bk, sq_ct, sq_no, c_nx, c_rt, c_er, to_ok, to_er, to_no, of_some, of_none, rd_eq, rd_dat, rd_own, ow_eq, ow_own, pu_eq, mm_var, mm_dat, mm_own, mm_mm, mm_scr, ag_eq, ag_some, ag_none, mm_k, mm_gl, mm_tup, mm_lst, mm_un, mm_bin, mm_and, mm_or, mm_ite, mm_slice, mm_call, mm_lc, mm_btup, mm_hall, e_var, e_k, e_gl, e_tup, e_lst, e_un, e_bin, e_and, e_or, e_ite, e_slice, e_call, e_callk, e_lc, e_btup, bt_some, es_nil, es_cons, as_nil, as_cons, o_none, o_some, int_some, j_seq, j_rng, j_zip, zip_tup, j_enum, en_some, s_set', s_setOwn', so_list, s_setN', s_unp', un_some, s_app', ap_some, s_expr', s_ret', s_if', s_for', s_raise', ss_nil, ss_cons, bR_ok, bR_no, shI, shB, shN, eqI, bd_addI, bd_addT, bd_addL, bd_sub, bd_mul, bd_mulL, bd_fdiv, bd_mod, bd_pow, bd_eq, bd_ne, bd_lt, bd_le, bd_gt, bd_ge, bd_gcd, bd_idx, sq_list, sq_tup, if_and, if_or, seq_ite, cr_ite, unD, at_, ixN, intOf, Tg.put, seq_map, hlc, backS, wipeS]
/-! ### put, by the law -/
abbrev S6 : Type := Option Sl × Option Sl × Option Sl × Option Sl × Option Sl × Option Sl
def mkP (L C : D) (acc : List D) (u : S6) : List (Option Sl) := [some (.dat L), some (.dat C), some (.own acc), u.1, u.2.1, u.2.2.1, u.2.2.2.1, u.2.2.2.2.1, u.2.2.2.2.2, none, none]
def lpInner : List Sx := [(.app 6 (.call 43 0 [(.lc [9, 10] (.many [9, 10]) (.zip (.var 4) (.bin .idx (.var 1) (.k (.int 1)))) none (.call 44 0 [(.lst [(.var 9), (.bin .idx (.bin .idx (.var 10) (.k (.int 0))) (.var 7))])]))]))]
def lpBody : List Sx := [(.setOwn 6 (.lst [])), (.for_ (.one 7) (.rng (.bin .idx (.var 1) (.k (.int 0)))) lpInner), (.set 8 (.call 43 0 [(.lc [9, 10] (.many [9, 10]) (.zip (.var 4) (.bin .idx (.var 1) (.k (.int 1)))) none (.call 44 0 [(.lst [(.var 9), (.bin .idx (.var 10) (.k (.int 1)))])]))])), (.app 2 (.tup [(.var 3), (.btup 6), (.call 45 0 [(.var 5), (.var 8)])]))]
theorem lp_row (m n : Nat) (hl : Nat → Sg → R D) (L : D) (r : Row) (ps : Mp) (a b : Nat) (g : G) (hw : ∀ q ∈ r.w, Bq a q) (hrb : Bq a r.b) (hp : MpB b ps) (hn : ∀ p ∈ ps, p.1.length = n) (hn5 : n ≤ 5) (hl5 : r.w.length ≤ 5) (hb : a + b < 1200) (acc : List D) (hacc : acc.length < 1000000) (s6 s7 s8 : Option Sl) :
    ∃ v : S6, evalSs (callF (hdOf qsH) tab (m + 3)) hl lpBody ⟨mkP L (mapD n ps) acc (some (.dat (.str (kindS r.same))), some (.dat (frsD r.w)), some (.dat (frD r.b)), s6, s7, s8), g⟩ = .nx ⟨mkP L (mapD n ps) (acc ++ [rowD (putRow n ps r)]) v, g⟩ := by
  have hc : ∀ (j : Nat) (ws : List D) (s8 : Option Sl), j < n → lcA (callF (hdOf qsH) tab (m + 3)) hl [9, 10] (.many [9, 10]) none (.call 44 0 [(.lst [(.var 9), (.bin .idx (.bin .idx (.var 10) (.k (.int 0))) (.var 7))])]) (zips (r.w.map frD) (ps.map plD)) ⟨[some (.dat L), some (.dat (mapD n ps)), some (.own acc), some (.dat (.str (kindS r.same))), some (.dat (frsD r.w)), some (.dat (frD r.b)), some (.own ws), some (.dat (.int j)), s8, none, none], g⟩ =
      .ok (.list (((r.w.zip ps).map fun p => p.1 * colQ j p.2).map frD)) ⟨[some (.dat L), some (.dat (mapD n ps)), some (.own acc), some (.dat (.str (kindS r.same))), some (.dat (frsD r.w)), some (.dat (frD r.b)), some (.own ws), some (.dat (.int j)), s8, none, none], g⟩ := by
    intro j ws s8 hj
    rw [zips_map]
    have z := lcA_pure (cf := callF (hdOf qsH) tab (m + 3)) (hl := hl) (own := [9, 10]) (tg := .many [9, 10]) (elt := .call 44 0 [(.lst [(.var 9), (.bin .idx (.bin .idx (.var 10) (.k (.int 0))) (.var 7))])]) (ρ := [some (.dat L), some (.dat (mapD n ps)), some (.own acc), some (.dat (.str (kindS r.same))), some (.dat (frsD r.w)), some (.dat (frD r.b)), some (.own ws), some (.dat (.int j)), s8, none, none]) (g := g)
      (fun p : Rat × (List Rat × Rat) => PyData.tuple [frD p.1, plD p.2]) (fun p => frD (p.1 * colQ j p.2)) (r.w.zip ps) (fun p hp' => by
        obtain ⟨h1, h2⟩ := zip_mem hp'
        have hr := cl_eq (L_ltimes m p.1 (colQ j p.2) a b g (hw _ h1) (col_bq (hn _ h2) hj (hp _ h2).1) (by omega))
        refine ⟨[some (.dat L), some (.dat (mapD n ps)), some (.own acc), some (.dat (.str (kindS r.same))), some (.dat (frsD r.w)), some (.dat (frD r.b)), some (.own ws), some (.dat (.int j)), s8, some (.dat (frD p.1)), some (.dat (plD p.2))], rfl, ?_, rfl⟩
        have hj2 : (j : Int) < (p.2.1.map frD).length := by rw [List.length_map, hn _ h2]; omega
        have hat := col_at (hn _ h2) hj
        simp [b_ok, b_er, b_no, fl_ok, fl_er, fl_no, sq_nx, sq_rt, sq_er, sq_bk, sq_ct, sq_no, c_nx, c_rt, c_er, to_ok, to_er, to_no, of_some, of_none, rd_eq, rd_dat, rd_own, ow_eq, ow_own, pu_eq, mm_var, mm_dat, mm_own, mm_mm, mm_scr, ag_eq, ag_some, ag_none, mm_k, mm_gl, mm_tup, mm_lst, mm_un, mm_bin, mm_and, mm_or, mm_ite, mm_slice, mm_call, mm_lc, mm_btup, mm_hall, e_var, e_k, e_gl, e_tup, e_lst, e_un, e_bin, e_and, e_or, e_ite, e_slice, e_call, e_callk, e_lc, e_btup, bt_some, es_nil, es_cons, as_nil, as_cons, o_none, o_some, int_some, j_seq, j_rng, j_zip, zip_tup, j_enum, en_some, s_set', s_setOwn', so_list, s_setN', s_unp', un_some, s_app', ap_some, s_expr', s_ret', s_if', s_for', s_raise', ss_nil, ss_cons, bR_ok, bR_no, shI, shB, shN, eqI, bd_addI, bd_addT, bd_addL, bd_sub, bd_mul, bd_mulL, bd_fdiv, bd_mod, bd_pow, bd_eq, bd_ne, bd_lt, bd_le, bd_gt, bd_ge, bd_gcd, bd_idx, sq_list, sq_tup, if_and, if_or, seq_ite, cr_ite, unD, at_, ixN, intOf, Tg.put, seq_pl, seq_frs] at hj2 ⊢
        simp [hj2, hat] at hat ⊢
        simp [b_ok, b_er, b_no, fl_ok, fl_er, fl_no, sq_nx, sq_rt, sq_er, sq_bk, sq_ct, sq_no, c_nx, c_rt, c_er, to_ok, to_er, to_no, of_some, of_none, rd_eq, rd_dat, rd_own, ow_eq, ow_own, pu_eq, mm_var, mm_dat, mm_own, mm_mm, mm_scr, ag_eq, ag_some, ag_none, mm_k, mm_gl, mm_tup, mm_lst, mm_un, mm_bin, mm_and, mm_or, mm_ite, mm_slice, mm_call, mm_lc, mm_btup, mm_hall, e_var, e_k, e_gl, e_tup, e_lst, e_un, e_bin, e_and, e_or, e_ite, e_slice, e_call, e_callk, e_lc, e_btup, bt_some, es_nil, es_cons, as_nil, as_cons, o_none, o_some, int_some, j_seq, j_rng, j_zip, zip_tup, j_enum, en_some, s_set', s_setOwn', so_list, s_setN', s_unp', un_some, s_app', ap_some, s_expr', s_ret', s_if', s_for', s_raise', ss_nil, ss_cons, bR_ok, bR_no, shI, shB, shN, eqI, bd_addI, bd_addT, bd_addL, bd_sub, bd_mul, bd_mulL, bd_fdiv, bd_mod, bd_pow, bd_eq, bd_ne, bd_lt, bd_le, bd_gt, bd_ge, bd_gcd, bd_idx, sq_list, sq_tup, if_and, if_or, seq_ite, cr_ite, unD, at_, ixN, intOf, Tg.put, hat, hr]) (by rw [List.length_zip]; omega)
    rw [z, List.map_map]
    rfl
  have hloop := for_app (put := (Tg.one 7).put) (b := evalSs (callF (hdOf qsH) tab (m + 3)) hl lpInner) (g := g)
    (fun j : Nat => PyData.int j) (fun j => frD (colSum r.w ps j)) (fun ac (u : Option Sl) => [some (.dat L), some (.dat (mapD n ps)), some (.own acc), some (.dat (.str (kindS r.same))), some (.dat (frsD r.w)), some (.dat (frD r.b)), some (.own ac), u, s8, none, none]) (List.range n) (fun j hj ac u hac => by
      have hj' := List.mem_range.mp hj
      refine ⟨[some (.dat L), some (.dat (mapD n ps)), some (.own acc), some (.dat (.str (kindS r.same))), some (.dat (frsD r.w)), some (.dat (frD r.b)), some (.own ac), some (.dat (.int j)), s8, none, none], some (.dat (.int j)), rfl, ?_⟩
      have ht := cl_eq (ltot_bound m r.w ps a b g hw hp hl5 (by omega) (f := fun p => p.1 * colQ j p.2) (fun p hp' => by
        obtain ⟨h1, h2⟩ := zip_mem hp'
        exact (hw _ h1).times (col_bq (hn _ h2) hj' (hp _ h2).1)))
      rw [List.map_map] at ht
      simp [lpInner, b_ok, b_er, b_no, fl_ok, fl_er, fl_no, sq_nx, sq_rt, sq_er, sq_bk, sq_ct, sq_no, c_nx, c_rt, c_er, to_ok, to_er, to_no, of_some, of_none, rd_eq, rd_dat, rd_own, ow_eq, ow_own, pu_eq, mm_var, mm_dat, mm_own, mm_mm, mm_scr, ag_eq, ag_some, ag_none, mm_k, mm_gl, mm_tup, mm_lst, mm_un, mm_bin, mm_and, mm_or, mm_ite, mm_slice, mm_call, mm_lc, mm_btup, mm_hall, e_var, e_k, e_gl, e_tup, e_lst, e_un, e_bin, e_and, e_or, e_ite, e_slice, e_call, e_callk, e_lc, e_btup, bt_some, es_nil, es_cons, as_nil, as_cons, o_none, o_some, int_some, j_seq, j_rng, j_zip, zip_tup, j_enum, en_some, s_set', s_setOwn', so_list, s_setN', s_unp', un_some, s_app', ap_some, s_expr', s_ret', s_if', s_for', s_raise', ss_nil, ss_cons, bR_ok, bR_no, shI, shB, shN, eqI, bd_addI, bd_addT, bd_addL, bd_sub, bd_mul, bd_mulL, bd_fdiv, bd_mod, bd_pow, bd_eq, bd_ne, bd_lt, bd_le, bd_gt, bd_ge, bd_gcd, bd_idx, sq_list, sq_tup, if_and, if_or, seq_ite, cr_ite, unD, at_, ixN, intOf, Tg.put, seq_map, zip_frs, hc j ac s8 hj', ht, apA_some hac, colSum]) [] s7 (by simp; omega)
  obtain ⟨v, hloop⟩ := hloop
  have hgone := lcA_pure (cf := callF (hdOf qsH) tab (m + 3)) (hl := hl) (own := [9, 10]) (tg := .many [9, 10]) (elt := .call 44 0 [(.lst [(.var 9), (.bin .idx (.var 10) (.k (.int 1)))])]) (ρ := [some (.dat L), some (.dat (mapD n ps)), some (.own acc), some (.dat (.str (kindS r.same))), some (.dat (frsD r.w)), some (.dat (frD r.b)), some (.own (List.map (fun j => frD (colSum r.w ps j)) (List.range n))), v, s8, none, none]) (g := g)
    (fun p : Rat × (List Rat × Rat) => PyData.tuple [frD p.1, plD p.2]) (fun p => frD (p.1 * p.2.2)) (r.w.zip ps) (fun p hp' => by
      obtain ⟨h1, h2⟩ := zip_mem hp'
      have hr := cl_eq (L_ltimes m p.1 p.2.2 a b g (hw _ h1) (hp _ h2).2 (by omega))
      refine ⟨[some (.dat L), some (.dat (mapD n ps)), some (.own acc), some (.dat (.str (kindS r.same))), some (.dat (frsD r.w)), some (.dat (frD r.b)), some (.own (List.map (fun j => frD (colSum r.w ps j)) (List.range n))), v, s8, some (.dat (frD p.1)), some (.dat (plD p.2))], rfl, ?_, rfl⟩
      simp [b_ok, b_er, b_no, fl_ok, fl_er, fl_no, sq_nx, sq_rt, sq_er, sq_bk, sq_ct, sq_no, c_nx, c_rt, c_er, to_ok, to_er, to_no, of_some, of_none, rd_eq, rd_dat, rd_own, ow_eq, ow_own, pu_eq, mm_var, mm_dat, mm_own, mm_mm, mm_scr, ag_eq, ag_some, ag_none, mm_k, mm_gl, mm_tup, mm_lst, mm_un, mm_bin, mm_and, mm_or, mm_ite, mm_slice, mm_call, mm_lc, mm_btup, mm_hall, e_var, e_k, e_gl, e_tup, e_lst, e_un, e_bin, e_and, e_or, e_ite, e_slice, e_call, e_callk, e_lc, e_btup, bt_some, es_nil, es_cons, as_nil, as_cons, o_none, o_some, int_some, j_seq, j_rng, j_zip, zip_tup, j_enum, en_some, s_set', s_setOwn', so_list, s_setN', s_unp', un_some, s_app', ap_some, s_expr', s_ret', s_if', s_for', s_raise', ss_nil, ss_cons, bR_ok, bR_no, shI, shB, shN, eqI, bd_addI, bd_addT, bd_addL, bd_sub, bd_mul, bd_mulL, bd_fdiv, bd_mod, bd_pow, bd_eq, bd_ne, bd_lt, bd_le, bd_gt, bd_ge, bd_gcd, bd_idx, sq_list, sq_tup, if_and, if_or, seq_ite, cr_ite, unD, at_, ixN, intOf, Tg.put, seq_pl, hr]) (by rw [List.length_zip]; omega)
  rw [← zips_map frD plD] at hgone
  have ht := cl_eq (ltot_bound m r.w ps a b g hw hp hl5 (by omega) (f := fun p => p.1 * p.2.2) (fun p hp' => by
    obtain ⟨h1, h2⟩ := zip_mem hp'
    exact (hw _ h1).times (hp _ h2).2))
  rw [List.map_map] at ht
  simp only [Function.comp_def] at ht
  have hmin := cl_eq (L_lminus m r.b (numSum r.w ps) a (1 + (a + b + 1) * 5) g hrb (numSum_bq hw hp hl5) (by omega))
  have hrng : (-1000000 : Int) ≤ n ∧ (n : Int) ≤ 1000000 := by omega
  simp only [List.nil_append] at hloop
  have hcol : rowD (putRow n ps r) = .tuple [.str (kindS r.same), .tuple (List.map (fun j => frD (colSum r.w ps j)) (List.range n)), frD (r.b - numSum r.w ps)] := by
    simp [rowD, putRow, frsD, putW, Function.comp_def]
  rw [hcol]
  simp only [numSum] at hmin ⊢
  refine ⟨(some (.dat (.str (kindS r.same))), some (.dat (frsD r.w)), some (.dat (frD r.b)), some (.own (List.map (fun j => frD (colSum r.w ps j)) (List.range n))), v, some (.dat (frD (sumQ (List.map (fun p => p.1 * p.2.2) (r.w.zip ps)))))), ?_⟩
  simp [lpBody, mkP, b_ok, b_er, b_no, fl_ok, fl_er, fl_no, sq_nx, sq_rt, sq_er, sq_bk, sq_ct, sq_no, c_nx, c_rt, c_er, to_ok, to_er, to_no, of_some, of_none, rd_eq, rd_dat, rd_own, ow_eq, ow_own, pu_eq, mm_var, mm_dat, mm_own, mm_mm, mm_scr, ag_eq, ag_some, ag_none, mm_k, mm_gl, mm_tup, mm_lst, mm_un, mm_bin, mm_and, mm_or, mm_ite, mm_slice, mm_call, mm_lc, mm_btup, mm_hall, e_var, e_k, e_gl, e_tup, e_lst, e_un, e_bin, e_and, e_or, e_ite, e_slice, e_call, e_callk, e_lc, e_btup, bt_some, es_nil, es_cons, as_nil, as_cons, o_none, o_some, int_some, j_seq, j_rng, j_zip, zip_tup, j_enum, en_some, s_set', s_setOwn', so_list, s_setN', s_unp', un_some, s_app', ap_some, s_expr', s_ret', s_if', s_for', s_raise', ss_nil, ss_cons, bR_ok, bR_no, shI, shB, shN, eqI, bd_addI, bd_addT, bd_addL, bd_sub, bd_mul, bd_mulL, bd_fdiv, bd_mod, bd_pow, bd_eq, bd_ne, bd_lt, bd_le, bd_gt, bd_ge, bd_gcd, bd_idx, sq_list, sq_tup, if_and, if_or, seq_ite, cr_ite, unD, at_, ixN, intOf, Tg.put, seq_map, zip_frs, rng_int hrng, hloop, hgone, ht, hmin, backS, wipeS, apA_some hacc]
theorem L_lput (m c n : Nat) (rs : List Row) (ps : Mp) (a b : Nat) (g : G) (hr : RsB a rs) (hl : LotOk c rs) (hp : MpB b ps) (hm : MapOk c n ps) (hb : a + b < 1200) : cl (m + 4) 56 [.dat (lotD c rs), .dat (mapD n ps)] g = .ok (lotD n (rs.map (putRow n ps))) g := by
  rw [run (d := ⟨11, b__law_put, []⟩) rfl]
  generalize HLm (m + 3) _ = hl'
  have hloop := for_app (put := (Tg.many [3, 4, 5]).put) (b := evalSs (callF (hdOf qsH) tab (m + 3)) hl' lpBody) (g := g)
    rowD (fun r => rowD (putRow n ps r)) (mkP (lotD c rs) (mapD n ps)) rs (fun r hr' acc u hacc => by
      obtain ⟨v, z⟩ := lp_row m n hl' (lotD c rs) r ps a b g (hr r hr').1 (hr r hr').2 hp hm.w hm.n5 (by rw [hl.w r hr']; exact hl.n5) hb acc hacc u.2.2.2.1 u.2.2.2.2.1 u.2.2.2.2.2
      exact ⟨_, v, rfl, z⟩) [] (none, none, none, none, none, none) (by have := hl.r60; simp; omega)
  obtain ⟨v, hloop⟩ := hloop
  have e : lotD n (rs.map (putRow n ps)) = .tuple [.int n, .tuple (rs.map fun r => rowD (putRow n ps r))] := by simp [lotD, rowsD, Function.comp_def]
  rw [e]
  simp only [lpBody, lpInner, mkP, List.nil_append] at hloop
  simp [b__law_put, b_ok, b_er, b_no, fl_ok, fl_er, fl_no, sq_nx, sq_rt, sq_er, sq_bk, sq_ct, sq_no, c_nx, c_rt, c_er, to_ok, to_er, to_no, of_some, of_none, rd_eq, rd_dat, rd_own, ow_eq, ow_own, pu_eq, mm_var, mm_dat, mm_own, mm_mm, mm_scr, ag_eq, ag_some, ag_none, mm_k, mm_gl, mm_tup, mm_lst, mm_un, mm_bin, mm_and, mm_or, mm_ite, mm_slice, mm_call, mm_lc, mm_btup, mm_hall, e_var, e_k, e_gl, e_tup, e_lst, e_un, e_bin, e_and, e_or, e_ite, e_slice, e_call, e_callk, e_lc, e_btup, bt_some, es_nil, es_cons, as_nil, as_cons, o_none, o_some, int_some, j_seq, j_rng, j_zip, zip_tup, j_enum, en_some, s_set', s_setOwn', so_list, s_setN', s_unp', un_some, s_app', ap_some, s_expr', s_ret', s_if', s_for', s_raise', ss_nil, ss_cons, bR_ok, bR_no, shI, shB, shN, eqI, bd_addI, bd_addT, bd_addL, bd_sub, bd_mul, bd_mulL, bd_fdiv, bd_mod, bd_pow, bd_eq, bd_ne, bd_lt, bd_le, bd_gt, bd_ge, bd_gcd, bd_idx, sq_list, sq_tup, if_and, if_or, seq_ite, cr_ite, unD, at_, ixN, intOf, Tg.put, seq_lot, seq_map, seq_rows, hloop]
/-! ### one map behind another -/
def behQ (n : Nat) (ps qs : Mp) : Mp := ps.map fun p => (putW n qs p.1, p.2 + numSum p.1 qs)
abbrev S4 : Type := Option Sl × Option Sl × Option Sl × Option Sl
def mkB (L C : D) (acc : List D) (u : S4) : List (Option Sl) := [some (.dat L), some (.dat C), some (.own acc), u.1, u.2.1, u.2.2.1, u.2.2.2, none, none]
def lbInner : List Sx := [(.app 5 (.call 43 0 [(.lc [7, 8] (.many [7, 8]) (.zip (.var 3) (.bin .idx (.var 1) (.k (.int 1)))) none (.call 44 0 [(.lst [(.var 7), (.bin .idx (.bin .idx (.var 8) (.k (.int 0))) (.var 6))])]))]))]
def lbBody : List Sx := [(.setOwn 5 (.lst [])), (.for_ (.one 6) (.rng (.bin .idx (.var 1) (.k (.int 0)))) lbInner), (.app 2 (.tup [(.btup 5), (.call 43 0 [(.bin .add (.lst [(.var 4)]) (.lc [7, 8] (.many [7, 8]) (.zip (.var 3) (.bin .idx (.var 1) (.k (.int 1)))) none (.call 44 0 [(.lst [(.var 7), (.bin .idx (.var 8) (.k (.int 1)))])])))])]))]
theorem lb_row (m n : Nat) (hl : Nat → Sg → R D) (L : D) (p0 : List Rat × Rat) (ps : Mp) (a b : Nat) (g : G) (hw : ∀ q ∈ p0.1, Bq a q) (hrb : Bq a p0.2) (hp : MpB b ps) (hn : ∀ p ∈ ps, p.1.length = n) (hn5 : n ≤ 5) (hl5 : p0.1.length ≤ 5) (hb : a + b < 1200) (acc : List D) (hacc : acc.length < 1000000) (s5 s6 : Option Sl) :
    ∃ v : S4, evalSs (callF (hdOf qsH) tab (m + 3)) hl lbBody ⟨mkB L (mapD n ps) acc (some (.dat (frsD p0.1)), some (.dat (frD p0.2)), s5, s6), g⟩ = .nx ⟨mkB L (mapD n ps) (acc ++ [plD (putW n ps p0.1, p0.2 + numSum p0.1 ps)]) v, g⟩ := by
  have hc : ∀ (j : Nat) (ws : List D), j < n → lcA (callF (hdOf qsH) tab (m + 3)) hl [7, 8] (.many [7, 8]) none (.call 44 0 [(.lst [(.var 7), (.bin .idx (.bin .idx (.var 8) (.k (.int 0))) (.var 6))])]) (zips (p0.1.map frD) (ps.map plD)) ⟨[some (.dat L), some (.dat (mapD n ps)), some (.own acc), some (.dat (frsD p0.1)), some (.dat (frD p0.2)), some (.own ws), some (.dat (.int j)), none, none], g⟩ =
      .ok (.list (((p0.1.zip ps).map fun p => p.1 * colQ j p.2).map frD)) ⟨[some (.dat L), some (.dat (mapD n ps)), some (.own acc), some (.dat (frsD p0.1)), some (.dat (frD p0.2)), some (.own ws), some (.dat (.int j)), none, none], g⟩ := by
    intro j ws hj
    rw [zips_map]
    have z := lcA_pure (cf := callF (hdOf qsH) tab (m + 3)) (hl := hl) (own := [7, 8]) (tg := .many [7, 8]) (elt := .call 44 0 [(.lst [(.var 7), (.bin .idx (.bin .idx (.var 8) (.k (.int 0))) (.var 6))])]) (ρ := [some (.dat L), some (.dat (mapD n ps)), some (.own acc), some (.dat (frsD p0.1)), some (.dat (frD p0.2)), some (.own ws), some (.dat (.int j)), none, none]) (g := g)
      (fun p : Rat × (List Rat × Rat) => PyData.tuple [frD p.1, plD p.2]) (fun p => frD (p.1 * colQ j p.2)) (p0.1.zip ps) (fun p hp' => by
        obtain ⟨h1, h2⟩ := zip_mem hp'
        have hr := cl_eq (L_ltimes m p.1 (colQ j p.2) a b g (hw _ h1) (col_bq (hn _ h2) hj (hp _ h2).1) (by omega))
        refine ⟨[some (.dat L), some (.dat (mapD n ps)), some (.own acc), some (.dat (frsD p0.1)), some (.dat (frD p0.2)), some (.own ws), some (.dat (.int j)), some (.dat (frD p.1)), some (.dat (plD p.2))], rfl, ?_, rfl⟩
        have hj2 : (j : Int) < (p.2.1.map frD).length := by rw [List.length_map, hn _ h2]; omega
        have hat := col_at (hn _ h2) hj
        simp [b_ok, b_er, b_no, fl_ok, fl_er, fl_no, sq_nx, sq_rt, sq_er, sq_bk, sq_ct, sq_no, c_nx, c_rt, c_er, to_ok, to_er, to_no, of_some, of_none, rd_eq, rd_dat, rd_own, ow_eq, ow_own, pu_eq, mm_var, mm_dat, mm_own, mm_mm, mm_scr, ag_eq, ag_some, ag_none, mm_k, mm_gl, mm_tup, mm_lst, mm_un, mm_bin, mm_and, mm_or, mm_ite, mm_slice, mm_call, mm_lc, mm_btup, mm_hall, e_var, e_k, e_gl, e_tup, e_lst, e_un, e_bin, e_and, e_or, e_ite, e_slice, e_call, e_callk, e_lc, e_btup, bt_some, es_nil, es_cons, as_nil, as_cons, o_none, o_some, int_some, j_seq, j_rng, j_zip, zip_tup, j_enum, en_some, s_set', s_setOwn', so_list, s_setN', s_unp', un_some, s_app', ap_some, s_expr', s_ret', s_if', s_for', s_raise', ss_nil, ss_cons, bR_ok, bR_no, shI, shB, shN, eqI, bd_addI, bd_addT, bd_addL, bd_sub, bd_mul, bd_mulL, bd_fdiv, bd_mod, bd_pow, bd_eq, bd_ne, bd_lt, bd_le, bd_gt, bd_ge, bd_gcd, bd_idx, sq_list, sq_tup, if_and, if_or, seq_ite, cr_ite, unD, at_, ixN, intOf, Tg.put, seq_pl, seq_frs] at hj2 ⊢
        simp [hj2, hat] at hat ⊢
        simp [b_ok, b_er, b_no, fl_ok, fl_er, fl_no, sq_nx, sq_rt, sq_er, sq_bk, sq_ct, sq_no, c_nx, c_rt, c_er, to_ok, to_er, to_no, of_some, of_none, rd_eq, rd_dat, rd_own, ow_eq, ow_own, pu_eq, mm_var, mm_dat, mm_own, mm_mm, mm_scr, ag_eq, ag_some, ag_none, mm_k, mm_gl, mm_tup, mm_lst, mm_un, mm_bin, mm_and, mm_or, mm_ite, mm_slice, mm_call, mm_lc, mm_btup, mm_hall, e_var, e_k, e_gl, e_tup, e_lst, e_un, e_bin, e_and, e_or, e_ite, e_slice, e_call, e_callk, e_lc, e_btup, bt_some, es_nil, es_cons, as_nil, as_cons, o_none, o_some, int_some, j_seq, j_rng, j_zip, zip_tup, j_enum, en_some, s_set', s_setOwn', so_list, s_setN', s_unp', un_some, s_app', ap_some, s_expr', s_ret', s_if', s_for', s_raise', ss_nil, ss_cons, bR_ok, bR_no, shI, shB, shN, eqI, bd_addI, bd_addT, bd_addL, bd_sub, bd_mul, bd_mulL, bd_fdiv, bd_mod, bd_pow, bd_eq, bd_ne, bd_lt, bd_le, bd_gt, bd_ge, bd_gcd, bd_idx, sq_list, sq_tup, if_and, if_or, seq_ite, cr_ite, unD, at_, ixN, intOf, Tg.put, hat, hr]) (by rw [List.length_zip]; omega)
    rw [z, List.map_map]
    rfl
  have hloop := for_app (put := (Tg.one 6).put) (b := evalSs (callF (hdOf qsH) tab (m + 3)) hl lbInner) (g := g)
    (fun j : Nat => PyData.int j) (fun j => frD (colSum p0.1 ps j)) (fun ac (u : Option Sl) => [some (.dat L), some (.dat (mapD n ps)), some (.own acc), some (.dat (frsD p0.1)), some (.dat (frD p0.2)), some (.own ac), u, none, none]) (List.range n) (fun j hj ac u hac => by
      have hj' := List.mem_range.mp hj
      refine ⟨[some (.dat L), some (.dat (mapD n ps)), some (.own acc), some (.dat (frsD p0.1)), some (.dat (frD p0.2)), some (.own ac), some (.dat (.int j)), none, none], some (.dat (.int j)), rfl, ?_⟩
      have ht := cl_eq (ltot_bound m p0.1 ps a b g hw hp hl5 (by omega) (f := fun p => p.1 * colQ j p.2) (fun p hp' => by
        obtain ⟨h1, h2⟩ := zip_mem hp'
        exact (hw _ h1).times (col_bq (hn _ h2) hj' (hp _ h2).1)))
      rw [List.map_map] at ht
      simp [lbInner, b_ok, b_er, b_no, fl_ok, fl_er, fl_no, sq_nx, sq_rt, sq_er, sq_bk, sq_ct, sq_no, c_nx, c_rt, c_er, to_ok, to_er, to_no, of_some, of_none, rd_eq, rd_dat, rd_own, ow_eq, ow_own, pu_eq, mm_var, mm_dat, mm_own, mm_mm, mm_scr, ag_eq, ag_some, ag_none, mm_k, mm_gl, mm_tup, mm_lst, mm_un, mm_bin, mm_and, mm_or, mm_ite, mm_slice, mm_call, mm_lc, mm_btup, mm_hall, e_var, e_k, e_gl, e_tup, e_lst, e_un, e_bin, e_and, e_or, e_ite, e_slice, e_call, e_callk, e_lc, e_btup, bt_some, es_nil, es_cons, as_nil, as_cons, o_none, o_some, int_some, j_seq, j_rng, j_zip, zip_tup, j_enum, en_some, s_set', s_setOwn', so_list, s_setN', s_unp', un_some, s_app', ap_some, s_expr', s_ret', s_if', s_for', s_raise', ss_nil, ss_cons, bR_ok, bR_no, shI, shB, shN, eqI, bd_addI, bd_addT, bd_addL, bd_sub, bd_mul, bd_mulL, bd_fdiv, bd_mod, bd_pow, bd_eq, bd_ne, bd_lt, bd_le, bd_gt, bd_ge, bd_gcd, bd_idx, sq_list, sq_tup, if_and, if_or, seq_ite, cr_ite, unD, at_, ixN, intOf, Tg.put, seq_map, zip_frs, hc j ac hj', ht, apA_some hac, colSum]) [] s6 (by simp; omega)
  obtain ⟨v, hloop⟩ := hloop
  have hgone := lcA_pure (cf := callF (hdOf qsH) tab (m + 3)) (hl := hl) (own := [7, 8]) (tg := .many [7, 8]) (elt := .call 44 0 [(.lst [(.var 7), (.bin .idx (.var 8) (.k (.int 1)))])]) (ρ := [some (.dat L), some (.dat (mapD n ps)), some (.own acc), some (.dat (frsD p0.1)), some (.dat (frD p0.2)), some (.own (List.map (fun j => frD (colSum p0.1 ps j)) (List.range n))), v, none, none]) (g := g)
    (fun p : Rat × (List Rat × Rat) => PyData.tuple [frD p.1, plD p.2]) (fun p => frD (p.1 * p.2.2)) (p0.1.zip ps) (fun p hp' => by
      obtain ⟨h1, h2⟩ := zip_mem hp'
      have hr := cl_eq (L_ltimes m p.1 p.2.2 a b g (hw _ h1) (hp _ h2).2 (by omega))
      refine ⟨[some (.dat L), some (.dat (mapD n ps)), some (.own acc), some (.dat (frsD p0.1)), some (.dat (frD p0.2)), some (.own (List.map (fun j => frD (colSum p0.1 ps j)) (List.range n))), v, some (.dat (frD p.1)), some (.dat (plD p.2))], rfl, ?_, rfl⟩
      simp [b_ok, b_er, b_no, fl_ok, fl_er, fl_no, sq_nx, sq_rt, sq_er, sq_bk, sq_ct, sq_no, c_nx, c_rt, c_er, to_ok, to_er, to_no, of_some, of_none, rd_eq, rd_dat, rd_own, ow_eq, ow_own, pu_eq, mm_var, mm_dat, mm_own, mm_mm, mm_scr, ag_eq, ag_some, ag_none, mm_k, mm_gl, mm_tup, mm_lst, mm_un, mm_bin, mm_and, mm_or, mm_ite, mm_slice, mm_call, mm_lc, mm_btup, mm_hall, e_var, e_k, e_gl, e_tup, e_lst, e_un, e_bin, e_and, e_or, e_ite, e_slice, e_call, e_callk, e_lc, e_btup, bt_some, es_nil, es_cons, as_nil, as_cons, o_none, o_some, int_some, j_seq, j_rng, j_zip, zip_tup, j_enum, en_some, s_set', s_setOwn', so_list, s_setN', s_unp', un_some, s_app', ap_some, s_expr', s_ret', s_if', s_for', s_raise', ss_nil, ss_cons, bR_ok, bR_no, shI, shB, shN, eqI, bd_addI, bd_addT, bd_addL, bd_sub, bd_mul, bd_mulL, bd_fdiv, bd_mod, bd_pow, bd_eq, bd_ne, bd_lt, bd_le, bd_gt, bd_ge, bd_gcd, bd_idx, sq_list, sq_tup, if_and, if_or, seq_ite, cr_ite, unD, at_, ixN, intOf, Tg.put, seq_pl, hr]) (by rw [List.length_zip]; omega)
  rw [← zips_map frD plD] at hgone
  have ht := cl_eq (L_lsum m (p0.2 :: (p0.1.zip ps).map fun p => p.1 * p.2.2) (a + b) g (fun q hq => by
    rcases List.mem_cons.mp hq with rfl | hq
    · exact hrb.up (by omega)
    · obtain ⟨p, hp', rfl⟩ := List.mem_map.mp hq
      obtain ⟨h1, h2⟩ := zip_mem hp'
      exact (hw _ h1).times (hp _ h2).2) (by
    have h6 : (p0.2 :: (p0.1.zip ps).map fun p => p.1 * p.2.2).length ≤ 6 := by rw [List.length_cons, List.length_map, List.length_zip]; omega
    have : (a + b + 1) * (p0.2 :: (p0.1.zip ps).map fun p => p.1 * p.2.2).length ≤ (a + b + 1) * 6 := Nat.mul_le_mul_left _ h6
    omega))
  rw [List.map_cons, List.map_map] at ht
  simp only [Function.comp_def, sumQ] at ht
  have hrng : (-1000000 : Int) ≤ n ∧ (n : Int) ≤ 1000000 := by omega
  simp only [List.nil_append] at hloop
  have hcol : plD (putW n ps p0.1, p0.2 + numSum p0.1 ps) = .tuple [.tuple (List.map (fun j => frD (colSum p0.1 ps j)) (List.range n)), frD (p0.2 + numSum p0.1 ps)] := by
    simp [plD, frsD, putW, Function.comp_def]
  rw [hcol]
  have hl1 : ∀ l : List D, l.length ≤ 999000 → binD .add (.list [frD p0.2]) (.list l) = some (.list (frD p0.2 :: l)) := fun l hl => by
    rw [bd_addL, if_pos (by simp; omega)]
    rfl
  have hlen : 1 + min p0.1.length ps.length ≤ 1000000 := by omega
  simp only [numSum] at ht ⊢
  refine ⟨(some (.dat (frsD p0.1)), some (.dat (frD p0.2)), some (.own (List.map (fun j => frD (colSum p0.1 ps j)) (List.range n))), v), ?_⟩
  simp [lbBody, mkB, b_ok, b_er, b_no, fl_ok, fl_er, fl_no, sq_nx, sq_rt, sq_er, sq_bk, sq_ct, sq_no, c_nx, c_rt, c_er, to_ok, to_er, to_no, of_some, of_none, rd_eq, rd_dat, rd_own, ow_eq, ow_own, pu_eq, mm_var, mm_dat, mm_own, mm_mm, mm_scr, ag_eq, ag_some, ag_none, mm_k, mm_gl, mm_tup, mm_lst, mm_un, mm_bin, mm_and, mm_or, mm_ite, mm_slice, mm_call, mm_lc, mm_btup, mm_hall, e_var, e_k, e_gl, e_tup, e_lst, e_un, e_bin, e_and, e_or, e_ite, e_slice, e_call, e_callk, e_lc, e_btup, bt_some, es_nil, es_cons, as_nil, as_cons, o_none, o_some, int_some, j_seq, j_rng, j_zip, zip_tup, j_enum, en_some, s_set', s_setOwn', so_list, s_setN', s_unp', un_some, s_app', ap_some, s_expr', s_ret', s_if', s_for', s_raise', ss_nil, ss_cons, bR_ok, bR_no, shI, shB, shN, eqI, bd_addI, bd_addT, bd_addL, bd_sub, bd_mul, bd_mulL, bd_fdiv, bd_mod, bd_pow, bd_eq, bd_ne, bd_lt, bd_le, bd_gt, bd_ge, bd_gcd, bd_idx, sq_list, sq_tup, if_and, if_or, seq_ite, cr_ite, unD, at_, ixN, intOf, Tg.put, seq_map, zip_frs, rng_int hrng, hloop, hgone, ht, hlen, backS, wipeS, apA_some hacc]
theorem L_behind (m c n n2 : Nat) (ps qs : Mp) (a b : Nat) (g : G) (hp : MpB a ps) (hm : MapOk c n ps) (hq : MpB b qs) (hm2 : MapOk n n2 qs) (hb : a + b < 1200) : cl (m + 4) 57 [.dat (mapD n ps), .dat (mapD n2 qs)] g = .ok (mapD n2 (behQ n2 ps qs)) g := by
  rw [run (d := ⟨9, b__law_behind, []⟩) rfl]
  generalize HLm (m + 3) _ = hl'
  have hloop := for_app (put := (Tg.many [3, 4]).put) (b := evalSs (callF (hdOf qsH) tab (m + 3)) hl' lbBody) (g := g)
    plD (fun p => plD (putW n2 qs p.1, p.2 + numSum p.1 qs)) (mkB (mapD n ps) (mapD n2 qs)) ps (fun p hp' acc u hacc => by
      obtain ⟨v, z⟩ := lb_row m n2 hl' (mapD n ps) p qs a b g (hp p hp').1 (hp p hp').2 hq hm2.w hm2.n5 (by rw [hm.w p hp']; exact hm.n5) hb acc hacc u.2.2.1 u.2.2.2
      exact ⟨_, v, rfl, z⟩) [] (none, none, none, none) (by have := hm.len; have := hm.c5; simp; omega)
  obtain ⟨v, hloop⟩ := hloop
  have e : mapD n2 (behQ n2 ps qs) = .tuple [.int n2, .tuple (ps.map fun p => plD (putW n2 qs p.1, p.2 + numSum p.1 qs))] := by simp [mapD, behQ, Function.comp_def]
  rw [e]
  simp only [lbBody, lbInner, mkB, List.nil_append] at hloop
  simp [b__law_behind, b_ok, b_er, b_no, fl_ok, fl_er, fl_no, sq_nx, sq_rt, sq_er, sq_bk, sq_ct, sq_no, c_nx, c_rt, c_er, to_ok, to_er, to_no, of_some, of_none, rd_eq, rd_dat, rd_own, ow_eq, ow_own, pu_eq, mm_var, mm_dat, mm_own, mm_mm, mm_scr, ag_eq, ag_some, ag_none, mm_k, mm_gl, mm_tup, mm_lst, mm_un, mm_bin, mm_and, mm_or, mm_ite, mm_slice, mm_call, mm_lc, mm_btup, mm_hall, e_var, e_k, e_gl, e_tup, e_lst, e_un, e_bin, e_and, e_or, e_ite, e_slice, e_call, e_callk, e_lc, e_btup, bt_some, es_nil, es_cons, as_nil, as_cons, o_none, o_some, int_some, j_seq, j_rng, j_zip, zip_tup, j_enum, en_some, s_set', s_setOwn', so_list, s_setN', s_unp', un_some, s_app', ap_some, s_expr', s_ret', s_if', s_for', s_raise', ss_nil, ss_cons, bR_ok, bR_no, shI, shB, shN, eqI, bd_addI, bd_addT, bd_addL, bd_sub, bd_mul, bd_mulL, bd_fdiv, bd_mod, bd_pow, bd_eq, bd_ne, bd_lt, bd_le, bd_gt, bd_ge, bd_gcd, bd_idx, sq_list, sq_tup, if_and, if_or, seq_ite, cr_ite, unD, at_, ixN, intOf, Tg.put, seq_map, hloop]
end Pv

namespace Pv
open PySem L2
theorem lcA_draws {cf : Nat → List Sl → G → CR} {hl : Nat → Sg → R D} {own : List Nat} {tg : Tg} {elt : Ex} {ρ : List (Option Sl)} (Q : D → Prop) (c : Nat)
    (h : ∀ d ∈ ds, ∀ k g, Gd (k + c) g → ∃ ρ1 ρ2 y g', tg.put d ⟨wipeS ρ own, g⟩ = some ⟨ρ1, g⟩ ∧ evalE cf hl elt ⟨ρ1, g⟩ = .ok y ⟨ρ2, g'⟩ ∧ wipeS ρ2 own = wipeS ρ own ∧ Gd k g' ∧ Q y) (k : Nat) (g : G) (hn : ds.length ≤ 1000000) (hg : Gd (k + c * ds.length) g) :
    ∃ ys g', Gd k g' ∧ ys.length = ds.length ∧ (∀ y ∈ ys, Q y) ∧ lcA cf hl own tg none elt ds ⟨ρ, g⟩ = .ok (.list ys) ⟨backS ρ (wipeS ρ own) own, g'⟩ := by
  have key : ∀ (es : List D) (acc : List D) (k : Nat) (g : G), (∀ d ∈ es, d ∈ ds) → acc.length + es.length ≤ 1000000 → Gd (k + c * es.length) g → ∃ ys g', Gd k g' ∧ ys.length = es.length ∧ (∀ y ∈ ys, Q y) ∧ lcLoop tg.put (testL cf hl none) (evalE cf hl elt) own es acc ⟨wipeS ρ own, g⟩ = .ok (acc ++ ys) ⟨wipeS ρ own, g'⟩ := by
    intro es
    induction es with
    | nil => exact fun acc k g _ _ hg => ⟨[], g, by simpa using hg, rfl, by simp, by simp [lcLoop]⟩
    | cons d es ih =>
      intro acc k g hm hl' hg
      obtain ⟨ρ1, ρ2, y, g1, h1, h3, h4, h5, h6⟩ := h d (hm d (by simp)) (k + c * es.length) g (by rw [List.length_cons, Nat.mul_add] at hg; rw [Nat.add_assoc]; simpa using hg)
      obtain ⟨ys, g', i1, i2, i3, i4⟩ := ih (acc ++ [y]) k g1 (fun e he => hm e (by simp [he])) (by simp at hl' ⊢; omega) h5
      have hal : acc.length < 1000000 := by simp at hl'; omega
      refine ⟨y :: ys, g', i1, by simp [i2], fun z hz => ?_, ?_⟩
      · rcases List.mem_cons.mp hz with rfl | hz
        · exact h6
        · exact i3 z hz
      · rw [lcLoop]
        simp only [h1, testL, R.quiet, b_ok, if_true, h3, hal, h4]
        rw [i4]
        simp
  obtain ⟨ys, g', i1, i2, i3, i4⟩ := key ds [] k g (fun _ h => h) (by simp; omega) hg
  refine ⟨ys, g', i1, i2, i3, ?_⟩
  unfold lcA
  simp only
  rw [i4]
  simp [b_ok]
theorem ex_map {α : Type} {enc : α → D} {P : α → Prop} : ∀ {ys : List D}, (∀ y ∈ ys, ∃ a, y = enc a ∧ P a) → ∃ l : List α, ys = l.map enc ∧ ∀ a ∈ l, P a
  | [], _ => ⟨[], rfl, by simp⟩
  | y :: ys, h => by
    obtain ⟨a, rfl, ha⟩ := h y (by simp)
    obtain ⟨l, rfl, hl⟩ := ex_map (enc := enc) (P := P) (ys := ys) fun z hz => h z (by simp [hz])
    exact ⟨a :: l, rfl, by simpa using ⟨ha, hl⟩⟩
def odds : List D := [.none, .tuple [.int 2, .int 4], .tuple [.int 1, .int 0], .tuple [.int 1, .int (-2)], .tuple [.int 0, .int 2], .tuple [.int 1, .int 2, .int 3], .list [.int 1, .int 2], .tuple [.bool true, .int 1], .tuple [.int 1, .bool true], .str ("1/2" : Str), .int 1, .tuple [.int 1], .tuple [.int (-3), .int 6]]
theorem odds_no : ∀ d ∈ odds, fracB d = false := by
  intro d hd
  simp only [odds, List.mem_cons, List.not_mem_nil, or_false] at hd
  rcases hd with rfl | rfl | rfl | rfl | rfl | rfl | rfl | rfl | rfl | rfl | rfl | rfl | rfl <;> first | rfl | decide
theorem L_odd (m : Nat) {k : Nat} {g : G} (h : Gd (k + 1) g) : ∃ d g', Gd k g' ∧ d ∈ odds ∧ cl (m + 3) 46 [.mm] g = .ok d g' := by
  obtain ⟨d, g', h1, h2, h3⟩ := L_of odds (by simp [odds]) (by simp [odds]) h
  refine ⟨d, g', h1, h2, ?_⟩
  rw [run (d := ⟨1, b__law_odd_fraction, []⟩) rfl]
  generalize HLm (m + 2) _ = hl
  have z := cl_eq (h3 m)
  simp only [odds] at z
  simp [b__law_odd_fraction, b_ok, b_er, b_no, fl_ok, fl_er, fl_no, sq_nx, sq_rt, sq_er, sq_bk, sq_ct, sq_no, c_nx, c_rt, c_er, to_ok, to_er, to_no, of_some, of_none, rd_eq, rd_dat, rd_own, ow_eq, ow_own, pu_eq, mm_var, mm_dat, mm_own, mm_mm, mm_scr, ag_eq, ag_some, ag_none, mm_k, mm_gl, mm_tup, mm_lst, mm_un, mm_bin, mm_and, mm_or, mm_ite, mm_slice, mm_call, mm_lc, mm_btup, mm_hall, e_var, e_k, e_gl, e_tup, e_lst, e_un, e_bin, e_and, e_or, e_ite, e_slice, e_call, e_callk, e_lc, e_btup, bt_some, es_nil, es_cons, as_nil, as_cons, o_none, o_some, int_some, j_seq, j_rng, j_zip, zip_tup, j_enum, en_some, s_set', s_setOwn', so_list, s_setN', s_unp', un_some, s_app', ap_some, s_expr', s_ret', s_if', s_for', s_raise', ss_nil, ss_cons, bR_ok, bR_no, shI, shB, shN, eqI, bd_addI, bd_addT, bd_addL, bd_sub, bd_mul, bd_mulL, bd_fdiv, bd_mod, bd_pow, bd_eq, bd_ne, bd_lt, bd_le, bd_gt, bd_ge, bd_gcd, bd_idx, sq_list, sq_tup, if_and, if_or, seq_ite, cr_ite, unD, at_, ixN, intOf, Tg.put, z]
def smalls : List D := [.tuple [.int 0, .int 1], .tuple [.int 1, .int 1], .tuple [.int (-1), .int 1], .tuple [.int 2, .int 1], .tuple [.int (-2), .int 1], .tuple [.int 3, .int 1], .tuple [.int 1, .int 2], .tuple [.int (-3), .int 2], .tuple [.int 1, .int 3]]
theorem frD_mk {n : Int} {d : Nat} (h : d ≠ 0) (hc : n.natAbs.Coprime d) : frD ⟨n, d, h, hc⟩ = .tuple [.int n, .int d] := rfl
theorem smalls_fr : ∀ d ∈ smalls, ∃ q, d = frD q ∧ Bq 8 q := by
  intro d hd
  simp only [smalls, List.mem_cons, List.not_mem_nil, or_false] at hd
  rcases hd with rfl | rfl | rfl | rfl | rfl | rfl | rfl | rfl | rfl
  · exact ⟨⟨0, 1, by decide, by decide⟩, rfl, by decide, by decide⟩
  · exact ⟨⟨1, 1, by decide, by decide⟩, rfl, by decide, by decide⟩
  · exact ⟨⟨-1, 1, by decide, by decide⟩, rfl, by decide, by decide⟩
  · exact ⟨⟨2, 1, by decide, by decide⟩, rfl, by decide, by decide⟩
  · exact ⟨⟨-2, 1, by decide, by decide⟩, rfl, by decide, by decide⟩
  · exact ⟨⟨3, 1, by decide, by decide⟩, rfl, by decide, by decide⟩
  · exact ⟨⟨1, 2, by decide, by decide⟩, rfl, by decide, by decide⟩
  · exact ⟨⟨-3, 2, by decide, by decide⟩, rfl, by decide, by decide⟩
  · exact ⟨⟨1, 3, by decide, by decide⟩, rfl, by decide, by decide⟩
theorem L_small (m : Nat) {k : Nat} {g : G} (h : Gd (k + 3) g) : ∃ q g', Gd k g' ∧ Bq 8 q ∧ cl (m + 3) 47 [.mm] g = .ok (frD q) g' := by
  obtain ⟨r1, g1, a1, a2, a3, a4⟩ := L_draw (limit := 9) (k := k + 2) h (by decide) (by decide)
  have z1 := cl_eq (a4 (m + 1))
  by_cases h0 : r1 = 0
  · subst h0
    obtain ⟨r2, g2, b1, b2, b3, b4⟩ := L_draw (limit := 201) (k := k + 1) a1 (by decide) (by decide)
    obtain ⟨r3, g3, c1, c2, c3, c4⟩ := L_draw (limit := 50) (k := k) b1 (by decide) (by decide)
    have z2 := cl_eq (b4 (m + 1))
    have z3 := cl_eq (c4 (m + 1))
    have hu : (r2 - 100).natAbs < 2 ^ 8 := by omega
    have hn : (1 + r3).natAbs < 2 ^ 8 := by omega
    have z4 := cl_eq (L_lratio m (r2 - 100) (1 + r3) g3 (by omega) (Pv.up hn (by decide)))
    refine ⟨_, g3, c1, bq_div (by omega) hu hn, ?_⟩
    rw [run (d := ⟨1, b__law_small, []⟩) rfl]
    generalize HLm (m + 2) _ = hl
    simp [b__law_small, b_ok, b_er, b_no, fl_ok, fl_er, fl_no, sq_nx, sq_rt, sq_er, sq_bk, sq_ct, sq_no, c_nx, c_rt, c_er, to_ok, to_er, to_no, of_some, of_none, rd_eq, rd_dat, rd_own, ow_eq, ow_own, pu_eq, mm_var, mm_dat, mm_own, mm_mm, mm_scr, ag_eq, ag_some, ag_none, mm_k, mm_gl, mm_tup, mm_lst, mm_un, mm_bin, mm_and, mm_or, mm_ite, mm_slice, mm_call, mm_lc, mm_btup, mm_hall, e_var, e_k, e_gl, e_tup, e_lst, e_un, e_bin, e_and, e_or, e_ite, e_slice, e_call, e_callk, e_lc, e_btup, bt_some, es_nil, es_cons, as_nil, as_cons, o_none, o_some, int_some, j_seq, j_rng, j_zip, zip_tup, j_enum, en_some, s_set', s_setOwn', so_list, s_setN', s_unp', un_some, s_app', ap_some, s_expr', s_ret', s_if', s_for', s_raise', ss_nil, ss_cons, bR_ok, bR_no, shI, shB, shN, eqI, bd_addI, bd_addT, bd_addL, bd_sub, bd_mul, bd_mulL, bd_fdiv, bd_mod, bd_pow, bd_eq, bd_ne, bd_lt, bd_le, bd_gt, bd_ge, bd_gcd, bd_idx, sq_list, sq_tup, if_and, if_or, seq_ite, cr_ite, unD, at_, ixN, intOf, Tg.put, z1, z2, z3, z4]
  · obtain ⟨d, g2, b1, b2, b3⟩ := L_of (k := k + 1) smalls (by simp [smalls]) (by simp [smalls]) a1
    obtain ⟨q, rfl, hq⟩ := smalls_fr d b2
    refine ⟨q, g2, b1.less (by omega), hq, ?_⟩
    have z2 := cl_eq (b3 m)
    rw [run (d := ⟨1, b__law_small, []⟩) rfl]
    generalize HLm (m + 2) _ = hl
    simp only [smalls] at z2
    simp [b__law_small, b_ok, b_er, b_no, fl_ok, fl_er, fl_no, sq_nx, sq_rt, sq_er, sq_bk, sq_ct, sq_no, c_nx, c_rt, c_er, to_ok, to_er, to_no, of_some, of_none, rd_eq, rd_dat, rd_own, ow_eq, ow_own, pu_eq, mm_var, mm_dat, mm_own, mm_mm, mm_scr, ag_eq, ag_some, ag_none, mm_k, mm_gl, mm_tup, mm_lst, mm_un, mm_bin, mm_and, mm_or, mm_ite, mm_slice, mm_call, mm_lc, mm_btup, mm_hall, e_var, e_k, e_gl, e_tup, e_lst, e_un, e_bin, e_and, e_or, e_ite, e_slice, e_call, e_callk, e_lc, e_btup, bt_some, es_nil, es_cons, as_nil, as_cons, o_none, o_some, int_some, j_seq, j_rng, j_zip, zip_tup, j_enum, en_some, s_set', s_setOwn', so_list, s_setN', s_unp', un_some, s_app', ap_some, s_expr', s_ret', s_if', s_for', s_raise', ss_nil, ss_cons, bR_ok, bR_no, shI, shB, shN, eqI, bd_addI, bd_addT, bd_addL, bd_sub, bd_mul, bd_mulL, bd_fdiv, bd_mod, bd_pow, bd_eq, bd_ne, bd_lt, bd_le, bd_gt, bd_ge, bd_gcd, bd_idx, sq_list, sq_tup, if_and, if_or, seq_ite, cr_ite, unD, at_, ixN, intOf, Tg.put, z1, z2, h0]
def wholes : List D := [.int 0, .int 0, .int 1, .int 1, .int (-1), .int (-1), .int 2, .int (-2), .int 3]
theorem frD_int (z : Int) : frD (z : Rat) = .tuple [.int z, .int 1] := by
  simp [frD, Rat.num_intCast, Rat.den_intCast]
theorem bq_int {z : Int} {b : Nat} (h : z.natAbs < 2 ^ b) (h0 : 0 < b) : Bq b (z : Rat) := ⟨by rw [Rat.num_intCast]; exact h, by rw [Rat.den_intCast]; exact Nat.one_lt_two_pow (by omega)⟩
theorem wholes_int : ∀ d ∈ wholes, ∃ z : Int, d = .int z ∧ z.natAbs < 2 ^ 2 := by
  intro d hd
  simp only [wholes, List.mem_cons, List.not_mem_nil, or_false] at hd
  rcases hd with rfl | rfl | rfl | rfl | rfl | rfl | rfl | rfl | rfl <;> exact ⟨_, rfl, by decide⟩
theorem L_whole_row (m n : Nat) {k : Nat} {g : G} (hn : n ≤ 5) (h : Gd (k + 5) g) : ∃ w g', Gd k g' ∧ w.length = n ∧ (∀ q ∈ w, Bq 2 q) ∧ cl (m + 3) 48 [.mm, .dat (.int n)] g = .ok (frsD w) g' := by
  rw [run (d := ⟨3, b__law_whole_row, []⟩) rfl]
  generalize HLm (m + 2) _ = hl
  obtain ⟨ys, g', h1, h2, h3, h4⟩ := lcA_draws (cf := callF (hdOf qsH) tab (m + 2)) (hl := hl) (own := [2]) (tg := .one 2) (elt := .tup [(.call 39 0 [(.var 0), (.lst [(.k (.int 0)), (.k (.int 0)), (.k (.int 1)), (.k (.int 1)), (.un .neg (.k (.int 1))), (.un .neg (.k (.int 1))), (.k (.int 2)), (.un .neg (.k (.int 2))), (.k (.int 3))])]), (.k (.int 1))]) (ρ := [some .mm, some (.dat (.int n)), none])
    (fun y => ∃ q, y = frD q ∧ Bq 2 q) 1 (ds := (List.range n).map fun (j : Nat) => PyData.int j) (fun d hd k g hg => by
      obtain ⟨e, g1, a1, a2, a3⟩ := L_of wholes (by simp [wholes]) (by simp [wholes]) hg
      obtain ⟨z, rfl, hz⟩ := wholes_int e a2
      have z1 := cl_eq (a3 m)
      simp only [wholes] at z1
      refine ⟨[some .mm, some (.dat (.int n)), some (.dat d)], [some .mm, some (.dat (.int n)), some (.dat d)], _, g1, rfl, ?_, rfl, a1, (z : Rat), (frD_int z).symm, bq_int hz (by decide)⟩
      simp [b_ok, b_er, b_no, fl_ok, fl_er, fl_no, sq_nx, sq_rt, sq_er, sq_bk, sq_ct, sq_no, c_nx, c_rt, c_er, to_ok, to_er, to_no, of_some, of_none, rd_eq, rd_dat, rd_own, ow_eq, ow_own, pu_eq, mm_var, mm_dat, mm_own, mm_mm, mm_scr, ag_eq, ag_some, ag_none, mm_k, mm_gl, mm_tup, mm_lst, mm_un, mm_bin, mm_and, mm_or, mm_ite, mm_slice, mm_call, mm_lc, mm_btup, mm_hall, e_var, e_k, e_gl, e_tup, e_lst, e_un, e_bin, e_and, e_or, e_ite, e_slice, e_call, e_callk, e_lc, e_btup, bt_some, es_nil, es_cons, as_nil, as_cons, o_none, o_some, int_some, j_seq, j_rng, j_zip, zip_tup, j_enum, en_some, s_set', s_setOwn', so_list, s_setN', s_unp', un_some, s_app', ap_some, s_expr', s_ret', s_if', s_for', s_raise', ss_nil, ss_cons, bR_ok, bR_no, shI, shB, shN, eqI, bd_addI, bd_addT, bd_addL, bd_sub, bd_mul, bd_mulL, bd_fdiv, bd_mod, bd_pow, bd_eq, bd_ne, bd_lt, bd_le, bd_gt, bd_ge, bd_gcd, bd_idx, sq_list, sq_tup, if_and, if_or, seq_ite, cr_ite, unD, at_, ixN, intOf, Tg.put, z1]) k g (by simp; omega) (by rw [List.length_map, List.length_range]; exact h.less (by omega))
  obtain ⟨w, rfl, hw⟩ := ex_map h3
  rw [List.length_map, List.length_map, List.length_range] at h2
  have hrng : (-1000000 : Int) ≤ n ∧ (n : Int) ≤ 1000000 := by omega
  refine ⟨w, g', h1, h2, hw, ?_⟩
  simp [b__law_whole_row, b_ok, b_er, b_no, fl_ok, fl_er, fl_no, sq_nx, sq_rt, sq_er, sq_bk, sq_ct, sq_no, c_nx, c_rt, c_er, to_ok, to_er, to_no, of_some, of_none, rd_eq, rd_dat, rd_own, ow_eq, ow_own, pu_eq, mm_var, mm_dat, mm_own, mm_mm, mm_scr, ag_eq, ag_some, ag_none, mm_k, mm_gl, mm_tup, mm_lst, mm_un, mm_bin, mm_and, mm_or, mm_ite, mm_slice, mm_call, mm_lc, mm_btup, mm_hall, e_var, e_k, e_gl, e_tup, e_lst, e_un, e_bin, e_and, e_or, e_ite, e_slice, e_call, e_callk, e_lc, e_btup, bt_some, es_nil, es_cons, as_nil, as_cons, o_none, o_some, int_some, j_seq, j_rng, j_zip, zip_tup, j_enum, en_some, s_set', s_setOwn', so_list, s_setN', s_unp', un_some, s_app', ap_some, s_expr', s_ret', s_if', s_for', s_raise', ss_nil, ss_cons, bR_ok, bR_no, shI, shB, shN, eqI, bd_addI, bd_addT, bd_addL, bd_sub, bd_mul, bd_mulL, bd_fdiv, bd_mod, bd_pow, bd_eq, bd_ne, bd_lt, bd_le, bd_gt, bd_ge, bd_gcd, bd_idx, sq_list, sq_tup, if_and, if_or, seq_ite, cr_ite, unD, at_, ixN, intOf, Tg.put, rng_int hrng, h4, backS, wipeS, frsD]
theorem L_point (m n : Nat) {k : Nat} {g : G} (hn : n ≤ 5) (h : Gd (k + 15) g) : ∃ w g', Gd k g' ∧ w.length = n ∧ (∀ q ∈ w, Bq 8 q) ∧ cl (m + 4) 49 [.mm, .dat (.int n)] g = .ok (frsD w) g' := by
  rw [run (d := ⟨3, b__law_point, []⟩) rfl]
  generalize HLm (m + 3) _ = hl
  obtain ⟨ys, g', h1, h2, h3, h4⟩ := lcA_draws (cf := callF (hdOf qsH) tab (m + 3)) (hl := hl) (own := [2]) (tg := .one 2) (elt := .call 47 0 [(.var 0)]) (ρ := [some .mm, some (.dat (.int n)), none])
    (fun y => ∃ q, y = frD q ∧ Bq 8 q) 3 (ds := (List.range n).map fun (j : Nat) => PyData.int j) (fun d hd k g hg => by
      obtain ⟨q, g1, a1, a2, a3⟩ := L_small m hg
      have z1 := cl_eq a3
      refine ⟨[some .mm, some (.dat (.int n)), some (.dat d)], [some .mm, some (.dat (.int n)), some (.dat d)], _, g1, rfl, ?_, rfl, a1, q, rfl, a2⟩
      simp [b_ok, b_er, b_no, fl_ok, fl_er, fl_no, sq_nx, sq_rt, sq_er, sq_bk, sq_ct, sq_no, c_nx, c_rt, c_er, to_ok, to_er, to_no, of_some, of_none, rd_eq, rd_dat, rd_own, ow_eq, ow_own, pu_eq, mm_var, mm_dat, mm_own, mm_mm, mm_scr, ag_eq, ag_some, ag_none, mm_k, mm_gl, mm_tup, mm_lst, mm_un, mm_bin, mm_and, mm_or, mm_ite, mm_slice, mm_call, mm_lc, mm_btup, mm_hall, e_var, e_k, e_gl, e_tup, e_lst, e_un, e_bin, e_and, e_or, e_ite, e_slice, e_call, e_callk, e_lc, e_btup, bt_some, es_nil, es_cons, as_nil, as_cons, o_none, o_some, int_some, j_seq, j_rng, j_zip, zip_tup, j_enum, en_some, s_set', s_setOwn', so_list, s_setN', s_unp', un_some, s_app', ap_some, s_expr', s_ret', s_if', s_for', s_raise', ss_nil, ss_cons, bR_ok, bR_no, shI, shB, shN, eqI, bd_addI, bd_addT, bd_addL, bd_sub, bd_mul, bd_mulL, bd_fdiv, bd_mod, bd_pow, bd_eq, bd_ne, bd_lt, bd_le, bd_gt, bd_ge, bd_gcd, bd_idx, sq_list, sq_tup, if_and, if_or, seq_ite, cr_ite, unD, at_, ixN, intOf, Tg.put, z1]) k g (by simp; omega) (by rw [List.length_map, List.length_range]; exact h.less (by omega))
  obtain ⟨w, rfl, hw⟩ := ex_map h3
  rw [List.length_map, List.length_map, List.length_range] at h2
  have hrng : (-1000000 : Int) ≤ n ∧ (n : Int) ≤ 1000000 := by omega
  refine ⟨w, g', h1, h2, hw, ?_⟩
  simp [b__law_point, b_ok, b_er, b_no, fl_ok, fl_er, fl_no, sq_nx, sq_rt, sq_er, sq_bk, sq_ct, sq_no, c_nx, c_rt, c_er, to_ok, to_er, to_no, of_some, of_none, rd_eq, rd_dat, rd_own, ow_eq, ow_own, pu_eq, mm_var, mm_dat, mm_own, mm_mm, mm_scr, ag_eq, ag_some, ag_none, mm_k, mm_gl, mm_tup, mm_lst, mm_un, mm_bin, mm_and, mm_or, mm_ite, mm_slice, mm_call, mm_lc, mm_btup, mm_hall, e_var, e_k, e_gl, e_tup, e_lst, e_un, e_bin, e_and, e_or, e_ite, e_slice, e_call, e_callk, e_lc, e_btup, bt_some, es_nil, es_cons, as_nil, as_cons, o_none, o_some, int_some, j_seq, j_rng, j_zip, zip_tup, j_enum, en_some, s_set', s_setOwn', so_list, s_setN', s_unp', un_some, s_app', ap_some, s_expr', s_ret', s_if', s_for', s_raise', ss_nil, ss_cons, bR_ok, bR_no, shI, shB, shN, eqI, bd_addI, bd_addT, bd_addL, bd_sub, bd_mul, bd_mulL, bd_fdiv, bd_mod, bd_pow, bd_eq, bd_ne, bd_lt, bd_le, bd_gt, bd_ge, bd_gcd, bd_idx, sq_list, sq_tup, if_and, if_or, seq_ite, cr_ite, unD, at_, ixN, intOf, Tg.put, rng_int hrng, h4, backS, wipeS, frsD]
def kinds : List D := [.str ("most" : Str), .str ("most" : Str), .str ("most" : Str), .str ("same" : Str)]
theorem kinds_of : ∀ d ∈ kinds, ∃ s, d = .str (kindS s) := by
  intro d hd
  simp only [kinds, List.mem_cons, List.not_mem_nil, or_false] at hd
  rcases hd with rfl | rfl | rfl | rfl
  · exact ⟨false, rfl⟩
  · exact ⟨false, rfl⟩
  · exact ⟨false, rfl⟩
  · exact ⟨true, rfl⟩
theorem L_row (m n : Nat) {k : Nat} {g : G} (hn : n ≤ 5) (h : Gd (k + 7) g) : ∃ r g', Gd k g' ∧ r.w.length = n ∧ (∀ q ∈ r.w, Bq 4 q) ∧ Bq 4 r.b ∧ cl (m + 4) 51 [.mm, .dat (.int n)] g = .ok (rowD r) g' := by
  obtain ⟨d, g1, a1, a2, a3⟩ := L_of (k := k + 6) kinds (by simp [kinds]) (by simp [kinds]) h
  obtain ⟨s, rfl⟩ := kinds_of d a2
  obtain ⟨w, g2, b1, b2, b3, b4⟩ := L_whole_row m n (k := k + 1) hn (by simpa [Nat.add_assoc] using a1)
  obtain ⟨z, g3, c1, c2, c3, c4⟩ := L_draw (limit := 9) (k := k) b1 (by decide) (by decide)
  refine ⟨⟨s, w, ((z - 3 : Int) : Rat)⟩, g3, c1, b2, fun q hq => (b3 q hq).up (by decide), bq_int (by omega) (by decide), ?_⟩
  rw [run (d := ⟨2, b__law_row, []⟩) rfl]
  generalize HLm (m + 3) _ = hl
  have z1 := cl_eq (a3 (m + 1))
  have z2 := cl_eq b4
  have z3 := cl_eq (c4 (m + 2))
  simp only [kinds] at z1
  have e : rowD ⟨s, w, ((z - 3 : Int) : Rat)⟩ = .tuple [.str (kindS s), frsD w, .tuple [.int (z - 3), .int 1]] := by
    simp only [rowD, frD_int]
  rw [e]
  simp [b__law_row, b_ok, b_er, b_no, fl_ok, fl_er, fl_no, sq_nx, sq_rt, sq_er, sq_bk, sq_ct, sq_no, c_nx, c_rt, c_er, to_ok, to_er, to_no, of_some, of_none, rd_eq, rd_dat, rd_own, ow_eq, ow_own, pu_eq, mm_var, mm_dat, mm_own, mm_mm, mm_scr, ag_eq, ag_some, ag_none, mm_k, mm_gl, mm_tup, mm_lst, mm_un, mm_bin, mm_and, mm_or, mm_ite, mm_slice, mm_call, mm_lc, mm_btup, mm_hall, e_var, e_k, e_gl, e_tup, e_lst, e_un, e_bin, e_and, e_or, e_ite, e_slice, e_call, e_callk, e_lc, e_btup, bt_some, es_nil, es_cons, as_nil, as_cons, o_none, o_some, int_some, j_seq, j_rng, j_zip, zip_tup, j_enum, en_some, s_set', s_setOwn', so_list, s_setN', s_unp', un_some, s_app', ap_some, s_expr', s_ret', s_if', s_for', s_raise', ss_nil, ss_cons, bR_ok, bR_no, shI, shB, shN, eqI, bd_addI, bd_addT, bd_addL, bd_sub, bd_mul, bd_mulL, bd_fdiv, bd_mod, bd_pow, bd_eq, bd_ne, bd_lt, bd_le, bd_gt, bd_ge, bd_gcd, bd_idx, sq_list, sq_tup, if_and, if_or, seq_ite, cr_ite, unD, at_, ixN, intOf, Tg.put, z1, z2, z3]
theorem L_lot (m n : Nat) {k : Nat} {g : G} (hn : n ≤ 5) (h : Gd (k + 36) g) : ∃ rs g', Gd k g' ∧ LotOk n rs ∧ RsB 4 rs ∧ cl (m + 5) 52 [.mm, .dat (.int n), .dat (.int 5)] g = .ok (lotD n rs) g' := by
  rw [run (d := ⟨4, b__law_lot, []⟩) rfl]
  generalize HLm (m + 4) _ = hl
  obtain ⟨z, g1, c1, c2, c3, c4⟩ := L_draw (limit := 6) (k := k + 35) h (by decide) (by decide)
  have z1 := cl_eq (c4 (m + 3))
  obtain ⟨ys, g', h1, h2, h3, h4⟩ := lcA_draws (cf := callF (hdOf qsH) tab (m + 4)) (hl := hl) (own := [3]) (tg := .one 3) (elt := .call 51 0 [(.var 0), (.var 1)]) (ρ := [some .mm, some (.dat (.int n)), some (.dat (.int 5)), none])
    (fun y => ∃ r, y = rowD r ∧ (r.w.length = n ∧ (∀ q ∈ r.w, Bq 4 q) ∧ Bq 4 r.b)) 7 (ds := (List.range z.toNat).map fun (j : Nat) => PyData.int j) (fun d hd k g hg => by
      obtain ⟨r, g1, a1, a2, a3, a4, a5⟩ := L_row m n hn hg
      have z1 := cl_eq a5
      refine ⟨[some .mm, some (.dat (.int n)), some (.dat (.int 5)), some (.dat d)], [some .mm, some (.dat (.int n)), some (.dat (.int 5)), some (.dat d)], _, g1, rfl, ?_, rfl, a1, r, rfl, a2, a3, a4⟩
      simp [b_ok, b_er, b_no, fl_ok, fl_er, fl_no, sq_nx, sq_rt, sq_er, sq_bk, sq_ct, sq_no, c_nx, c_rt, c_er, to_ok, to_er, to_no, of_some, of_none, rd_eq, rd_dat, rd_own, ow_eq, ow_own, pu_eq, mm_var, mm_dat, mm_own, mm_mm, mm_scr, ag_eq, ag_some, ag_none, mm_k, mm_gl, mm_tup, mm_lst, mm_un, mm_bin, mm_and, mm_or, mm_ite, mm_slice, mm_call, mm_lc, mm_btup, mm_hall, e_var, e_k, e_gl, e_tup, e_lst, e_un, e_bin, e_and, e_or, e_ite, e_slice, e_call, e_callk, e_lc, e_btup, bt_some, es_nil, es_cons, as_nil, as_cons, o_none, o_some, int_some, j_seq, j_rng, j_zip, zip_tup, j_enum, en_some, s_set', s_setOwn', so_list, s_setN', s_unp', un_some, s_app', ap_some, s_expr', s_ret', s_if', s_for', s_raise', ss_nil, ss_cons, bR_ok, bR_no, shI, shB, shN, eqI, bd_addI, bd_addT, bd_addL, bd_sub, bd_mul, bd_mulL, bd_fdiv, bd_mod, bd_pow, bd_eq, bd_ne, bd_lt, bd_le, bd_gt, bd_ge, bd_gcd, bd_idx, sq_list, sq_tup, if_and, if_or, seq_ite, cr_ite, unD, at_, ixN, intOf, Tg.put, z1]) k g1 (by simp; omega) (by rw [List.length_map, List.length_range]; exact c1.less (by omega))
  obtain ⟨rs, rfl, hw⟩ := ex_map h3
  rw [List.length_map, List.length_map, List.length_range] at h2
  have hrng : (-1000000 : Int) ≤ z ∧ z ≤ 1000000 := by omega
  refine ⟨rs, g', h1, ⟨hn, by omega, fun r hr => (hw r hr).1⟩, fun r hr => (hw r hr).2, ?_⟩
  simp [b__law_lot, b_ok, b_er, b_no, fl_ok, fl_er, fl_no, sq_nx, sq_rt, sq_er, sq_bk, sq_ct, sq_no, c_nx, c_rt, c_er, to_ok, to_er, to_no, of_some, of_none, rd_eq, rd_dat, rd_own, ow_eq, ow_own, pu_eq, mm_var, mm_dat, mm_own, mm_mm, mm_scr, ag_eq, ag_some, ag_none, mm_k, mm_gl, mm_tup, mm_lst, mm_un, mm_bin, mm_and, mm_or, mm_ite, mm_slice, mm_call, mm_lc, mm_btup, mm_hall, e_var, e_k, e_gl, e_tup, e_lst, e_un, e_bin, e_and, e_or, e_ite, e_slice, e_call, e_callk, e_lc, e_btup, bt_some, es_nil, es_cons, as_nil, as_cons, o_none, o_some, int_some, j_seq, j_rng, j_zip, zip_tup, j_enum, en_some, s_set', s_setOwn', so_list, s_setN', s_unp', un_some, s_app', ap_some, s_expr', s_ret', s_if', s_for', s_raise', ss_nil, ss_cons, bR_ok, bR_no, shI, shB, shN, eqI, bd_addI, bd_addT, bd_addL, bd_sub, bd_mul, bd_mulL, bd_fdiv, bd_mod, bd_pow, bd_eq, bd_ne, bd_lt, bd_le, bd_gt, bd_ge, bd_gcd, bd_idx, sq_list, sq_tup, if_and, if_or, seq_ite, cr_ite, unD, at_, ixN, intOf, Tg.put, z1, rng_int hrng, h4, backS, wipeS, lotD, rowsD]
theorem L_map (m c n : Nat) {k : Nat} {g : G} (hc : c ≤ 5) (hn : n ≤ 5) (h : Gd (k + 40) g) : ∃ ps g', Gd k g' ∧ MapOk c n ps ∧ MpB 8 ps ∧ cl (m + 4) 54 [.mm, .dat (.int c), .dat (.int n)] g = .ok (mapD n ps) g' := by
  rw [run (d := ⟨4, b__law_map, []⟩) rfl]
  generalize HLm (m + 3) _ = hl
  obtain ⟨ys, g', h1, h2, h3, h4⟩ := lcA_draws (cf := callF (hdOf qsH) tab (m + 3)) (hl := hl) (own := [3]) (tg := .one 3) (elt := .tup [(.call 48 0 [(.var 0), (.var 2)]), (.call 47 0 [(.var 0)])]) (ρ := [some .mm, some (.dat (.int c)), some (.dat (.int n)), none])
    (fun y => ∃ p, y = plD p ∧ (p.1.length = n ∧ (∀ q ∈ p.1, Bq 8 q) ∧ Bq 8 p.2)) 8 (ds := (List.range c).map fun (j : Nat) => PyData.int j) (fun d hd k g hg => by
      obtain ⟨w, g1, a1, a2, a3, a4⟩ := L_whole_row m n (k := k + 3) hn (by simpa [Nat.add_assoc] using hg)
      obtain ⟨q, g2, b1, b2, b3⟩ := L_small m a1
      have z1 := cl_eq a4
      have z2 := cl_eq b3
      refine ⟨[some .mm, some (.dat (.int c)), some (.dat (.int n)), some (.dat d)], [some .mm, some (.dat (.int c)), some (.dat (.int n)), some (.dat d)], _, g2, rfl, ?_, rfl, b1, (w, q), rfl, a2, fun q hq => (a3 q hq).up (by decide), b2⟩
      simp [b_ok, b_er, b_no, fl_ok, fl_er, fl_no, sq_nx, sq_rt, sq_er, sq_bk, sq_ct, sq_no, c_nx, c_rt, c_er, to_ok, to_er, to_no, of_some, of_none, rd_eq, rd_dat, rd_own, ow_eq, ow_own, pu_eq, mm_var, mm_dat, mm_own, mm_mm, mm_scr, ag_eq, ag_some, ag_none, mm_k, mm_gl, mm_tup, mm_lst, mm_un, mm_bin, mm_and, mm_or, mm_ite, mm_slice, mm_call, mm_lc, mm_btup, mm_hall, e_var, e_k, e_gl, e_tup, e_lst, e_un, e_bin, e_and, e_or, e_ite, e_slice, e_call, e_callk, e_lc, e_btup, bt_some, es_nil, es_cons, as_nil, as_cons, o_none, o_some, int_some, j_seq, j_rng, j_zip, zip_tup, j_enum, en_some, s_set', s_setOwn', so_list, s_setN', s_unp', un_some, s_app', ap_some, s_expr', s_ret', s_if', s_for', s_raise', ss_nil, ss_cons, bR_ok, bR_no, shI, shB, shN, eqI, bd_addI, bd_addT, bd_addL, bd_sub, bd_mul, bd_mulL, bd_fdiv, bd_mod, bd_pow, bd_eq, bd_ne, bd_lt, bd_le, bd_gt, bd_ge, bd_gcd, bd_idx, sq_list, sq_tup, if_and, if_or, seq_ite, cr_ite, unD, at_, ixN, intOf, Tg.put, z1, z2, plD]) k g (by simp; omega) (by rw [List.length_map, List.length_range]; exact h.less (by omega))
  obtain ⟨ps, rfl, hw⟩ := ex_map h3
  rw [List.length_map, List.length_map, List.length_range] at h2
  have hrng : (-1000000 : Int) ≤ c ∧ (c : Int) ≤ 1000000 := by omega
  refine ⟨ps, g', h1, ⟨hn, hc, h2, fun p hp => (hw p hp).1⟩, fun p hp => (hw p hp).2, ?_⟩
  simp [b__law_map, b_ok, b_er, b_no, fl_ok, fl_er, fl_no, sq_nx, sq_rt, sq_er, sq_bk, sq_ct, sq_no, c_nx, c_rt, c_er, to_ok, to_er, to_no, of_some, of_none, rd_eq, rd_dat, rd_own, ow_eq, ow_own, pu_eq, mm_var, mm_dat, mm_own, mm_mm, mm_scr, ag_eq, ag_some, ag_none, mm_k, mm_gl, mm_tup, mm_lst, mm_un, mm_bin, mm_and, mm_or, mm_ite, mm_slice, mm_call, mm_lc, mm_btup, mm_hall, e_var, e_k, e_gl, e_tup, e_lst, e_un, e_bin, e_and, e_or, e_ite, e_slice, e_call, e_callk, e_lc, e_btup, bt_some, es_nil, es_cons, as_nil, as_cons, o_none, o_some, int_some, j_seq, j_rng, j_zip, zip_tup, j_enum, en_some, s_set', s_setOwn', so_list, s_setN', s_unp', un_some, s_app', ap_some, s_expr', s_ret', s_if', s_for', s_raise', ss_nil, ss_cons, bR_ok, bR_no, shI, shB, shN, eqI, bd_addI, bd_addT, bd_addL, bd_sub, bd_mul, bd_mulL, bd_fdiv, bd_mod, bd_pow, bd_eq, bd_ne, bd_lt, bd_le, bd_gt, bd_ge, bd_gcd, bd_idx, sq_list, sq_tup, if_and, if_or, seq_ite, cr_ite, unD, at_, ixN, intOf, Tg.put, rng_int hrng, h4, backS, wipeS, mapD]
end Pv

namespace Pv
open PySem L2
/-- data that _law_like can look through, n deep -/
inductive Lk : Nat → D → Prop
  | none {n : Nat} : Lk n .none
  | bool {n : Nat} (b : Bool) : Lk n (.bool b)
  | int {n : Nat} (i : Int) : Lk n (.int i)
  | str {n : Nat} {x : Str} (h : SeqAt.shaped (.str x) = true) : Lk n (.str x)
  | list {n : Nat} {ds : List D} (h : ∀ d ∈ ds, Lk n d) (hl : ds.length ≤ 1000000) : Lk (n + 1) (.list ds)
  | tuple {n : Nat} {ds : List D} (h : ∀ d ∈ ds, Lk n d) (hl : ds.length ≤ 1000000) : Lk (n + 1) (.tuple ds)
theorem eqS (x : Str) : PyData.eqv (.str x) (.str x) = true := by simp [PyData.eqv]
theorem eqB (x : Bool) : PyData.eqv (.bool x) (.bool x) = true := by simp [PyData.eqv]
def likeBody : List Sx := [(.if_ (.un .not (.call 40 0 [(.bin .idx (.var 0) (.var 2)), (.bin .idx (.var 1) (.var 2))])) [(.ret (.k (.bool false)))] [])]
theorem like_loop (M : Nat) (hl : Nat → Sg → R D) (d : D) (ds : List D) (g : G) (hd : seqOf d = some ds) (h : ∀ e ∈ ds, cl M 40 [.dat e, .dat e] g = .ok (.bool true) g) : ∃ ρ', forLoop (Tg.one 2).put (evalSs (callF (hdOf qsH) tab M) hl likeBody) ((List.range ds.length).map fun (k : Nat) => PyData.int k) ⟨[some (.dat d), some (.dat d), none], g⟩ = .nx ⟨ρ', g⟩ := by
  obtain ⟨ρ', _, z⟩ := for_quiet (put := (Tg.one 2).put) (b := evalSs (callF (hdOf qsH) tab M) hl likeBody) (ρ0 := fun ρ => ∃ a, ρ = [some (.dat d), some (.dat d), a]) (g := g) ((List.range ds.length).map fun (k : Nat) => PyData.int k) (fun e he ρ hρ => by
    obtain ⟨a, rfl⟩ := hρ
    obtain ⟨j, hj, rfl⟩ := List.mem_map.mp he
    have hj' := List.mem_range.mp hj
    refine ⟨[some (.dat d), some (.dat d), some (.dat (.int j))], _, rfl, ?_, ⟨some (.dat (.int j)), rfl⟩⟩
    have z := cl_eq (h ds[j] (List.getElem_mem hj'))
    have hj2 : (j : Int) < ds.length := by omega
    simp [likeBody, b_ok, b_er, b_no, fl_ok, fl_er, fl_no, sq_nx, sq_rt, sq_er, sq_bk, sq_ct, sq_no, c_nx, c_rt, c_er, to_ok, to_er, to_no, of_some, of_none, rd_eq, rd_dat, rd_own, ow_eq, ow_own, pu_eq, mm_var, mm_dat, mm_own, mm_mm, mm_scr, ag_eq, ag_some, ag_none, mm_k, mm_gl, mm_tup, mm_lst, mm_un, mm_bin, mm_and, mm_or, mm_ite, mm_slice, mm_call, mm_lc, mm_btup, mm_hall, e_var, e_k, e_gl, e_tup, e_lst, e_un, e_bin, e_and, e_or, e_ite, e_slice, e_call, e_callk, e_lc, e_btup, bt_some, es_nil, es_cons, as_nil, as_cons, o_none, o_some, int_some, j_seq, j_rng, j_zip, zip_tup, j_enum, en_some, s_set', s_setOwn', so_list, s_setN', s_unp', un_some, s_app', ap_some, s_expr', s_ret', s_if', s_for', s_raise', ss_nil, ss_cons, bR_ok, bR_no, shI, shB, shN, eqI, bd_addI, bd_addT, bd_addL, bd_sub, bd_mul, bd_mulL, bd_fdiv, bd_mod, bd_pow, bd_eq, bd_ne, bd_lt, bd_le, bd_gt, bd_ge, bd_gcd, bd_idx, sq_list, sq_tup, if_and, if_or, seq_ite, cr_ite, unD, at_, ixN, intOf, Tg.put, hd, hj', z]) _ ⟨none, rfl⟩
  exact ⟨ρ', z⟩
theorem L_like : ∀ (n : Nat) (d : D) (m : Nat) (g : G), Lk n d → cl (m + n + 1) 40 [.dat d, .dat d] g = .ok (.bool true) g := by
  intro n
  induction n with
  | zero =>
    intro d m g h
    rw [run (d := ⟨3, b__law_like, []⟩) rfl]
    generalize HLm _ _ = hl
    cases h with
    | none => simp [b__law_like, b_ok, b_er, b_no, fl_ok, fl_er, fl_no, sq_nx, sq_rt, sq_er, sq_bk, sq_ct, sq_no, c_nx, c_rt, c_er, to_ok, to_er, to_no, of_some, of_none, rd_eq, rd_dat, rd_own, ow_eq, ow_own, pu_eq, mm_var, mm_dat, mm_own, mm_mm, mm_scr, ag_eq, ag_some, ag_none, mm_k, mm_gl, mm_tup, mm_lst, mm_un, mm_bin, mm_and, mm_or, mm_ite, mm_slice, mm_call, mm_lc, mm_btup, mm_hall, e_var, e_k, e_gl, e_tup, e_lst, e_un, e_bin, e_and, e_or, e_ite, e_slice, e_call, e_callk, e_lc, e_btup, bt_some, es_nil, es_cons, as_nil, as_cons, o_none, o_some, int_some, j_seq, j_rng, j_zip, zip_tup, j_enum, en_some, s_set', s_setOwn', so_list, s_setN', s_unp', un_some, s_app', ap_some, s_expr', s_ret', s_if', s_for', s_raise', ss_nil, ss_cons, bR_ok, bR_no, shI, shB, shN, eqI, bd_addI, bd_addT, bd_addL, bd_sub, bd_mul, bd_mulL, bd_fdiv, bd_mod, bd_pow, bd_eq, bd_ne, bd_lt, bd_le, bd_gt, bd_ge, bd_gcd, bd_idx, sq_list, sq_tup, if_and, if_or, seq_ite, cr_ite, unD, at_, ixN, intOf, Tg.put]
    | bool b => simp [b__law_like, b_ok, b_er, b_no, fl_ok, fl_er, fl_no, sq_nx, sq_rt, sq_er, sq_bk, sq_ct, sq_no, c_nx, c_rt, c_er, to_ok, to_er, to_no, of_some, of_none, rd_eq, rd_dat, rd_own, ow_eq, ow_own, pu_eq, mm_var, mm_dat, mm_own, mm_mm, mm_scr, ag_eq, ag_some, ag_none, mm_k, mm_gl, mm_tup, mm_lst, mm_un, mm_bin, mm_and, mm_or, mm_ite, mm_slice, mm_call, mm_lc, mm_btup, mm_hall, e_var, e_k, e_gl, e_tup, e_lst, e_un, e_bin, e_and, e_or, e_ite, e_slice, e_call, e_callk, e_lc, e_btup, bt_some, es_nil, es_cons, as_nil, as_cons, o_none, o_some, int_some, j_seq, j_rng, j_zip, zip_tup, j_enum, en_some, s_set', s_setOwn', so_list, s_setN', s_unp', un_some, s_app', ap_some, s_expr', s_ret', s_if', s_for', s_raise', ss_nil, ss_cons, bR_ok, bR_no, shI, shB, shN, eqI, bd_addI, bd_addT, bd_addL, bd_sub, bd_mul, bd_mulL, bd_fdiv, bd_mod, bd_pow, bd_eq, bd_ne, bd_lt, bd_le, bd_gt, bd_ge, bd_gcd, bd_idx, sq_list, sq_tup, if_and, if_or, seq_ite, cr_ite, unD, at_, ixN, intOf, Tg.put, eqB]
    | int i => simp [b__law_like, b_ok, b_er, b_no, fl_ok, fl_er, fl_no, sq_nx, sq_rt, sq_er, sq_bk, sq_ct, sq_no, c_nx, c_rt, c_er, to_ok, to_er, to_no, of_some, of_none, rd_eq, rd_dat, rd_own, ow_eq, ow_own, pu_eq, mm_var, mm_dat, mm_own, mm_mm, mm_scr, ag_eq, ag_some, ag_none, mm_k, mm_gl, mm_tup, mm_lst, mm_un, mm_bin, mm_and, mm_or, mm_ite, mm_slice, mm_call, mm_lc, mm_btup, mm_hall, e_var, e_k, e_gl, e_tup, e_lst, e_un, e_bin, e_and, e_or, e_ite, e_slice, e_call, e_callk, e_lc, e_btup, bt_some, es_nil, es_cons, as_nil, as_cons, o_none, o_some, int_some, j_seq, j_rng, j_zip, zip_tup, j_enum, en_some, s_set', s_setOwn', so_list, s_setN', s_unp', un_some, s_app', ap_some, s_expr', s_ret', s_if', s_for', s_raise', ss_nil, ss_cons, bR_ok, bR_no, shI, shB, shN, eqI, bd_addI, bd_addT, bd_addL, bd_sub, bd_mul, bd_mulL, bd_fdiv, bd_mod, bd_pow, bd_eq, bd_ne, bd_lt, bd_le, bd_gt, bd_ge, bd_gcd, bd_idx, sq_list, sq_tup, if_and, if_or, seq_ite, cr_ite, unD, at_, ixN, intOf, Tg.put]
    | str h => simp [b__law_like, b_ok, b_er, b_no, fl_ok, fl_er, fl_no, sq_nx, sq_rt, sq_er, sq_bk, sq_ct, sq_no, c_nx, c_rt, c_er, to_ok, to_er, to_no, of_some, of_none, rd_eq, rd_dat, rd_own, ow_eq, ow_own, pu_eq, mm_var, mm_dat, mm_own, mm_mm, mm_scr, ag_eq, ag_some, ag_none, mm_k, mm_gl, mm_tup, mm_lst, mm_un, mm_bin, mm_and, mm_or, mm_ite, mm_slice, mm_call, mm_lc, mm_btup, mm_hall, e_var, e_k, e_gl, e_tup, e_lst, e_un, e_bin, e_and, e_or, e_ite, e_slice, e_call, e_callk, e_lc, e_btup, bt_some, es_nil, es_cons, as_nil, as_cons, o_none, o_some, int_some, j_seq, j_rng, j_zip, zip_tup, j_enum, en_some, s_set', s_setOwn', so_list, s_setN', s_unp', un_some, s_app', ap_some, s_expr', s_ret', s_if', s_for', s_raise', ss_nil, ss_cons, bR_ok, bR_no, shI, shB, shN, eqI, bd_addI, bd_addT, bd_addL, bd_sub, bd_mul, bd_mulL, bd_fdiv, bd_mod, bd_pow, bd_eq, bd_ne, bd_lt, bd_le, bd_gt, bd_ge, bd_gcd, bd_idx, sq_list, sq_tup, if_and, if_or, seq_ite, cr_ite, unD, at_, ixN, intOf, Tg.put, h, eqS]
  | succ n ih =>
    intro d m g h
    rw [run (d := ⟨3, b__law_like, []⟩) rfl]
    generalize HLm _ _ = hl
    cases h with
    | none => simp [b__law_like, b_ok, b_er, b_no, fl_ok, fl_er, fl_no, sq_nx, sq_rt, sq_er, sq_bk, sq_ct, sq_no, c_nx, c_rt, c_er, to_ok, to_er, to_no, of_some, of_none, rd_eq, rd_dat, rd_own, ow_eq, ow_own, pu_eq, mm_var, mm_dat, mm_own, mm_mm, mm_scr, ag_eq, ag_some, ag_none, mm_k, mm_gl, mm_tup, mm_lst, mm_un, mm_bin, mm_and, mm_or, mm_ite, mm_slice, mm_call, mm_lc, mm_btup, mm_hall, e_var, e_k, e_gl, e_tup, e_lst, e_un, e_bin, e_and, e_or, e_ite, e_slice, e_call, e_callk, e_lc, e_btup, bt_some, es_nil, es_cons, as_nil, as_cons, o_none, o_some, int_some, j_seq, j_rng, j_zip, zip_tup, j_enum, en_some, s_set', s_setOwn', so_list, s_setN', s_unp', un_some, s_app', ap_some, s_expr', s_ret', s_if', s_for', s_raise', ss_nil, ss_cons, bR_ok, bR_no, shI, shB, shN, eqI, bd_addI, bd_addT, bd_addL, bd_sub, bd_mul, bd_mulL, bd_fdiv, bd_mod, bd_pow, bd_eq, bd_ne, bd_lt, bd_le, bd_gt, bd_ge, bd_gcd, bd_idx, sq_list, sq_tup, if_and, if_or, seq_ite, cr_ite, unD, at_, ixN, intOf, Tg.put]
    | bool b => simp [b__law_like, b_ok, b_er, b_no, fl_ok, fl_er, fl_no, sq_nx, sq_rt, sq_er, sq_bk, sq_ct, sq_no, c_nx, c_rt, c_er, to_ok, to_er, to_no, of_some, of_none, rd_eq, rd_dat, rd_own, ow_eq, ow_own, pu_eq, mm_var, mm_dat, mm_own, mm_mm, mm_scr, ag_eq, ag_some, ag_none, mm_k, mm_gl, mm_tup, mm_lst, mm_un, mm_bin, mm_and, mm_or, mm_ite, mm_slice, mm_call, mm_lc, mm_btup, mm_hall, e_var, e_k, e_gl, e_tup, e_lst, e_un, e_bin, e_and, e_or, e_ite, e_slice, e_call, e_callk, e_lc, e_btup, bt_some, es_nil, es_cons, as_nil, as_cons, o_none, o_some, int_some, j_seq, j_rng, j_zip, zip_tup, j_enum, en_some, s_set', s_setOwn', so_list, s_setN', s_unp', un_some, s_app', ap_some, s_expr', s_ret', s_if', s_for', s_raise', ss_nil, ss_cons, bR_ok, bR_no, shI, shB, shN, eqI, bd_addI, bd_addT, bd_addL, bd_sub, bd_mul, bd_mulL, bd_fdiv, bd_mod, bd_pow, bd_eq, bd_ne, bd_lt, bd_le, bd_gt, bd_ge, bd_gcd, bd_idx, sq_list, sq_tup, if_and, if_or, seq_ite, cr_ite, unD, at_, ixN, intOf, Tg.put, eqB]
    | int i => simp [b__law_like, b_ok, b_er, b_no, fl_ok, fl_er, fl_no, sq_nx, sq_rt, sq_er, sq_bk, sq_ct, sq_no, c_nx, c_rt, c_er, to_ok, to_er, to_no, of_some, of_none, rd_eq, rd_dat, rd_own, ow_eq, ow_own, pu_eq, mm_var, mm_dat, mm_own, mm_mm, mm_scr, ag_eq, ag_some, ag_none, mm_k, mm_gl, mm_tup, mm_lst, mm_un, mm_bin, mm_and, mm_or, mm_ite, mm_slice, mm_call, mm_lc, mm_btup, mm_hall, e_var, e_k, e_gl, e_tup, e_lst, e_un, e_bin, e_and, e_or, e_ite, e_slice, e_call, e_callk, e_lc, e_btup, bt_some, es_nil, es_cons, as_nil, as_cons, o_none, o_some, int_some, j_seq, j_rng, j_zip, zip_tup, j_enum, en_some, s_set', s_setOwn', so_list, s_setN', s_unp', un_some, s_app', ap_some, s_expr', s_ret', s_if', s_for', s_raise', ss_nil, ss_cons, bR_ok, bR_no, shI, shB, shN, eqI, bd_addI, bd_addT, bd_addL, bd_sub, bd_mul, bd_mulL, bd_fdiv, bd_mod, bd_pow, bd_eq, bd_ne, bd_lt, bd_le, bd_gt, bd_ge, bd_gcd, bd_idx, sq_list, sq_tup, if_and, if_or, seq_ite, cr_ite, unD, at_, ixN, intOf, Tg.put]
    | str h => simp [b__law_like, b_ok, b_er, b_no, fl_ok, fl_er, fl_no, sq_nx, sq_rt, sq_er, sq_bk, sq_ct, sq_no, c_nx, c_rt, c_er, to_ok, to_er, to_no, of_some, of_none, rd_eq, rd_dat, rd_own, ow_eq, ow_own, pu_eq, mm_var, mm_dat, mm_own, mm_mm, mm_scr, ag_eq, ag_some, ag_none, mm_k, mm_gl, mm_tup, mm_lst, mm_un, mm_bin, mm_and, mm_or, mm_ite, mm_slice, mm_call, mm_lc, mm_btup, mm_hall, e_var, e_k, e_gl, e_tup, e_lst, e_un, e_bin, e_and, e_or, e_ite, e_slice, e_call, e_callk, e_lc, e_btup, bt_some, es_nil, es_cons, as_nil, as_cons, o_none, o_some, int_some, j_seq, j_rng, j_zip, zip_tup, j_enum, en_some, s_set', s_setOwn', so_list, s_setN', s_unp', un_some, s_app', ap_some, s_expr', s_ret', s_if', s_for', s_raise', ss_nil, ss_cons, bR_ok, bR_no, shI, shB, shN, eqI, bd_addI, bd_addT, bd_addL, bd_sub, bd_mul, bd_mulL, bd_fdiv, bd_mod, bd_pow, bd_eq, bd_ne, bd_lt, bd_le, bd_gt, bd_ge, bd_gcd, bd_idx, sq_list, sq_tup, if_and, if_or, seq_ite, cr_ite, unD, at_, ixN, intOf, Tg.put, h, eqS]
    | @list _ ds h hl' =>
      obtain ⟨ρ', z⟩ := like_loop (m + (n + 1)) hl (.list ds) ds g rfl (fun e he => ih e m g (h e he))
      have hrng : (-1000000 : Int) ≤ (ds.length : Int) ∧ (ds.length : Int) ≤ 1000000 := by omega
      simp only [likeBody] at z
      simp [b__law_like, b_ok, b_er, b_no, fl_ok, fl_er, fl_no, sq_nx, sq_rt, sq_er, sq_bk, sq_ct, sq_no, c_nx, c_rt, c_er, to_ok, to_er, to_no, of_some, of_none, rd_eq, rd_dat, rd_own, ow_eq, ow_own, pu_eq, mm_var, mm_dat, mm_own, mm_mm, mm_scr, ag_eq, ag_some, ag_none, mm_k, mm_gl, mm_tup, mm_lst, mm_un, mm_bin, mm_and, mm_or, mm_ite, mm_slice, mm_call, mm_lc, mm_btup, mm_hall, e_var, e_k, e_gl, e_tup, e_lst, e_un, e_bin, e_and, e_or, e_ite, e_slice, e_call, e_callk, e_lc, e_btup, bt_some, es_nil, es_cons, as_nil, as_cons, o_none, o_some, int_some, j_seq, j_rng, j_zip, zip_tup, j_enum, en_some, s_set', s_setOwn', so_list, s_setN', s_unp', un_some, s_app', ap_some, s_expr', s_ret', s_if', s_for', s_raise', ss_nil, ss_cons, bR_ok, bR_no, shI, shB, shN, eqI, bd_addI, bd_addT, bd_addL, bd_sub, bd_mul, bd_mulL, bd_fdiv, bd_mod, bd_pow, bd_eq, bd_ne, bd_lt, bd_le, bd_gt, bd_ge, bd_gcd, bd_idx, sq_list, sq_tup, if_and, if_or, seq_ite, cr_ite, unD, at_, ixN, intOf, Tg.put, rng_int hrng, z]
    | @tuple _ ds h hl' =>
      obtain ⟨ρ', z⟩ := like_loop (m + (n + 1)) hl (.tuple ds) ds g rfl (fun e he => ih e m g (h e he))
      have hrng : (-1000000 : Int) ≤ (ds.length : Int) ∧ (ds.length : Int) ≤ 1000000 := by omega
      simp only [likeBody] at z
      simp [b__law_like, b_ok, b_er, b_no, fl_ok, fl_er, fl_no, sq_nx, sq_rt, sq_er, sq_bk, sq_ct, sq_no, c_nx, c_rt, c_er, to_ok, to_er, to_no, of_some, of_none, rd_eq, rd_dat, rd_own, ow_eq, ow_own, pu_eq, mm_var, mm_dat, mm_own, mm_mm, mm_scr, ag_eq, ag_some, ag_none, mm_k, mm_gl, mm_tup, mm_lst, mm_un, mm_bin, mm_and, mm_or, mm_ite, mm_slice, mm_call, mm_lc, mm_btup, mm_hall, e_var, e_k, e_gl, e_tup, e_lst, e_un, e_bin, e_and, e_or, e_ite, e_slice, e_call, e_callk, e_lc, e_btup, bt_some, es_nil, es_cons, as_nil, as_cons, o_none, o_some, int_some, j_seq, j_rng, j_zip, zip_tup, j_enum, en_some, s_set', s_setOwn', so_list, s_setN', s_unp', un_some, s_app', ap_some, s_expr', s_ret', s_if', s_for', s_raise', ss_nil, ss_cons, bR_ok, bR_no, shI, shB, shN, eqI, bd_addI, bd_addT, bd_addL, bd_sub, bd_mul, bd_mulL, bd_fdiv, bd_mod, bd_pow, bd_eq, bd_ne, bd_lt, bd_le, bd_gt, bd_ge, bd_gcd, bd_idx, sq_list, sq_tup, if_and, if_or, seq_ite, cr_ite, unD, at_, ixN, intOf, Tg.put, rng_int hrng, z]
theorem Lk.up {n : Nat} : ∀ {k : Nat} {d : D}, Lk k d → k ≤ n → Lk n d := by
  induction n with
  | zero =>
    intro k d h hk
    obtain rfl : k = 0 := by omega
    exact h
  | succ n ih =>
    intro k d h hk
    cases h with
    | none => exact .none
    | bool b => exact .bool b
    | int i => exact .int i
    | str h => exact .str h
    | list h hl => exact .list (fun d hd => ih (h d hd) (by omega)) hl
    | tuple h hl => exact .tuple (fun d hd => ih (h d hd) (by omega)) hl
/-! ### what is looked through -/
theorem lk_fr (q : Rat) : Lk 1 (frD q) := .tuple (fun d hd => by
  simp only [List.mem_cons, List.not_mem_nil, or_false] at hd
  rcases hd with rfl | rfl <;> exact .int _) (by simp)
theorem lk_frs {w : List Rat} (h : w.length ≤ 1000) : Lk 2 (frsD w) := .tuple (fun d hd => by
  obtain ⟨q, _, rfl⟩ := List.mem_map.mp hd
  exact lk_fr q) (by simp; omega)
theorem lk_row {r : Row} (h : r.w.length ≤ 1000) : Lk 3 (rowD r) := .tuple (fun d hd => by
  simp only [List.mem_cons, List.not_mem_nil, or_false] at hd
  rcases hd with rfl | rfl | rfl
  · exact .str (kind_sh _)
  · exact lk_frs h
  · exact (lk_fr _).up (by decide)) (by simp)
theorem lk_lot {n : Nat} {rs : List Row} (h : ∀ r ∈ rs, r.w.length ≤ 1000) (hl : rs.length ≤ 1000) : Lk 5 (lotD n rs) := .tuple (fun d hd => by
  simp only [List.mem_cons, List.not_mem_nil, or_false] at hd
  rcases hd with rfl | rfl
  · exact .int _
  · refine .tuple (fun d hd => ?_) (by simp; omega)
    obtain ⟨r, hr, rfl⟩ := List.mem_map.mp hd
    exact lk_row (h r hr)) (by simp)
theorem lk_cons {n : Nat} {d : D} {ds : List D} (h : Lk n d) (hs : ∀ e ∈ ds, Lk n e) : ∀ e ∈ d :: ds, Lk n e := fun e he => by
  rcases List.mem_cons.mp he with rfl | he
  · exact h
  · exact hs e he
theorem lk_nil {n : Nat} : ∀ e ∈ ([] : List D), Lk n e := fun e he => by simp at he
end Pv

namespace Pv
open PySem L2
/-! ### sums -/
theorem dot_nil {x : List Rat} : dot [] x = 0 := rfl
theorem dot_nil2 {w : List Rat} : dot w [] = 0 := by cases w <;> rfl
theorem dot_cons {a b : Rat} {w x : List Rat} : dot (a :: w) (b :: x) = a * b + dot w x := rfl
theorem dot_add {α : Type} (f h : α → Rat) : ∀ (l : List α) (x : List Rat), dot (l.map fun j => f j + h j) x = dot (l.map f) x + dot (l.map h) x
  | [], x => by simp [dot_nil, Rat.add_zero]
  | a :: l, [] => by simp [dot_nil2, Rat.add_zero]
  | a :: l, b :: x => by
    simp only [List.map_cons, dot_cons, dot_add f h l x]
    grind
theorem dot_smul {α : Type} (c : Rat) (f : α → Rat) : ∀ (l : List α) (x : List Rat), dot (l.map fun j => c * f j) x = c * dot (l.map f) x
  | [], x => by simp [dot_nil, Rat.mul_zero]
  | a :: l, [] => by simp [dot_nil2, Rat.mul_zero]
  | a :: l, b :: x => by
    simp only [List.map_cons, dot_cons, dot_smul c f l x]
    grind
theorem dot_zero {α : Type} : ∀ (l : List α) (x : List Rat), dot (l.map fun _ => 0) x = 0
  | [], x => rfl
  | a :: l, [] => by simp [dot_nil2]
  | a :: l, b :: x => by
    simp only [List.map_cons, dot_cons, dot_zero l x]
    grind
theorem dot_add2 {α : Type} (f h : α → Rat) : ∀ (w : List Rat) (l : List α), dot w (l.map fun j => f j + h j) = dot w (l.map f) + dot w (l.map h)
  | [], l => by simp [dot_nil, Rat.add_zero]
  | a :: w, [] => by simp [dot_nil2, Rat.add_zero]
  | a :: w, b :: l => by
    simp only [List.map_cons, dot_cons, dot_add2 f h w l]
    grind
theorem colSum_dot (j : Nat) : ∀ (w : List Rat) (ps : Mp), colSum w ps j = dot w (ps.map (colQ j))
  | [], ps => rfl
  | a :: w, [] => rfl
  | a :: w, p :: ps => by
    have ih := colSum_dot j w ps
    simp only [colSum] at ih
    simp only [colSum, List.zip_cons_cons, List.map_cons, sumQ, dot_cons, ih]
theorem numSum_dot : ∀ (w : List Rat) (ps : Mp), numSum w ps = dot w (ps.map (·.2))
  | [], ps => rfl
  | a :: w, [] => rfl
  | a :: w, p :: ps => by
    have ih := numSum_dot w ps
    simp only [numSum] at ih
    simp only [numSum, List.zip_cons_cons, List.map_cons, sumQ, dot_cons, ih]
theorem range_col (p : List Rat × Rat) {n : Nat} (h : p.1.length = n) : (List.range n).map (fun j => colQ j p) = p.1 := by
  apply List.ext_getElem
  · simp [h]
  · intro i h1 h2
    simp [colQ, List.getD, List.getElem?_eq_getElem h2]
/-- putting twice -/
theorem dot_put (n : Nat) (y : List Rat) : ∀ (w : List Rat) (ps : Mp), (∀ p ∈ ps, p.1.length = n) → dot (putW n ps w) y = dot w (ps.map fun p => dot p.1 y)
  | [], ps, _ => by
    rw [dot_nil]
    exact dot_zero (List.range n) y
  | a :: w, [], _ => by
    rw [List.map_nil, dot_nil2]
    exact dot_zero (List.range n) y
  | a :: w, p :: ps, h => by
    have ih := dot_put n y w ps fun q hq => h q (by simp [hq])
    have e : putW n (p :: ps) (a :: w) = (List.range n).map fun j => a * colQ j p + colSum w ps j := by
      unfold putW
      apply List.map_congr_left
      intro j _
      simp [colSum, sumQ]
    rw [e, dot_add, dot_smul, range_col p (h p (by simp)), List.map_cons, dot_cons, ← ih]
    rfl
theorem image_dot {n : Nat} {ps : Mp} {w x : List Rat} (h : ∀ p ∈ ps, p.1.length = n) : dot w (imQ ps x) = dot (putW n ps w) x + numSum w ps := by
  unfold imQ
  rw [dot_add2 (fun p : List Rat × Rat => dot p.1 x) (fun p => p.2), dot_put n x w ps h, numSum_dot]
/-- inside, put or seen -/
theorem hold_put {n : Nat} {ps : Mp} {r : Row} {x : List Rat} (h : ∀ p ∈ ps, p.1.length = n) : holdB (putRow n ps r) x = holdB r (imQ ps x) := by
  have e := image_dot (w := r.w) (x := x) h
  have e1 : (dot (putW n ps r.w) x = r.b - numSum r.w ps) ↔ (dot r.w (imQ ps x) = r.b) := by rw [e]; constructor <;> intro z <;> grind
  have e2 : (dot (putW n ps r.w) x < r.b - numSum r.w ps) ↔ (dot r.w (imQ ps x) < r.b) := by rw [e]; constructor <;> intro z <;> grind
  simp only [holdB, putRow, e1, e2]
theorem put_len {n : Nat} {ps : Mp} {w : List Rat} : (putW n ps w).length = n := by simp [putW]
theorem put_put {n n2 : Nat} {ps qs : Mp} {r : Row} (h : ∀ p ∈ ps, p.1.length = n) : putRow n2 qs (putRow n ps r) = putRow n2 (behQ n2 ps qs) r := by
  have e1 : putW n2 qs (putW n ps r.w) = putW n2 (behQ n2 ps qs) r.w := by
    show (List.range n2).map (colSum (putW n ps r.w) qs) = (List.range n2).map (colSum r.w (behQ n2 ps qs))
    apply List.map_congr_left
    intro j hj
    have hj' := List.mem_range.mp hj
    rw [colSum_dot, colSum_dot, dot_put n _ _ _ h]
    congr 1
    unfold behQ
    rw [List.map_map]
    apply List.map_congr_left
    intro p _
    have h1 : j < (putW n2 qs p.1).length := by rw [put_len]; exact hj'
    simp only [Function.comp_def, colQ, List.getD, List.getElem?_eq_getElem h1]
    simp only [putW, List.getElem_map, List.getElem_range, colSum_dot, Option.getD_some]
  have e2 : numSum r.w (behQ n2 ps qs) = numSum r.w ps + numSum (putW n ps r.w) qs := by
    rw [numSum_dot, numSum_dot (putW n ps r.w), dot_put n _ _ _ h, numSum_dot]
    unfold behQ
    rw [List.map_map]
    have : ((fun p : List Rat × Rat => p.2) ∘ fun p : List Rat × Rat => (putW n2 qs p.1, p.2 + numSum p.1 qs)) = fun p => p.2 + dot p.1 (qs.map (·.2)) := by
      funext p
      simp [numSum_dot]
    rw [this, dot_add2 (fun p : List Rat × Rat => p.2) (fun p => dot p.1 (qs.map (·.2)))]
  simp only [putRow, e1, e2]
  congr 1
  grind
/-! ### moved -/
def addQ (h p : List Rat) : List Rat := (h.zip p).map fun z => z.1 + z.2
theorem dot_addQ : ∀ (w h p : List Rat), h.length = p.length → dot w (addQ h p) = dot w h + dot w p
  | [], h, p, _ => by simp [dot_nil, Rat.add_zero]
  | a :: w, [], [], _ => by simp [addQ, dot_nil2, Rat.add_zero]
  | a :: w, b :: h, c :: p, e => by
    have ih := dot_addQ w h p (by simpa using e)
    simp only [addQ] at ih
    simp only [addQ, List.zip_cons_cons, List.map_cons, dot_cons, ih]
    grind
theorem hold_sh {r : Row} {h p : List Rat} (e : h.length = p.length) : holdB (shRow p r) (addQ h p) = holdB r h := by
  have e1 : (dot r.w (addQ h p) = r.b + dot r.w p) ↔ (dot r.w h = r.b) := by rw [dot_addQ _ _ _ e]; constructor <;> intro z <;> grind
  have e2 : (dot r.w (addQ h p) < r.b + dot r.w p) ↔ (dot r.w h < r.b) := by rw [dot_addQ _ _ _ e]; constructor <;> intro z <;> grind
  simp only [holdB, shRow, e1, e2]
theorem dot_mulR (f : Rat) : ∀ (w h : List Rat), dot w (h.map fun q => q * f) = dot w h * f
  | [], h => by simp [dot_nil, Rat.zero_mul]
  | a :: w, [] => by simp [dot_nil2, Rat.zero_mul]
  | a :: w, b :: h => by
    simp only [List.map_cons, dot_cons, dot_mulR f w h]
    grind
theorem hold_tm {r : Row} {h : List Rat} {f : Rat} (hf : 0 < f) : holdB (tmRow f r) (h.map fun q => q * f) = holdB r h := by
  have e1 : (dot r.w h * f = r.b * f) ↔ (dot r.w h = r.b) := by
    constructor
    · intro z
      have : (dot r.w h - r.b) * f = 0 := by grind
      rcases Rat.mul_eq_zero.mp this with z | z
      · grind
      · grind
    · intro z; rw [z]
  have e2 : (dot r.w h * f < r.b * f) ↔ (dot r.w h < r.b) := Rat.mul_lt_mul_right hf
  simp only [holdB, tmRow, dot_mulR, e1, e2]
theorem dot_neg2 : ∀ (w h : List Rat), dot (w.map fun q => -q) (h.map fun q => -q) = dot w h
  | [], h => by simp [dot_nil]
  | a :: w, [] => by simp [dot_nil2]
  | a :: w, b :: h => by
    simp only [List.map_cons, dot_cons, dot_neg2 w h]
    grind
theorem hold_tn {r : Row} {h : List Rat} : holdB (tnRow r) (h.map fun q => -q) = holdB r h := by
  simp only [holdB, tnRow, dot_neg2]
end Pv

namespace Pv
open PySem L2
theorem ss_app {cf : Nat → List Sl → G → CR} {hl : Nat → Sg → R D} : ∀ (a b : List Sx) (s : Sg), evalSs cf hl (a ++ b) s = (evalSs cf hl a s).seq (evalSs cf hl b)
  | [], b, s => by simp only [List.nil_append, evalSs]; rfl
  | x :: a, b, s => by
    simp only [List.cons_append, evalSs]
    cases evalS cf hl x s with
    | nx s1 => simp only [sq_nx]; exact ss_app a b s1
    | _ => rfl
/-! ### sizes -/
theorem RsB.up {a b : Nat} {rs : List Row} (h : RsB a rs) (hab : a ≤ b) : RsB b rs := fun r hr => ⟨fun q hq => ((h r hr).1 q hq).up hab, (h r hr).2.up hab⟩
theorem MpB.up {a b : Nat} {ps : Mp} (h : MpB a ps) (hab : a ≤ b) : MpB b ps := fun p hp => ⟨fun q hq => ((h p hp).1 q hq).up hab, (h p hp).2.up hab⟩
theorem putW_bq {a b n : Nat} {w : List Rat} {ps : Mp} (hw : ∀ q ∈ w, Bq a q) (hp : MpB b ps) (hn : ∀ p ∈ ps, p.1.length = n) (hl5 : w.length ≤ 5) : ∀ q ∈ putW n ps w, Bq (1 + (a + b + 1) * 5) q := by
  intro q hq
  obtain ⟨j, hj, rfl⟩ := List.mem_map.mp hq
  exact colSum_bq hw hp hn hl5 (List.mem_range.mp hj)
theorem put_bq {a b c n : Nat} {rs : List Row} {ps : Mp} (hr : RsB a rs) (hl : LotOk c rs) (hp : MpB b ps) (hm : MapOk c n ps) : RsB (a + (1 + (a + b + 1) * 5) + 1) (rs.map (putRow n ps)) := by
  intro r hr'
  obtain ⟨r0, h0, rfl⟩ := List.mem_map.mp hr'
  have hl5 : r0.w.length ≤ 5 := by rw [hl.w r0 h0]; exact hl.n5
  exact ⟨fun q hq => (putW_bq (hr r0 h0).1 hp hm.w hl5 q hq).up (by omega), (hr r0 h0).2.minus (numSum_bq (hr r0 h0).1 hp hl5)⟩
theorem put_ok {c n : Nat} {rs : List Row} {ps : Mp} (hl : LotOk c rs) (hm : MapOk c n ps) : LotOk n (rs.map (putRow n ps)) :=
  ⟨hm.n5, by rw [List.length_map]; exact hl.r60, fun r hr => by
    obtain ⟨r0, _, rfl⟩ := List.mem_map.mp hr
    exact put_len⟩
theorem im_bq {a b c n : Nat} {ps : Mp} {x : List Rat} (hp : MpB a ps) (hm : MapOk c n ps) (hx : ∀ q ∈ x, Bq b q) : ∀ q ∈ imQ ps x, Bq (1 + (a + b + 1) * 5 + a + 1) q := by
  intro q hq
  obtain ⟨p, hp', rfl⟩ := List.mem_map.mp hq
  exact (dot_bq (hp p hp').1 hx (by rw [hm.w p hp']; exact hm.n5)).plus (hp p hp').2
theorem beh_bq {a b c n n2 : Nat} {ps qs : Mp} (hp : MpB a ps) (hm : MapOk c n ps) (hq : MpB b qs) (hm2 : MapOk n n2 qs) : MpB (a + (1 + (a + b + 1) * 5) + 1) (behQ n2 ps qs) := by
  intro p hp'
  obtain ⟨p0, h0, rfl⟩ := List.mem_map.mp hp'
  have hl5 : p0.1.length ≤ 5 := by rw [hm.w p0 h0]; exact hm.n5
  exact ⟨fun q hq' => (putW_bq (hp p0 h0).1 hq hm2.w hl5 q hq').up (by omega), (hp p0 h0).2.plus (numSum_bq (hp p0 h0).1 hq hl5)⟩
theorem beh_ok {c n n2 : Nat} {ps qs : Mp} (hm : MapOk c n ps) (hm2 : MapOk n n2 qs) : MapOk c n2 (behQ n2 ps qs) :=
  ⟨hm2.n5, hm.c5, by simp [behQ, hm.len], fun p hp => by
    obtain ⟨p0, _, rfl⟩ := List.mem_map.mp hp
    exact put_len⟩
/-! ### maps are right: the first part -/
def mr1 : List Sx := b__law_maps_right.take 6
def mr2 : List Sx := (b__law_maps_right.drop 6).take 4
def mr3 : List Sx := b__law_maps_right.drop 10
theorem mr_eq : b__law_maps_right = mr1 ++ (mr2 ++ mr3) := rfl
theorem mr1_ok (m c : Nat) (rs : List Row) {k : Nat} {g : G} (hl : LotOk c rs) (hr : RsB 4 rs) (h : Gd (k + 200) g) (hl' : Nat → Sg → R D) : ∃ (s : Nat) (ps : Mp) (x : List Rat) (o p t d : D) (g' : G), Gd (k + 100) g' ∧ MapOk c s ps ∧ MpB 8 ps ∧ x.length = s ∧ s ≤ 4 ∧
    evalSs (callF (hdOf qsH) tab (m + 9)) hl' mr1 ⟨some .mm :: some (.dat (lotD c rs)) :: List.replicate 12 none, g⟩ = .nx ⟨[some .mm, some (.dat (lotD c rs)), some (.dat (mapD s ps)), some (.dat o), some (.dat (frsD x)), some (.dat p), some (.dat t), some (.dat d), none, none, none, none, none, none], g'⟩ := by
  obtain ⟨r1, g1, a1, a2, a3, a4⟩ := L_draw (limit := 5) (k := k + 199) h (by decide) (by decide)
  obtain ⟨s, rfl⟩ : ∃ s : Nat, r1 = s := ⟨r1.toNat, by omega⟩
  have hs : s ≤ 4 := by omega
  obtain ⟨ps, g2, b1, b2, b3, b4⟩ := L_map (m + 5) c s (k := k + 159) hl.n5 (by omega) (by simpa [Nat.add_assoc] using a1)
  obtain ⟨r2, g3, c1, c2, c3, c4⟩ := L_draw (limit := 4) (k := k + 158) b1 (by decide) (by decide)
  obtain ⟨s2, rfl⟩ : ∃ s2 : Nat, r2 = s2 := ⟨r2.toNat, by omega⟩
  obtain ⟨qs, g4, d1, d2, d3, d4⟩ := L_map (m + 5) s s2 (k := k + 118) (by omega) (by omega) (by simpa [Nat.add_assoc] using c1)
  obtain ⟨x, g5, e1, e2, e3, e4⟩ := L_point (m + 5) s (k := k + 103) (by omega) (by simpa [Nat.add_assoc] using d1)
  have z1 := cl_eq (a4 (m + 8))
  have z2 := cl_eq b4
  have z3 := cl_eq (c4 (m + 8))
  have z4 := cl_eq d4
  have z5 := cl_eq e4
  have hput := put_bq hr hl b3 b2
  have hputO := put_ok hl b2
  have z6 := cl_eq (L_lot_put (m + 2) c s rs ps 4 8 g5 hr hl b3 b2 (by decide))
  have z7 := cl_eq (L_map_image (m + 2) c s rs ps x 8 8 g5 hl b3 b2 e3 e2 (by decide))
  have eB : ((rs.map (putRow s ps)).all fun r => holdB r x) = rs.all fun r => holdB r (imQ ps x) := by
    rw [List.all_map]
    congr 1
    funext r
    exact hold_put b2.w
  have eQ : (rs.map (putRow s ps)).map (putRow s2 qs) = rs.map (putRow s2 (behQ s2 ps qs)) := by
    rw [List.map_map]
    apply List.map_congr_left
    intro r _
    exact put_put b2.w
  have z8 := cl_eq (L_inside (m + 2) s (rs.map (putRow s ps)) x _ 8 g5 hput hputO e3 e2 (by decide))
  rw [eB] at z8
  have z9 := cl_eq (L_lot_put (m + 2) s s2 (rs.map (putRow s ps)) qs _ 8 g5 hput hputO d3 d2 (by decide))
  rw [eQ] at z9
  have z10 := cl_eq (L_lput (m + 5) c s rs ps 4 8 g5 hr hl b3 b2 (by decide))
  have z11 := cl_eq (L_limage (m + 4) c s ps x 8 8 g5 b3 b2 e3 (by decide))
  have him := im_bq b3 b2 e3
  have z12 := cl_eq (L_inside (m + 2) c rs (imQ ps x) 4 _ g5 hr hl him (by simp [imQ, b2.len]) (by decide))
  have z13 := cl_eq (L_behind (m + 5) c s s2 ps qs 8 8 g5 b3 b2 d3 d2 (by decide))
  have z14 := cl_eq (L_lput (m + 5) c s2 rs (behQ s2 ps qs) 4 _ g5 hr hl (beh_bq b3 b2 d3 d2) (beh_ok b2 d2) (by decide))
  have hlk : Lk 6 (.list [lotD s (rs.map (putRow s ps)), frsD (imQ ps x), .bool (rs.all fun r => holdB r (imQ ps x)), lotD s2 (rs.map (putRow s2 (behQ s2 ps qs)))]) := by
    have n5 := hl.n5
    have c5 := b2.c5
    have r60 := hl.r60
    refine .list (lk_cons ?_ (lk_cons ?_ (lk_cons ?_ (lk_cons ?_ lk_nil)))) (by simp)
    · refine lk_lot (fun r hr => ?_) (by rw [List.length_map]; omega)
      rw [hputO.w r hr]; omega
    · exact (lk_frs (by simp [imQ, b2.len]; omega)).up (by decide)
    · exact .bool _
    · refine lk_lot (fun r hr => ?_) (by rw [List.length_map]; omega)
      obtain ⟨r0, _, rfl⟩ := List.mem_map.mp hr
      show (putW s2 (behQ s2 ps qs) r0.w).length ≤ 1000
      rw [put_len]; omega
  have z15 := cl_eq (L_like 6 _ (m + 2) g5 hlk)
  refine ⟨s, ps, x, mapD s2 qs, lotD s (rs.map (putRow s ps)), .list [lotD s (rs.map (putRow s ps)), frsD (imQ ps x), .bool (rs.all fun r => holdB r (imQ ps x)), lotD s2 (rs.map (putRow s2 (behQ s2 ps qs)))], .list [lotD s (rs.map (putRow s ps)), frsD (imQ ps x), .bool (rs.all fun r => holdB r (imQ ps x)), lotD s2 (rs.map (putRow s2 (behQ s2 ps qs)))], g5, e1.less (by omega), b2, b3, e2, hs, ?_⟩
  simp [mr1, b__law_maps_right, b_ok, b_er, b_no, fl_ok, fl_er, fl_no, sq_nx, sq_rt, sq_er, sq_bk, sq_ct, sq_no, c_nx, c_rt, c_er, to_ok, to_er, to_no, of_some, of_none, rd_eq, rd_dat, rd_own, ow_eq, ow_own, pu_eq, mm_var, mm_dat, mm_own, mm_mm, mm_scr, ag_eq, ag_some, ag_none, mm_k, mm_gl, mm_tup, mm_lst, mm_un, mm_bin, mm_and, mm_or, mm_ite, mm_slice, mm_call, mm_lc, mm_btup, mm_hall, e_var, e_k, e_gl, e_tup, e_lst, e_un, e_bin, e_and, e_or, e_ite, e_slice, e_call, e_callk, e_lc, e_btup, bt_some, es_nil, es_cons, as_nil, as_cons, o_none, o_some, int_some, j_seq, j_rng, j_zip, zip_tup, j_enum, en_some, s_set', s_setOwn', so_list, s_setN', s_unp', un_some, s_app', ap_some, s_expr', s_ret', s_if', s_for', s_raise', ss_nil, ss_cons, bR_ok, bR_no, shI, shB, shN, eqI, bd_addI, bd_addT, bd_addL, bd_sub, bd_mul, bd_mulL, bd_fdiv, bd_mod, bd_pow, bd_eq, bd_ne, bd_lt, bd_le, bd_gt, bd_ge, bd_gcd, bd_idx, sq_list, sq_tup, if_and, if_or, seq_ite, cr_ite, unD, at_, ixN, intOf, Tg.put, seq_lot, seq_map, z1, z2, z3, z4, z5, z6, z7, z8, z9, z10, z11, z12, z13, z14, z15]
end Pv

namespace Pv
open PySem L2
theorem add_frs {w : List Rat} {ys : List D} : binD .add (frsD w) (.tuple ys) = if w.length + ys.length ≤ 1000000 then some (.tuple (w.map frD ++ ys)) else none := by
  show (if (w.map frD).length + ys.length ≤ 1000000 then _ else _) = _
  rw [List.length_map]
theorem slice_to {ds : List D} {j : Nat} (h : j ≤ ds.length) : sliceD (.tuple ds) none (some (j : Int)) = some (.tuple (ds.take j)) := by
  show some (PyData.tuple ((ds.drop 0).take (HT.sIx ds.length ds.length (some (j : Int)) - 0))) = _
  rw [HT.sIx_nat, Nat.min_eq_left h]
  simp
theorem slice_from {ds : List D} {j : Nat} : sliceD (.tuple ds) (some (j : Int)) none = some (.tuple (ds.drop j)) := by
  show some (PyData.tuple ((ds.drop (HT.sIx ds.length 0 (some (j : Int)))).take (ds.length - HT.sIx ds.length 0 (some (j : Int))))) = _
  rw [HT.sIx_nat]
  congr 2
  rw [List.take_of_length_le (by rw [List.length_drop]; omega)]
  by_cases h : j ≤ ds.length
  · rw [Nat.min_eq_left h]
  · rw [Nat.min_eq_right (by omega), List.drop_of_length_le (Nat.le_refl _), List.drop_of_length_le (by omega)]
abbrev d01 : D := .tuple [.int 0, .int 1]
def wrongs (s : Nat) (w : List Rat) (od : D) : List D := [.none, .tuple [], .tuple [.tuple [], .int 0], .tuple [frsD w], .tuple [.list (List.replicate s d01), d01], .tuple [.tuple (w.map frD ++ [d01]), d01], .tuple [frsD w, od]]
theorem wrongs_no {s : Nat} {w : List Rat} {od : D} (hw : w.length = s) (ho : fracB od = false) : ∀ d ∈ wrongs s w od, plB d s = false := by
  intro d hd
  simp only [wrongs, List.mem_cons, List.not_mem_nil, or_false] at hd
  rcases hd with rfl | rfl | rfl | rfl | rfl | rfl | rfl
  · rfl
  · rfl
  · simp [plB, rowB, fracB]
  · rfl
  · simp [plB, rowB, areB]
  · simp [plB, rowB, areB, hw]
    omega
  · simp [plB, ho]
theorem mr2_ok (m c s : Nat) (rs : List Row) (ps : Mp) (x : List Rat) (o p t d : D) {k : Nat} {g : G} (hl : LotOk c rs) (hm : MapOk c s ps) (h : Gd (k + 10) g) (hl' : Nat → Sg → R D) : ∃ (j : Nat) (w : List Rat) (wr : D) (g' : G), Gd k g' ∧ (0 < c → j < c) ∧ (c = 0 → j = 0) ∧ plB wr s = false ∧
    evalSs (callF (hdOf qsH) tab (m + 9)) hl' mr2 ⟨[some .mm, some (.dat (lotD c rs)), some (.dat (mapD s ps)), some (.dat o), some (.dat (frsD x)), some (.dat p), some (.dat t), some (.dat d), none, none, none, none, none, none], g⟩ =
      .nx ⟨[some .mm, some (.dat (lotD c rs)), some (.dat (mapD s ps)), some (.dat o), some (.dat (frsD x)), some (.dat p), some (.dat t), some (.dat d), some (.dat (.int j)), some (.dat (frsD w)), some (.dat wr), some (.dat (.tuple [.int s, .tuple ((ps.map plD).take j ++ wr :: (ps.map plD).drop (j + 1))])), none, none], g'⟩ := by
  have n5 := hm.n5
  have c5 := hm.c5
  have hlen := hm.len
  -- the rest, once the spot is known
  have rest : ∀ (j : Nat) (g1 : G), Gd (k + 9) g1 → (j ≤ c) → ∃ (w : List Rat) (wr : D) (g' : G), Gd k g' ∧ plB wr s = false ∧
      evalSs (callF (hdOf qsH) tab (m + 9)) hl' (mr2.drop 1) ⟨[some .mm, some (.dat (lotD c rs)), some (.dat (mapD s ps)), some (.dat o), some (.dat (frsD x)), some (.dat p), some (.dat t), some (.dat d), some (.dat (.int j)), none, none, none, none, none], g1⟩ =
      .nx ⟨[some .mm, some (.dat (lotD c rs)), some (.dat (mapD s ps)), some (.dat o), some (.dat (frsD x)), some (.dat p), some (.dat t), some (.dat d), some (.dat (.int j)), some (.dat (frsD w)), some (.dat wr), some (.dat (.tuple [.int s, .tuple ((ps.map plD).take j ++ wr :: (ps.map plD).drop (j + 1))])), none, none], g'⟩ := by
    intro j g1 hg1 hj
    obtain ⟨w, g2, a1, a2, a3, a4⟩ := L_whole_row (m + 6) s (k := k + 4) n5 (by simpa [Nat.add_assoc] using hg1)
    obtain ⟨od, g3, b1, b2, b3⟩ := L_odd (m + 6) (k := k + 3) a1
    obtain ⟨wr, g4, c1, c2, c3⟩ := L_of (k := k + 2) (wrongs s w od) (by simp [wrongs]) (by simp [wrongs]) b1
    have z1 := cl_eq a4
    have z2 := cl_eq b3
    have z3 := cl_eq (c3 (m + 7))
    simp only [wrongs, d01] at z3
    refine ⟨w, wr, g4, c1.less (by omega), wrongs_no a2 (odds_no od b2) wr c2, ?_⟩
    have hs1 : (s : Int) ≤ 1000 := by omega
    have hw1 : w.length + 1 ≤ 1000000 := by omega
    have sl1 := slice_to (ds := ps.map plD) (j := j) (by rw [List.length_map]; omega)
    have sl2 : sliceD (.tuple (ps.map plD)) (some ((j : Int) + 1)) none = some (.tuple ((ps.map plD).drop (j + 1))) := slice_from (ds := ps.map plD) (j := j + 1)
    have h1 : min j ps.length + 1 ≤ 1000000 := by omega
    have h2 : min j ps.length + 1 + (ps.length - (j + 1)) ≤ 1000000 := by omega
    simp [mr2, b__law_maps_right, b_ok, b_er, b_no, fl_ok, fl_er, fl_no, sq_nx, sq_rt, sq_er, sq_bk, sq_ct, sq_no, c_nx, c_rt, c_er, to_ok, to_er, to_no, of_some, of_none, rd_eq, rd_dat, rd_own, ow_eq, ow_own, pu_eq, mm_var, mm_dat, mm_own, mm_mm, mm_scr, ag_eq, ag_some, ag_none, mm_k, mm_gl, mm_tup, mm_lst, mm_un, mm_bin, mm_and, mm_or, mm_ite, mm_slice, mm_call, mm_lc, mm_btup, mm_hall, e_var, e_k, e_gl, e_tup, e_lst, e_un, e_bin, e_and, e_or, e_ite, e_slice, e_call, e_callk, e_lc, e_btup, bt_some, es_nil, es_cons, as_nil, as_cons, o_none, o_some, int_some, j_seq, j_rng, j_zip, zip_tup, j_enum, en_some, s_set', s_setOwn', so_list, s_setN', s_unp', un_some, s_app', ap_some, s_expr', s_ret', s_if', s_for', s_raise', ss_nil, ss_cons, bR_ok, bR_no, shI, shB, shN, eqI, bd_addI, bd_addT, bd_addL, bd_sub, bd_mul, bd_mulL, bd_fdiv, bd_mod, bd_pow, bd_eq, bd_ne, bd_lt, bd_le, bd_gt, bd_ge, bd_gcd, bd_idx, sq_list, sq_tup, if_and, if_or, seq_ite, cr_ite, unD, at_, ixN, intOf, Tg.put, seq_lot, seq_map, z1, z2, z3, hs1, hw1, add_frs, sl1, sl2, h1, h2]
  by_cases hc : 0 < c
  · obtain ⟨r1, g1, a1, a2, a3, a4⟩ := L_draw (limit := (c : Int)) (k := k + 9) h (by omega) (by omega)
    obtain ⟨j, rfl⟩ : ∃ j : Nat, r1 = j := ⟨r1.toNat, by omega⟩
    obtain ⟨w, wr, g', b1, b2, b3⟩ := rest j g1 a1 (by omega)
    refine ⟨j, w, wr, g', b1, fun _ => by omega, fun z => by omega, b2, ?_⟩
    have z1 := cl_eq (a4 (m + 8))
    have hc' : 0 < (c : Int) := by omega
    have e : mr2 = (.set 8 (.ite (.bin .gt (.bin .idx (.var 1) (.k (.int 0))) (.k (.int 0))) (.call 37 0 [(.var 0), (.bin .idx (.var 1) (.k (.int 0)))]) (.k (.int 0)))) :: mr2.drop 1 := rfl
    rw [e, ss_cons, ← b3]
    have h8 : evalS (callF (hdOf qsH) tab (m + 9)) hl' (.set 8 (.ite (.bin .gt (.bin .idx (.var 1) (.k (.int 0))) (.k (.int 0))) (.call 37 0 [(.var 0), (.bin .idx (.var 1) (.k (.int 0)))]) (.k (.int 0)))) ⟨[some .mm, some (.dat (lotD c rs)), some (.dat (mapD s ps)), some (.dat o), some (.dat (frsD x)), some (.dat p), some (.dat t), some (.dat d), none, none, none, none, none, none], g⟩ =
        .nx ⟨[some .mm, some (.dat (lotD c rs)), some (.dat (mapD s ps)), some (.dat o), some (.dat (frsD x)), some (.dat p), some (.dat t), some (.dat d), some (.dat (.int j)), none, none, none, none, none], g1⟩ := by
      simp [b_ok, b_er, b_no, fl_ok, fl_er, fl_no, sq_nx, sq_rt, sq_er, sq_bk, sq_ct, sq_no, c_nx, c_rt, c_er, to_ok, to_er, to_no, of_some, of_none, rd_eq, rd_dat, rd_own, ow_eq, ow_own, pu_eq, mm_var, mm_dat, mm_own, mm_mm, mm_scr, ag_eq, ag_some, ag_none, mm_k, mm_gl, mm_tup, mm_lst, mm_un, mm_bin, mm_and, mm_or, mm_ite, mm_slice, mm_call, mm_lc, mm_btup, mm_hall, e_var, e_k, e_gl, e_tup, e_lst, e_un, e_bin, e_and, e_or, e_ite, e_slice, e_call, e_callk, e_lc, e_btup, bt_some, es_nil, es_cons, as_nil, as_cons, o_none, o_some, int_some, j_seq, j_rng, j_zip, zip_tup, j_enum, en_some, s_set', s_setOwn', so_list, s_setN', s_unp', un_some, s_app', ap_some, s_expr', s_ret', s_if', s_for', s_raise', ss_nil, ss_cons, bR_ok, bR_no, shI, shB, shN, eqI, bd_addI, bd_addT, bd_addL, bd_sub, bd_mul, bd_mulL, bd_fdiv, bd_mod, bd_pow, bd_eq, bd_ne, bd_lt, bd_le, bd_gt, bd_ge, bd_gcd, bd_idx, sq_list, sq_tup, if_and, if_or, seq_ite, cr_ite, unD, at_, ixN, intOf, Tg.put, seq_lot, z1, hc, hc']
    rw [h8]
    rfl
  · have hc0 : c = 0 := by omega
    obtain ⟨w, wr, g', b1, b2, b3⟩ := rest 0 g (h.less (by omega)) (by omega)
    refine ⟨0, w, wr, g', b1, fun z => absurd z hc, fun _ => rfl, b2, ?_⟩
    have e : mr2 = (.set 8 (.ite (.bin .gt (.bin .idx (.var 1) (.k (.int 0))) (.k (.int 0))) (.call 37 0 [(.var 0), (.bin .idx (.var 1) (.k (.int 0)))]) (.k (.int 0)))) :: mr2.drop 1 := rfl
    rw [e, ss_cons, ← b3]
    have h8 : evalS (callF (hdOf qsH) tab (m + 9)) hl' (.set 8 (.ite (.bin .gt (.bin .idx (.var 1) (.k (.int 0))) (.k (.int 0))) (.call 37 0 [(.var 0), (.bin .idx (.var 1) (.k (.int 0)))]) (.k (.int 0)))) ⟨[some .mm, some (.dat (lotD c rs)), some (.dat (mapD s ps)), some (.dat o), some (.dat (frsD x)), some (.dat p), some (.dat t), some (.dat d), none, none, none, none, none, none], g⟩ =
        .nx ⟨[some .mm, some (.dat (lotD c rs)), some (.dat (mapD s ps)), some (.dat o), some (.dat (frsD x)), some (.dat p), some (.dat t), some (.dat d), some (.dat (.int (0 : Nat))), none, none, none, none, none], g⟩ := by
      subst hc0
      simp [b_ok, b_er, b_no, fl_ok, fl_er, fl_no, sq_nx, sq_rt, sq_er, sq_bk, sq_ct, sq_no, c_nx, c_rt, c_er, to_ok, to_er, to_no, of_some, of_none, rd_eq, rd_dat, rd_own, ow_eq, ow_own, pu_eq, mm_var, mm_dat, mm_own, mm_mm, mm_scr, ag_eq, ag_some, ag_none, mm_k, mm_gl, mm_tup, mm_lst, mm_un, mm_bin, mm_and, mm_or, mm_ite, mm_slice, mm_call, mm_lc, mm_btup, mm_hall, e_var, e_k, e_gl, e_tup, e_lst, e_un, e_bin, e_and, e_or, e_ite, e_slice, e_call, e_callk, e_lc, e_btup, bt_some, es_nil, es_cons, as_nil, as_cons, o_none, o_some, int_some, j_seq, j_rng, j_zip, zip_tup, j_enum, en_some, s_set', s_setOwn', so_list, s_setN', s_unp', un_some, s_app', ap_some, s_expr', s_ret', s_if', s_for', s_raise', ss_nil, ss_cons, bR_ok, bR_no, shI, shB, shN, eqI, bd_addI, bd_addT, bd_addL, bd_sub, bd_mul, bd_mulL, bd_fdiv, bd_mod, bd_pow, bd_eq, bd_ne, bd_lt, bd_le, bd_gt, bd_ge, bd_gcd, bd_idx, sq_list, sq_tup, if_and, if_or, seq_ite, cr_ite, unD, at_, ixN, intOf, Tg.put, seq_lot]
    rw [h8]
    rfl
end Pv

namespace Pv
open PySem L2
/-! ### lambdas -/
def laA (i k : Nat) : Option (Option Sl) → Sg → Fl
  | some (some (.thk ks)), s => if ks.length < 1000 then .nx (s.put i (.thk (ks ++ [k]))) else .no
  | _, _ => .no
def haA (hl : Nat → Sg → R D) (i : Nat) : Option (Option Sl) → Sg → R D
  | some (some (.thk ks)), s => (heardLoop hl i ks ks [] s).bind fun ds s1 => .ok (.list ds) s1
  | _, _ => .no
section
variable {cf : Nat → List Sl → G → CR} {hl : Nat → Sg → R D} {ρ : List (Option Sl)} {g : G} {i k : Nat} {ks all : List Nat} {s : Sg}
theorem s_lamI : evalS cf hl (.lamInit i ks) ⟨ρ, g⟩ = .nx ⟨ρ.set i (some (.thk ks)), g⟩ := by simp only [evalS]; rfl
theorem s_lamA : evalS cf hl (.lamApp i k) ⟨ρ, g⟩ = laA i k ρ[i]? ⟨ρ, g⟩ := by
  simp only [evalS]
  rcases ρ[i]? with _ | _ | (_ | _ | _ | _ | _) <;> rfl
theorem la_thk : laA i k (some (some (.thk ks))) ⟨ρ, g⟩ = if ks.length < 1000 then .nx ⟨ρ.set i (some (.thk (ks ++ [k]))), g⟩ else .no := rfl
theorem e_hall : evalE cf hl (.heardAll i) ⟨ρ, g⟩ = haA hl i ρ[i]? ⟨ρ, g⟩ := by
  simp only [evalE]
  rcases ρ[i]? with _ | _ | (_ | _ | _ | _ | _) <;> rfl
theorem ha_thk : haA hl i (some (some (.thk ks))) s = (heardLoop hl i ks ks [] s).bind fun ds s1 => .ok (.list ds) s1 := rfl
theorem hl_cons {d : D} {acc : List D} (h : s.ρ[i]? = some (some (.thk all))) (h2 : hl k s = .ok d s) (ha : acc.length < 1000000) : heardLoop hl i all (k :: ks) acc s = heardLoop hl i all ks (acc ++ [d]) s := by
  rw [heardLoop, h]
  simp only [true_and, ha, if_true, h2, b_ok]
theorem hl_nil {acc : List D} (h : s.ρ[i]? = some (some (.thk all))) : heardLoop hl i all [] acc s = .ok acc s := by
  rw [heardLoop, h]
  simp
theorem hl_four {d0 d1 d2 d3 : D} (h : s.ρ[i]? = some (some (.thk [0, 1, 2, 3]))) (h0 : hl 0 s = .ok d0 s) (h1 : hl 1 s = .ok d1 s) (h2 : hl 2 s = .ok d2 s) (h3 : hl 3 s = .ok d3 s) : heardLoop hl i [0, 1, 2, 3] [0, 1, 2, 3] [] s = .ok [d0, d1, d2, d3] s := by
  rw [hl_cons h h0 (by simp), hl_cons h h1 (by simp), hl_cons h h2 (by simp), hl_cons h h3 (by simp), hl_nil h]
  rfl
theorem told1 {d : D} : told (hdOf qsH) (.er 1 d s) = .ok (.list [.str ("lot" : Str), d]) s := rfl
theorem told2 {d : D} : told (hdOf qsH) (.er 2 d s) = .ok (.list [.str ("point" : Str), d]) s := rfl
theorem told3 {d : D} : told (hdOf qsH) (.er 3 d s) = .ok (.list [.str ("fraction" : Str), d]) s := rfl
theorem told4 {d : D} : told (hdOf qsH) (.er 4 d s) = .ok (.list [.str ("map" : Str), d]) s := rfl
end
theorem hlm_at (m k : Nat) (d : Df) (e : Ex) (s : Sg) (h : d.lams[k]? = some e) : HLm (m + 9) d k s = told (hdOf qsH) (evalE (callF (hdOf qsH) tab (m + 7)) (fun _ _ => .no) e s) := by
  show heardOf (hdOf qsH) (callF (hdOf qsH) tab (m + 7)) d.lams k s = _
  unfold heardOf
  rw [h]
theorem sh_map : SeqAt.shaped (.str ("map" : Str)) = true := by kernel_rfl
theorem sh_unk : SeqAt.shaped (.str ("unknowns" : Str)) = true := by kernel_rfl
theorem sh_form : SeqAt.shaped (.str ("form" : Str)) = true := by kernel_rfl
theorem sh_point : SeqAt.shaped (.str ("point" : Str)) = true := by kernel_rfl
theorem sh_frac : SeqAt.shaped (.str ("fraction" : Str)) = true := by kernel_rfl
theorem sh_lot : SeqAt.shaped (.str ("lot" : Str)) = true := by kernel_rfl
abbrev dMaps : Df := ⟨14, b__law_maps_right, l__law_maps_right⟩
theorem mr3_ok (m c s j : Nat) (rs : List Row) (ps : Mp) (x : List Rat) (o p t d so wr : D) {g : G} (hl : LotOk c rs) (hm : MapOk c s ps) (hxl : x.length = s) (hs4 : s ≤ 4) (h0 : 0 < c → j < c) (h1 : c = 0 → j = 0) (hw : plB wr s = false) :
    evalSs (callF (hdOf qsH) tab (m + 9)) (HLm (m + 9) dMaps) mr3 ⟨[some .mm, some (.dat (lotD c rs)), some (.dat (mapD s ps)), some (.dat o), some (.dat (frsD x)), some (.dat p), some (.dat t), some (.dat d), some (.dat (.int j)), some (.dat so), some (.dat wr), some (.dat (.tuple [.int s, .tuple ((ps.map plD).take j ++ wr :: (ps.map plD).drop (j + 1))])), none, none], g⟩ = .rt (.bool true) g := by
  have n5 := hm.n5
  have c5 := hm.c5
  have hlen := hm.len
  -- what the first lambda tells
  obtain ⟨e0, he0, hk0, hE⟩ : ∃ e0 : D, cl (m + 7) 26 [.dat (lotD c rs), .dat (.tuple [.int s, .tuple ((ps.map plD).take j ++ wr :: (ps.map plD).drop (j + 1))])] g = .er 4 e0 g ∧ Lk 1 e0 ∧ ((0 < c ∧ e0 = .int j) ∨ (c = 0 ∧ e0 = .str ("form" : Str))) := by
    by_cases hc : 0 < c
    · have hj := h0 hc
      refine ⟨.int j, L_lot_put_bad m c rs _ _ g hl ?_, .int _, .inl ⟨hc, rfl⟩⟩
      refine L_need_map_bad (m + 1) c s _ j g (by simp; omega) (by omega) (by omega) ?_
      rw [← List.map_take, firstBad_at s wr hw (ps.take j) 0 _ (fun q hq => hm.w q (List.mem_of_mem_take hq))]
      simp; omega
    · have hc0 : c = 0 := by omega
      subst hc0
      have hps : ps = [] := List.length_eq_zero_iff.mp hlen
      refine ⟨.str ("form" : Str), L_lot_put_bad m 0 rs _ _ g hl ?_, .str sh_form, .inr ⟨rfl, rfl⟩⟩
      refine L_need_map_form (m + 3) _ _ g (.inr ⟨_, _, rfl, ?_⟩)
      simp [rowB]
      omega
  have z0 := cl_eq he0
  have z1 := cl_eq (L_lot_put_bad m c rs (.tuple [.int 6, .tuple (ps.map plD)]) (.str ("unknowns" : Str)) g hl (L_need_map_unk (m + 3) c (.int 6) (.tuple (ps.map plD)) g (by simp [rowB, hlen]) (by decide)))
  have z2 := cl_eq (L_map_image_form m c 0 rs (.list [.int s, .tuple (ps.map plD)]) .none (.str ("form" : Str)) g hl (L_need_map_form (m + 3) c _ g (.inl rfl)))
  have z3 := cl_eq (L_map_image_point m c s rs ps (.tuple (x.map frD ++ [d01])) g hl hm (by simp [rowB, hxl]; omega))
  generalize hρ : ([some .mm, some (.dat (lotD c rs)), some (.dat (mapD s ps)), some (.dat o), some (.dat (frsD x)), some (.dat p), some (.dat t), some (.dat d), some (.dat (.int j)), some (.dat so), some (.dat wr), some (.dat (.tuple [.int s, .tuple ((ps.map plD).take j ++ wr :: (ps.map plD).drop (j + 1))])), some (.thk [0, 1, 2, 3]), none] : List (Option Sl)) = ρ3
  have hlen3 : ρ3[12]? = some (some (.thk [0, 1, 2, 3])) := by rw [← hρ]; rfl
  have k0 : HLm (m + 9) dMaps 0 ⟨ρ3, g⟩ = .ok (.list [.str ("map" : Str), e0]) ⟨ρ3, g⟩ := by
    rw [hlm_at m 0 dMaps _ _ rfl, ← hρ, ← told4]
    simp [b_ok, b_er, b_no, fl_ok, fl_er, fl_no, sq_nx, sq_rt, sq_er, sq_bk, sq_ct, sq_no, c_nx, c_rt, c_er, to_ok, to_er, to_no, of_some, of_none, rd_eq, rd_dat, rd_own, ow_eq, ow_own, pu_eq, mm_var, mm_dat, mm_own, mm_mm, mm_scr, ag_eq, ag_some, ag_none, mm_k, mm_gl, mm_tup, mm_lst, mm_un, mm_bin, mm_and, mm_or, mm_ite, mm_slice, mm_call, mm_lc, mm_btup, mm_hall, e_var, e_k, e_gl, e_tup, e_lst, e_un, e_bin, e_and, e_or, e_ite, e_slice, e_call, e_callk, e_lc, e_btup, bt_some, es_nil, es_cons, as_nil, as_cons, o_none, o_some, int_some, j_seq, j_rng, j_zip, zip_tup, j_enum, en_some, s_set', s_setOwn', so_list, s_setN', s_unp', un_some, s_app', ap_some, s_expr', s_ret', s_if', s_for', s_raise', ss_nil, ss_cons, bR_ok, bR_no, shI, shB, shN, eqI, bd_addI, bd_addT, bd_addL, bd_sub, bd_mul, bd_mulL, bd_fdiv, bd_mod, bd_pow, bd_eq, bd_ne, bd_lt, bd_le, bd_gt, bd_ge, bd_gcd, bd_idx, sq_list, sq_tup, if_and, if_or, seq_ite, cr_ite, unD, at_, ixN, intOf, Tg.put, z0]
  have k1 : HLm (m + 9) dMaps 1 ⟨ρ3, g⟩ = .ok (.list [.str ("map" : Str), .str ("unknowns" : Str)]) ⟨ρ3, g⟩ := by
    rw [hlm_at m 1 dMaps _ _ rfl, ← hρ, ← told4]
    simp [b_ok, b_er, b_no, fl_ok, fl_er, fl_no, sq_nx, sq_rt, sq_er, sq_bk, sq_ct, sq_no, c_nx, c_rt, c_er, to_ok, to_er, to_no, of_some, of_none, rd_eq, rd_dat, rd_own, ow_eq, ow_own, pu_eq, mm_var, mm_dat, mm_own, mm_mm, mm_scr, ag_eq, ag_some, ag_none, mm_k, mm_gl, mm_tup, mm_lst, mm_un, mm_bin, mm_and, mm_or, mm_ite, mm_slice, mm_call, mm_lc, mm_btup, mm_hall, e_var, e_k, e_gl, e_tup, e_lst, e_un, e_bin, e_and, e_or, e_ite, e_slice, e_call, e_callk, e_lc, e_btup, bt_some, es_nil, es_cons, as_nil, as_cons, o_none, o_some, int_some, j_seq, j_rng, j_zip, zip_tup, j_enum, en_some, s_set', s_setOwn', so_list, s_setN', s_unp', un_some, s_app', ap_some, s_expr', s_ret', s_if', s_for', s_raise', ss_nil, ss_cons, bR_ok, bR_no, shI, shB, shN, eqI, bd_addI, bd_addT, bd_addL, bd_sub, bd_mul, bd_mulL, bd_fdiv, bd_mod, bd_pow, bd_eq, bd_ne, bd_lt, bd_le, bd_gt, bd_ge, bd_gcd, bd_idx, sq_list, sq_tup, if_and, if_or, seq_ite, cr_ite, unD, at_, ixN, intOf, Tg.put, seq_map, z1]
  have k2 : HLm (m + 9) dMaps 2 ⟨ρ3, g⟩ = .ok (.list [.str ("map" : Str), .str ("form" : Str)]) ⟨ρ3, g⟩ := by
    rw [hlm_at m 2 dMaps _ _ rfl, ← hρ, ← told4]
    simp [mapD, b_ok, b_er, b_no, fl_ok, fl_er, fl_no, sq_nx, sq_rt, sq_er, sq_bk, sq_ct, sq_no, c_nx, c_rt, c_er, to_ok, to_er, to_no, of_some, of_none, rd_eq, rd_dat, rd_own, ow_eq, ow_own, pu_eq, mm_var, mm_dat, mm_own, mm_mm, mm_scr, ag_eq, ag_some, ag_none, mm_k, mm_gl, mm_tup, mm_lst, mm_un, mm_bin, mm_and, mm_or, mm_ite, mm_slice, mm_call, mm_lc, mm_btup, mm_hall, e_var, e_k, e_gl, e_tup, e_lst, e_un, e_bin, e_and, e_or, e_ite, e_slice, e_call, e_callk, e_lc, e_btup, bt_some, es_nil, es_cons, as_nil, as_cons, o_none, o_some, int_some, j_seq, j_rng, j_zip, zip_tup, j_enum, en_some, s_set', s_setOwn', so_list, s_setN', s_unp', un_some, s_app', ap_some, s_expr', s_ret', s_if', s_for', s_raise', ss_nil, ss_cons, bR_ok, bR_no, shI, shB, shN, eqI, bd_addI, bd_addT, bd_addL, bd_sub, bd_mul, bd_mulL, bd_fdiv, bd_mod, bd_pow, bd_eq, bd_ne, bd_lt, bd_le, bd_gt, bd_ge, bd_gcd, bd_idx, sq_list, sq_tup, if_and, if_or, seq_ite, cr_ite, unD, at_, ixN, intOf, Tg.put, z2]
  have k3 : HLm (m + 9) dMaps 3 ⟨ρ3, g⟩ = .ok (.list [.str ("point" : Str), .str ("form" : Str)]) ⟨ρ3, g⟩ := by
    rw [hlm_at m 3 dMaps _ _ rfl, ← hρ, ← told2]
    have hx1 : x.length + 1 ≤ 1000000 := by omega
    simp [b_ok, b_er, b_no, fl_ok, fl_er, fl_no, sq_nx, sq_rt, sq_er, sq_bk, sq_ct, sq_no, c_nx, c_rt, c_er, to_ok, to_er, to_no, of_some, of_none, rd_eq, rd_dat, rd_own, ow_eq, ow_own, pu_eq, mm_var, mm_dat, mm_own, mm_mm, mm_scr, ag_eq, ag_some, ag_none, mm_k, mm_gl, mm_tup, mm_lst, mm_un, mm_bin, mm_and, mm_or, mm_ite, mm_slice, mm_call, mm_lc, mm_btup, mm_hall, e_var, e_k, e_gl, e_tup, e_lst, e_un, e_bin, e_and, e_or, e_ite, e_slice, e_call, e_callk, e_lc, e_btup, bt_some, es_nil, es_cons, as_nil, as_cons, o_none, o_some, int_some, j_seq, j_rng, j_zip, zip_tup, j_enum, en_some, s_set', s_setOwn', so_list, s_setN', s_unp', un_some, s_app', ap_some, s_expr', s_ret', s_if', s_for', s_raise', ss_nil, ss_cons, bR_ok, bR_no, shI, shB, shN, eqI, bd_addI, bd_addT, bd_addL, bd_sub, bd_mul, bd_mulL, bd_fdiv, bd_mod, bd_pow, bd_eq, bd_ne, bd_lt, bd_le, bd_gt, bd_ge, bd_gcd, bd_idx, sq_list, sq_tup, if_and, if_or, seq_ite, cr_ite, unD, at_, ixN, intOf, Tg.put, add_frs, hx1, z3]
  have hfour := hl_four (s := ⟨ρ3, g⟩) hlen3 k0 k1 k2 k3
  have hlk : Lk 3 (.list [.list [.str ("map" : Str), e0], .list [.str ("map" : Str), .str ("unknowns" : Str)], .list [.str ("map" : Str), .str ("form" : Str)], .list [.str ("point" : Str), .str ("form" : Str)]]) := by
    refine .list (lk_cons (.list (lk_cons (.str sh_map) (lk_cons hk0 lk_nil)) (by simp)) (lk_cons (.list (lk_cons (.str sh_map) (lk_cons (.str sh_unk) lk_nil)) (by simp)) (lk_cons (.list (lk_cons (.str sh_map) (lk_cons (.str sh_form) lk_nil)) (by simp)) (lk_cons (.list (lk_cons (.str sh_point) (lk_cons (.str sh_form) lk_nil)) (by simp)) lk_nil)))) (by simp)
  have z4 := cl_eq (L_like 3 _ (m + 5) g hlk)
  subst hρ
  generalize HLm (m + 9) dMaps = hl' at *
  rcases hE with ⟨hc, rfl⟩ | ⟨hc, rfl⟩
  · have hc' : 0 < (c : Int) := by omega
    simp [mr3, b__law_maps_right, b_ok, b_er, b_no, fl_ok, fl_er, fl_no, sq_nx, sq_rt, sq_er, sq_bk, sq_ct, sq_no, c_nx, c_rt, c_er, to_ok, to_er, to_no, of_some, of_none, rd_eq, rd_dat, rd_own, ow_eq, ow_own, pu_eq, mm_var, mm_dat, mm_own, mm_mm, mm_scr, ag_eq, ag_some, ag_none, mm_k, mm_gl, mm_tup, mm_lst, mm_un, mm_bin, mm_and, mm_or, mm_ite, mm_slice, mm_call, mm_lc, mm_btup, mm_hall, e_var, e_k, e_gl, e_tup, e_lst, e_un, e_bin, e_and, e_or, e_ite, e_slice, e_call, e_callk, e_lc, e_btup, bt_some, es_nil, es_cons, as_nil, as_cons, o_none, o_some, int_some, j_seq, j_rng, j_zip, zip_tup, j_enum, en_some, s_set', s_setOwn', so_list, s_setN', s_unp', un_some, s_app', ap_some, s_expr', s_ret', s_if', s_for', s_raise', ss_nil, ss_cons, bR_ok, bR_no, shI, shB, shN, eqI, bd_addI, bd_addT, bd_addL, bd_sub, bd_mul, bd_mulL, bd_fdiv, bd_mod, bd_pow, bd_eq, bd_ne, bd_lt, bd_le, bd_gt, bd_ge, bd_gcd, bd_idx, sq_list, sq_tup, if_and, if_or, seq_ite, cr_ite, unD, at_, ixN, intOf, Tg.put, s_lamI, s_lamA, la_thk, e_hall, ha_thk, hfour, seq_lot, hc, z4]
  · subst hc
    simp [mr3, b__law_maps_right, b_ok, b_er, b_no, fl_ok, fl_er, fl_no, sq_nx, sq_rt, sq_er, sq_bk, sq_ct, sq_no, c_nx, c_rt, c_er, to_ok, to_er, to_no, of_some, of_none, rd_eq, rd_dat, rd_own, ow_eq, ow_own, pu_eq, mm_var, mm_dat, mm_own, mm_mm, mm_scr, ag_eq, ag_some, ag_none, mm_k, mm_gl, mm_tup, mm_lst, mm_un, mm_bin, mm_and, mm_or, mm_ite, mm_slice, mm_call, mm_lc, mm_btup, mm_hall, e_var, e_k, e_gl, e_tup, e_lst, e_un, e_bin, e_and, e_or, e_ite, e_slice, e_call, e_callk, e_lc, e_btup, bt_some, es_nil, es_cons, as_nil, as_cons, o_none, o_some, int_some, j_seq, j_rng, j_zip, zip_tup, j_enum, en_some, s_set', s_setOwn', so_list, s_setN', s_unp', un_some, s_app', ap_some, s_expr', s_ret', s_if', s_for', s_raise', ss_nil, ss_cons, bR_ok, bR_no, shI, shB, shN, eqI, bd_addI, bd_addT, bd_addL, bd_sub, bd_mul, bd_mulL, bd_fdiv, bd_mod, bd_pow, bd_eq, bd_ne, bd_lt, bd_le, bd_gt, bd_ge, bd_gcd, bd_idx, sq_list, sq_tup, if_and, if_or, seq_ite, cr_ite, unD, at_, ixN, intOf, Tg.put, s_lamI, s_lamA, la_thk, e_hall, ha_thk, hfour, seq_lot, z4]
theorem L_maps_right (m c : Nat) (rs : List Row) {k : Nat} {g : G} (hl : LotOk c rs) (hr : RsB 4 rs) (h : Gd (k + 200) g) : ∃ g', Gd k g' ∧ cl (m + 10) 58 [.mm, .dat (lotD c rs)] g = .ok (.bool true) g' := by
  obtain ⟨s, ps, x, o, p, t, d, g1, a1, a2, a3, a4, a5, a6⟩ := mr1_ok m c rs hl hr h (HLm (m + 9) dMaps)
  obtain ⟨j, w, wr, g2, b1, b2, b3, b4, b5⟩ := mr2_ok m c s rs ps x o p t d (k := k + 90) hl a2 (by simpa [Nat.add_assoc] using a1) (HLm (m + 9) dMaps)
  refine ⟨g2, b1.less (by omega), ?_⟩
  rw [run (d := dMaps) rfl]
  show (evalSs _ _ b__law_maps_right ⟨some .mm :: some (.dat (lotD c rs)) :: List.replicate 12 none, g⟩).cr = _
  rw [mr_eq, ss_app, a6, sq_nx, ss_app, b5, sq_nx, mr3_ok m c s j rs ps x o p t d _ wr hl a2 a4 a5 b2 b3 b4]
  rfl
end Pv

namespace Pv
open PySem L2
/-! ### moved lots -/
def tmsD : List D := [.tuple [.int 2, .int 1], .tuple [.int 1, .int 2], .tuple [.int 7, .int 3], .tuple [.int 1, .int 1]]
theorem tms_fr : ∀ d ∈ tmsD, ∃ q : Rat, d = frD q ∧ Bq 8 q ∧ 0 < q.num := by
  intro d hd
  simp only [tmsD, List.mem_cons, List.not_mem_nil, or_false] at hd
  rcases hd with rfl | rfl | rfl | rfl
  · exact ⟨⟨2, 1, by decide, by decide⟩, rfl, ⟨by decide, by decide⟩, by decide⟩
  · exact ⟨⟨1, 2, by decide, by decide⟩, rfl, ⟨by decide, by decide⟩, by decide⟩
  · exact ⟨⟨7, 3, by decide, by decide⟩, rfl, ⟨by decide, by decide⟩, by decide⟩
  · exact ⟨⟨1, 1, by decide, by decide⟩, rfl, ⟨by decide, by decide⟩, by decide⟩
def lowsD : List D := [.tuple [.int 0, .int 1], .tuple [.int (-1), .int 2]]
theorem lows_fr : ∀ d ∈ lowsD, ∃ q : Rat, d = frD q ∧ q.num ≤ 0 := by
  intro d hd
  simp only [lowsD, List.mem_cons, List.not_mem_nil, or_false] at hd
  rcases hd with rfl | rfl
  · exact ⟨⟨0, 1, by decide, by decide⟩, rfl, by decide⟩
  · exact ⟨⟨-1, 2, by decide, by decide⟩, rfl, by decide⟩
theorem neg_bq {b : Nat} {q : Rat} (h : Bq b q) : Bq b (-q) := ⟨by rw [Rat.neg_num, Int.natAbs_neg]; exact h.1, by rw [Rat.neg_den]; exact h.2⟩
theorem pos_of {q : Rat} (h : 0 < q.num) : 0 < q := by
  rw [Rat.lt_iff]
  simp
  exact h
def mvA : List Sx := b__law_moves_right.take 1
def mvB : List Sx := (b__law_moves_right.drop 1).take 3
def mvC : List Sx := (b__law_moves_right.drop 4).take 2
def mvD : List Sx := (b__law_moves_right.drop 6).take 4
def mvE : List Sx := (b__law_moves_right.drop 10).take 1
def mvF : List Sx := b__law_moves_right.drop 11
theorem mv_eq : b__law_moves_right = mvA ++ (mvB ++ (mvC ++ (mvD ++ (mvE ++ mvF)))) := rfl
/-- the frame: what stands in the slots 2 .. 12 -/
abbrev fr (L : D) (s2 s3 s4 s5 s6 s7 s8 s9 s10 s11 s12 : Option Sl) : List (Option Sl) := [some .mm, some (.dat L), s2, s3, s4, s5, s6, s7, s8, s9, s10, s11, s12, none, none, none, none, none, none, none]
section
variable (m c : Nat) (rs : List Row) (hl' : Nat → Sg → R D)
theorem mvA_ok {k : Nat} {g : G} (hl : LotOk c rs) (h : Gd (k + 40) g) : ∃ (x y : List Rat) (f : Rat) (g' : G), Gd k g' ∧ x.length = c ∧ (∀ q ∈ x, Bq 8 q) ∧ y.length = c ∧ (∀ q ∈ y, Bq 8 q) ∧ Bq 8 f ∧ 0 < f.num ∧
    evalSs (callF (hdOf qsH) tab (m + 9)) hl' mvA ⟨fr (lotD c rs) none none none none none none none none none none none, g⟩ = .nx ⟨fr (lotD c rs) (some (.dat (frsD x))) (some (.dat (frsD y))) (some (.dat (frD f))) none none none none none none none none, g'⟩ := by
  obtain ⟨x, g1, a1, a2, a3, a4⟩ := L_point (m + 5) c (k := k + 25) hl.n5 (by simpa [Nat.add_assoc] using h)
  obtain ⟨y, g2, b1, b2, b3, b4⟩ := L_point (m + 5) c (k := k + 10) hl.n5 (by simpa [Nat.add_assoc] using a1)
  obtain ⟨d, g3, c1, c2, c3⟩ := L_of (k := k + 9) tmsD (by simp [tmsD]) (by simp [tmsD]) b1
  obtain ⟨f, rfl, e1, e2⟩ := tms_fr d c2
  have z1 := cl_eq a4
  have z2 := cl_eq b4
  have z3 := cl_eq (c3 (m + 7))
  simp only [tmsD] at z3
  refine ⟨x, y, f, g3, c1.less (by omega), a2, a3, b2, b3, e1, e2, ?_⟩
  simp [mvA, b__law_moves_right, b_ok, b_er, b_no, fl_ok, fl_er, fl_no, sq_nx, sq_rt, sq_er, sq_bk, sq_ct, sq_no, c_nx, c_rt, c_er, to_ok, to_er, to_no, of_some, of_none, rd_eq, rd_dat, rd_own, ow_eq, ow_own, pu_eq, mm_var, mm_dat, mm_own, mm_mm, mm_scr, ag_eq, ag_some, ag_none, mm_k, mm_gl, mm_tup, mm_lst, mm_un, mm_bin, mm_and, mm_or, mm_ite, mm_slice, mm_call, mm_lc, mm_btup, mm_hall, e_var, e_k, e_gl, e_tup, e_lst, e_un, e_bin, e_and, e_or, e_ite, e_slice, e_call, e_callk, e_lc, e_btup, bt_some, es_nil, es_cons, as_nil, as_cons, o_none, o_some, int_some, j_seq, j_rng, j_zip, zip_tup, j_enum, en_some, s_set', s_setOwn', so_list, s_setN', s_unp', un_some, s_app', ap_some, s_expr', s_ret', s_if', s_for', s_raise', ss_nil, ss_cons, bR_ok, bR_no, shI, shB, shN, eqI, bd_addI, bd_addT, bd_addL, bd_sub, bd_mul, bd_mulL, bd_fdiv, bd_mod, bd_pow, bd_eq, bd_ne, bd_lt, bd_le, bd_gt, bd_ge, bd_gcd, bd_idx, sq_list, sq_tup, if_and, if_or, seq_ite, cr_ite, unD, at_, ixN, intOf, Tg.put, seq_lot, z1, z2, z3]
theorem mvB_ok (x y : List Rat) (f : Rat) (g : G) (hl : LotOk c rs) (hr : RsB 4 rs) (hx : ∀ q ∈ x, Bq 8 q) (hf : Bq 8 f) :
    evalSs (callF (hdOf qsH) tab (m + 9)) hl' mvB ⟨fr (lotD c rs) (some (.dat (frsD x))) (some (.dat (frsD y))) (some (.dat (frD f))) none none none none none none none none, g⟩ =
      .nx ⟨fr (lotD c rs) (some (.dat (frsD x))) (some (.dat (frsD y))) (some (.dat (frD f))) (some (.dat (lotD c (rs.map (shRow x))))) (some (.dat (lotD c (rs.map (tmRow f))))) (some (.dat (lotD c (rs.map tnRow)))) none none none none none, g⟩ := by
  have h60 := hl.r60
  have q1 := lcA_pure (cf := callF (hdOf qsH) tab (m + 9)) (hl := hl') (own := [14, 15, 16]) (tg := .many [14, 15, 16]) (elt := .tup [(.var 14), (.var 15), (.call 43 0 [(.lst [(.var 16), (.call 50 0 [(.var 15), (.var 2)])])])]) (ρ := fr (lotD c rs) (some (.dat (frsD x))) (some (.dat (frsD y))) (some (.dat (frD f))) none none none none none none none none) (g := g)
    rowD (fun r => rowD (shRow x r)) rs (fun r hr' => by
      have hl5 : r.w.length ≤ 5 := by rw [hl.w r hr']; exact hl.n5
      have z := cl_eq (L_lvalue (m + 5) r.w x 4 8 5 g (hr r hr').1 hx hl5 (by decide) (by decide) (by decide))
      have z2 := cl_eq (L_lsum (m + 6) [r.b, dot r.w x] (1 + (4 + 8 + 1) * 5) g (fun q hq => by
        simp only [List.mem_cons, List.not_mem_nil, or_false] at hq
        rcases hq with rfl | rfl
        · exact (hr r hr').2.up (by decide)
        · exact dot_bq (hr r hr').1 hx hl5) (by show (1 + (4 + 8 + 1) * 5 + 1) * 2 < 7790; decide))
      have e : sumQ [r.b, dot r.w x] = r.b + dot r.w x := by simp [sumQ, Rat.add_zero]
      rw [e] at z2
      simp only [List.map_cons, List.map_nil] at z2
      refine ⟨[some .mm, some (.dat (lotD c rs)), some (.dat (frsD x)), some (.dat (frsD y)), some (.dat (frD f)), none, none, none, none, none, none, none, none, none, some (.dat (.str (kindS r.same))), some (.dat (frsD r.w)), some (.dat (frD r.b)), none, none, none], rfl, ?_, rfl⟩
      have e : rowD (shRow x r) = .tuple [.str (kindS r.same), frsD r.w, frD (r.b + dot r.w x)] := rfl
      rw [e]
      simp [b_ok, b_er, b_no, fl_ok, fl_er, fl_no, sq_nx, sq_rt, sq_er, sq_bk, sq_ct, sq_no, c_nx, c_rt, c_er, to_ok, to_er, to_no, of_some, of_none, rd_eq, rd_dat, rd_own, ow_eq, ow_own, pu_eq, mm_var, mm_dat, mm_own, mm_mm, mm_scr, ag_eq, ag_some, ag_none, mm_k, mm_gl, mm_tup, mm_lst, mm_un, mm_bin, mm_and, mm_or, mm_ite, mm_slice, mm_call, mm_lc, mm_btup, mm_hall, e_var, e_k, e_gl, e_tup, e_lst, e_un, e_bin, e_and, e_or, e_ite, e_slice, e_call, e_callk, e_lc, e_btup, bt_some, es_nil, es_cons, as_nil, as_cons, o_none, o_some, int_some, j_seq, j_rng, j_zip, zip_tup, j_enum, en_some, s_set', s_setOwn', so_list, s_setN', s_unp', un_some, s_app', ap_some, s_expr', s_ret', s_if', s_for', s_raise', ss_nil, ss_cons, bR_ok, bR_no, shI, shB, shN, eqI, bd_addI, bd_addT, bd_addL, bd_sub, bd_mul, bd_mulL, bd_fdiv, bd_mod, bd_pow, bd_eq, bd_ne, bd_lt, bd_le, bd_gt, bd_ge, bd_gcd, bd_idx, sq_list, sq_tup, if_and, if_or, seq_ite, cr_ite, unD, at_, ixN, intOf, Tg.put, z, z2]) (by omega)
  have q2 := lcA_pure (cf := callF (hdOf qsH) tab (m + 9)) (hl := hl') (own := [14, 15, 16]) (tg := .many [14, 15, 16]) (elt := .tup [(.var 14), (.var 15), (.call 44 0 [(.lst [(.var 16), (.var 4)])])]) (ρ := fr (lotD c rs) (some (.dat (frsD x))) (some (.dat (frsD y))) (some (.dat (frD f))) (some (.dat (lotD c (rs.map (shRow x))))) none none none none none none none) (g := g)
    rowD (fun r => rowD (tmRow f r)) rs (fun r hr' => by
      have z := cl_eq (L_ltimes (m + 6) r.b f 4 8 g (hr r hr').2 hf (by decide))
      refine ⟨[some .mm, some (.dat (lotD c rs)), some (.dat (frsD x)), some (.dat (frsD y)), some (.dat (frD f)), some (.dat (lotD c (rs.map (shRow x)))), none, none, none, none, none, none, none, none, some (.dat (.str (kindS r.same))), some (.dat (frsD r.w)), some (.dat (frD r.b)), none, none, none], rfl, ?_, rfl⟩
      have e : rowD (tmRow f r) = .tuple [.str (kindS r.same), frsD r.w, frD (r.b * f)] := rfl
      rw [e]
      simp [b_ok, b_er, b_no, fl_ok, fl_er, fl_no, sq_nx, sq_rt, sq_er, sq_bk, sq_ct, sq_no, c_nx, c_rt, c_er, to_ok, to_er, to_no, of_some, of_none, rd_eq, rd_dat, rd_own, ow_eq, ow_own, pu_eq, mm_var, mm_dat, mm_own, mm_mm, mm_scr, ag_eq, ag_some, ag_none, mm_k, mm_gl, mm_tup, mm_lst, mm_un, mm_bin, mm_and, mm_or, mm_ite, mm_slice, mm_call, mm_lc, mm_btup, mm_hall, e_var, e_k, e_gl, e_tup, e_lst, e_un, e_bin, e_and, e_or, e_ite, e_slice, e_call, e_callk, e_lc, e_btup, bt_some, es_nil, es_cons, as_nil, as_cons, o_none, o_some, int_some, j_seq, j_rng, j_zip, zip_tup, j_enum, en_some, s_set', s_setOwn', so_list, s_setN', s_unp', un_some, s_app', ap_some, s_expr', s_ret', s_if', s_for', s_raise', ss_nil, ss_cons, bR_ok, bR_no, shI, shB, shN, eqI, bd_addI, bd_addT, bd_addL, bd_sub, bd_mul, bd_mulL, bd_fdiv, bd_mod, bd_pow, bd_eq, bd_ne, bd_lt, bd_le, bd_gt, bd_ge, bd_gcd, bd_idx, sq_list, sq_tup, if_and, if_or, seq_ite, cr_ite, unD, at_, ixN, intOf, Tg.put, z]) (by omega)
  have q3 := lcA_pure (cf := callF (hdOf qsH) tab (m + 9)) (hl := hl') (own := [14, 15, 16]) (tg := .many [14, 15, 16]) (elt := .tup [(.var 14), (.un .tuple (.lc [17] (.one 17) (.seq (.var 15)) none (.tup [(.un .neg (.bin .idx (.var 17) (.k (.int 0)))), (.bin .idx (.var 17) (.k (.int 1)))]))), (.var 16)]) (ρ := fr (lotD c rs) (some (.dat (frsD x))) (some (.dat (frsD y))) (some (.dat (frD f))) (some (.dat (lotD c (rs.map (shRow x))))) (some (.dat (lotD c (rs.map (tmRow f))))) none none none none none none) (g := g)
    rowD (fun r => rowD (tnRow r)) rs (fun r hr' => by
      have hl5 : r.w.length ≤ 5 := by rw [hl.w r hr']; exact hl.n5
      have q := lcA_pure (cf := callF (hdOf qsH) tab (m + 9)) (hl := hl') (own := [17]) (tg := .one 17) (elt := .tup [(.un .neg (.bin .idx (.var 17) (.k (.int 0)))), (.bin .idx (.var 17) (.k (.int 1)))]) (ρ := [some .mm, some (.dat (lotD c rs)), some (.dat (frsD x)), some (.dat (frsD y)), some (.dat (frD f)), some (.dat (lotD c (rs.map (shRow x)))), some (.dat (lotD c (rs.map (tmRow f)))), none, none, none, none, none, none, none, some (.dat (.str (kindS r.same))), some (.dat (frsD r.w)), some (.dat (frD r.b)), none, none, none]) (g := g)
        frD (fun q => frD (-q)) r.w (fun q _ => by
          refine ⟨[some .mm, some (.dat (lotD c rs)), some (.dat (frsD x)), some (.dat (frsD y)), some (.dat (frD f)), some (.dat (lotD c (rs.map (shRow x)))), some (.dat (lotD c (rs.map (tmRow f)))), none, none, none, none, none, none, none, some (.dat (.str (kindS r.same))), some (.dat (frsD r.w)), some (.dat (frD r.b)), some (.dat (frD q)), none, none], rfl, ?_, rfl⟩
          rw [frD_neg]
          simp [b_ok, b_er, b_no, fl_ok, fl_er, fl_no, sq_nx, sq_rt, sq_er, sq_bk, sq_ct, sq_no, c_nx, c_rt, c_er, to_ok, to_er, to_no, of_some, of_none, rd_eq, rd_dat, rd_own, ow_eq, ow_own, pu_eq, mm_var, mm_dat, mm_own, mm_mm, mm_scr, ag_eq, ag_some, ag_none, mm_k, mm_gl, mm_tup, mm_lst, mm_un, mm_bin, mm_and, mm_or, mm_ite, mm_slice, mm_call, mm_lc, mm_btup, mm_hall, e_var, e_k, e_gl, e_tup, e_lst, e_un, e_bin, e_and, e_or, e_ite, e_slice, e_call, e_callk, e_lc, e_btup, bt_some, es_nil, es_cons, as_nil, as_cons, o_none, o_some, int_some, j_seq, j_rng, j_zip, zip_tup, j_enum, en_some, s_set', s_setOwn', so_list, s_setN', s_unp', un_some, s_app', ap_some, s_expr', s_ret', s_if', s_for', s_raise', ss_nil, ss_cons, bR_ok, bR_no, shI, shB, shN, eqI, bd_addI, bd_addT, bd_addL, bd_sub, bd_mul, bd_mulL, bd_fdiv, bd_mod, bd_pow, bd_eq, bd_ne, bd_lt, bd_le, bd_gt, bd_ge, bd_gcd, bd_idx, sq_list, sq_tup, if_and, if_or, seq_ite, cr_ite, unD, at_, ixN, intOf, Tg.put, seq_fr]) (by omega)
      refine ⟨[some .mm, some (.dat (lotD c rs)), some (.dat (frsD x)), some (.dat (frsD y)), some (.dat (frD f)), some (.dat (lotD c (rs.map (shRow x)))), some (.dat (lotD c (rs.map (tmRow f)))), none, none, none, none, none, none, none, some (.dat (.str (kindS r.same))), some (.dat (frsD r.w)), some (.dat (frD r.b)), none, none, none], rfl, ?_, rfl⟩
      have e : rowD (tnRow r) = .tuple [.str (kindS r.same), .tuple (r.w.map fun q => frD (-q)), frD r.b] := by simp [rowD, tnRow, frsD, Function.comp_def]
      rw [e]
      simp [b_ok, b_er, b_no, fl_ok, fl_er, fl_no, sq_nx, sq_rt, sq_er, sq_bk, sq_ct, sq_no, c_nx, c_rt, c_er, to_ok, to_er, to_no, of_some, of_none, rd_eq, rd_dat, rd_own, ow_eq, ow_own, pu_eq, mm_var, mm_dat, mm_own, mm_mm, mm_scr, ag_eq, ag_some, ag_none, mm_k, mm_gl, mm_tup, mm_lst, mm_un, mm_bin, mm_and, mm_or, mm_ite, mm_slice, mm_call, mm_lc, mm_btup, mm_hall, e_var, e_k, e_gl, e_tup, e_lst, e_un, e_bin, e_and, e_or, e_ite, e_slice, e_call, e_callk, e_lc, e_btup, bt_some, es_nil, es_cons, as_nil, as_cons, o_none, o_some, int_some, j_seq, j_rng, j_zip, zip_tup, j_enum, en_some, s_set', s_setOwn', so_list, s_setN', s_unp', un_some, s_app', ap_some, s_expr', s_ret', s_if', s_for', s_raise', ss_nil, ss_cons, bR_ok, bR_no, shI, shB, shN, eqI, bd_addI, bd_addT, bd_addL, bd_sub, bd_mul, bd_mulL, bd_fdiv, bd_mod, bd_pow, bd_eq, bd_ne, bd_lt, bd_le, bd_gt, bd_ge, bd_gcd, bd_idx, sq_list, sq_tup, if_and, if_or, seq_ite, cr_ite, unD, at_, ixN, intOf, Tg.put, seq_frs, q, backS, wipeS]) (by omega)
  have e1 : lotD c (rs.map (shRow x)) = .tuple [.int c, .tuple (rs.map fun r => rowD (shRow x r))] := by simp [lotD, rowsD, Function.comp_def]
  have e2 : lotD c (rs.map (tmRow f)) = .tuple [.int c, .tuple (rs.map fun r => rowD (tmRow f r))] := by simp [lotD, rowsD, Function.comp_def]
  have e3 : lotD c (rs.map tnRow) = .tuple [.int c, .tuple (rs.map fun r => rowD (tnRow r))] := by simp [lotD, rowsD, Function.comp_def]
  rw [e1] at q2 q3 ⊢
  rw [e2] at q3 ⊢
  rw [e3]
  simp only [fr] at q1 q2 q3
  simp [mvB, b__law_moves_right, b_ok, b_er, b_no, fl_ok, fl_er, fl_no, sq_nx, sq_rt, sq_er, sq_bk, sq_ct, sq_no, c_nx, c_rt, c_er, to_ok, to_er, to_no, of_some, of_none, rd_eq, rd_dat, rd_own, ow_eq, ow_own, pu_eq, mm_var, mm_dat, mm_own, mm_mm, mm_scr, ag_eq, ag_some, ag_none, mm_k, mm_gl, mm_tup, mm_lst, mm_un, mm_bin, mm_and, mm_or, mm_ite, mm_slice, mm_call, mm_lc, mm_btup, mm_hall, e_var, e_k, e_gl, e_tup, e_lst, e_un, e_bin, e_and, e_or, e_ite, e_slice, e_call, e_callk, e_lc, e_btup, bt_some, es_nil, es_cons, as_nil, as_cons, o_none, o_some, int_some, j_seq, j_rng, j_zip, zip_tup, j_enum, en_some, s_set', s_setOwn', so_list, s_setN', s_unp', un_some, s_app', ap_some, s_expr', s_ret', s_if', s_for', s_raise', ss_nil, ss_cons, bR_ok, bR_no, shI, shB, shN, eqI, bd_addI, bd_addT, bd_addL, bd_sub, bd_mul, bd_mulL, bd_fdiv, bd_mod, bd_pow, bd_eq, bd_ne, bd_lt, bd_le, bd_gt, bd_ge, bd_gcd, bd_idx, sq_list, sq_tup, if_and, if_or, seq_ite, cr_ite, unD, at_, ixN, intOf, Tg.put, seq_lot, seq_rows, q1, q2, q3, backS, wipeS]
theorem sh_ok {x : List Rat} (hl : LotOk c rs) : LotOk c (rs.map (shRow x)) := ⟨hl.n5, by rw [List.length_map]; exact hl.r60, fun r hr => by
  obtain ⟨r0, h0, rfl⟩ := List.mem_map.mp hr
  exact hl.w r0 h0⟩
theorem tm_ok {f : Rat} (hl : LotOk c rs) : LotOk c (rs.map (tmRow f)) := ⟨hl.n5, by rw [List.length_map]; exact hl.r60, fun r hr => by
  obtain ⟨r0, h0, rfl⟩ := List.mem_map.mp hr
  exact hl.w r0 h0⟩
theorem tn_ok (hl : LotOk c rs) : LotOk c (rs.map tnRow) := ⟨hl.n5, by rw [List.length_map]; exact hl.r60, fun r hr => by
  obtain ⟨r0, h0, rfl⟩ := List.mem_map.mp hr
  show (r0.w.map _).length = c
  rw [List.length_map]
  exact hl.w r0 h0⟩
theorem sh_bq {x : List Rat} (hl : LotOk c rs) (hr : RsB 4 rs) (hx : ∀ q ∈ x, Bq 8 q) : RsB 100 (rs.map (shRow x)) := fun r hr' => by
  obtain ⟨r0, h0, rfl⟩ := List.mem_map.mp hr'
  exact ⟨fun q hq => ((hr r0 h0).1 q hq).up (by decide), ((hr r0 h0).2.plus (dot_bq (hr r0 h0).1 hx (n := 5) (by rw [hl.w r0 h0]; exact hl.n5))).up (by decide)⟩
theorem tm_bq {f : Rat} (hr : RsB 4 rs) (hf : Bq 8 f) : RsB 100 (rs.map (tmRow f)) := fun r hr' => by
  obtain ⟨r0, h0, rfl⟩ := List.mem_map.mp hr'
  exact ⟨fun q hq => ((hr r0 h0).1 q hq).up (by decide), ((hr r0 h0).2.times hf).up (by decide)⟩
theorem tn_bq (hr : RsB 4 rs) : RsB 100 (rs.map tnRow) := fun r hr' => by
  obtain ⟨r0, h0, rfl⟩ := List.mem_map.mp hr'
  refine ⟨fun q hq => ?_, (hr r0 h0).2.up (by decide)⟩
  obtain ⟨q0, hq0, rfl⟩ := List.mem_map.mp hq
  exact (neg_bq ((hr r0 h0).1 q0 hq0)).up (by decide)
theorem lk_lotOk {rs : List Row} (hl : LotOk c rs) : Lk 5 (lotD c rs) := lk_lot (fun r hr => by rw [hl.w r hr]; have := hl.n5; omega) (by have := hl.r60; omega)
theorem mvC_ok (x y : List Rat) (f : Rat) (g : G) (hl : LotOk c rs) (hr : RsB 4 rs) (hxl : x.length = c) (hx : ∀ q ∈ x, Bq 8 q) (hf : Bq 8 f) (hf0 : 0 < f.num) :
    evalSs (callF (hdOf qsH) tab (m + 9)) hl' mvC ⟨fr (lotD c rs) (some (.dat (frsD x))) (some (.dat (frsD y))) (some (.dat (frD f))) (some (.dat (lotD c (rs.map (shRow x))))) (some (.dat (lotD c (rs.map (tmRow f))))) (some (.dat (lotD c (rs.map tnRow)))) none none none none none, g⟩ =
      .nx ⟨fr (lotD c rs) (some (.dat (frsD x))) (some (.dat (frsD y))) (some (.dat (frD f))) (some (.dat (lotD c (rs.map (shRow x))))) (some (.dat (lotD c (rs.map (tmRow f))))) (some (.dat (lotD c (rs.map tnRow)))) (some (.dat (.list [lotD c (rs.map (shRow x)), lotD c (rs.map (tmRow f)), lotD c (rs.map tnRow)]))) none none none none, g⟩ := by
  have z1 := cl_eq (L_shifted (m + 2) c rs x 4 8 g hr hl hx hxl (by decide))
  have z2 := cl_eq (L_lot_times (m + 2) c rs f 4 8 g hr hl hf hf0 (by decide))
  have z3 := cl_eq (L_turned (m + 2) c rs g hl)
  have hlk : Lk 6 (.list [lotD c (rs.map (shRow x)), lotD c (rs.map (tmRow f)), lotD c (rs.map tnRow)]) := .list (lk_cons (lk_lotOk c (sh_ok c rs hl)) (lk_cons (lk_lotOk c (tm_ok c rs hl)) (lk_cons (lk_lotOk c (tn_ok c rs hl)) lk_nil))) (by simp)
  have z4 := cl_eq (L_like 6 _ (m + 2) g hlk)
  simp [mvC, b__law_moves_right, b_ok, b_er, b_no, fl_ok, fl_er, fl_no, sq_nx, sq_rt, sq_er, sq_bk, sq_ct, sq_no, c_nx, c_rt, c_er, to_ok, to_er, to_no, of_some, of_none, rd_eq, rd_dat, rd_own, ow_eq, ow_own, pu_eq, mm_var, mm_dat, mm_own, mm_mm, mm_scr, ag_eq, ag_some, ag_none, mm_k, mm_gl, mm_tup, mm_lst, mm_un, mm_bin, mm_and, mm_or, mm_ite, mm_slice, mm_call, mm_lc, mm_btup, mm_hall, e_var, e_k, e_gl, e_tup, e_lst, e_un, e_bin, e_and, e_or, e_ite, e_slice, e_call, e_callk, e_lc, e_btup, bt_some, es_nil, es_cons, as_nil, as_cons, o_none, o_some, int_some, j_seq, j_rng, j_zip, zip_tup, j_enum, en_some, s_set', s_setOwn', so_list, s_setN', s_unp', un_some, s_app', ap_some, s_expr', s_ret', s_if', s_for', s_raise', ss_nil, ss_cons, bR_ok, bR_no, shI, shB, shN, eqI, bd_addI, bd_addT, bd_addL, bd_sub, bd_mul, bd_mulL, bd_fdiv, bd_mod, bd_pow, bd_eq, bd_ne, bd_lt, bd_le, bd_gt, bd_ge, bd_gcd, bd_idx, sq_list, sq_tup, if_and, if_or, seq_ite, cr_ite, unD, at_, ixN, intOf, Tg.put, z1, z2, z3, z4]
theorem mvD_ok (x y : List Rat) (f : Rat) (t : D) (g : G) (hl : LotOk c rs) (hr : RsB 4 rs) (hxl : x.length = c) (hx : ∀ q ∈ x, Bq 8 q) (hyl : y.length = c) (hy : ∀ q ∈ y, Bq 8 q) (hf : Bq 8 f) (hf0 : 0 < f.num) :
    ∃ s8 s9 s10 : Option Sl, evalSs (callF (hdOf qsH) tab (m + 9)) hl' mvD ⟨fr (lotD c rs) (some (.dat (frsD x))) (some (.dat (frsD y))) (some (.dat (frD f))) (some (.dat (lotD c (rs.map (shRow x))))) (some (.dat (lotD c (rs.map (tmRow f))))) (some (.dat (lotD c (rs.map tnRow)))) (some (.dat t)) none none none none, g⟩ =
      .nx ⟨fr (lotD c rs) (some (.dat (frsD x))) (some (.dat (frsD y))) (some (.dat (frD f))) (some (.dat (lotD c (rs.map (shRow x))))) (some (.dat (lotD c (rs.map (tmRow f))))) (some (.dat (lotD c (rs.map tnRow)))) s8 s9 s10 none none, g⟩ := by
  have n5 := hl.n5
  have hsb := sh_bq c rs hl hr hx
  have htb := tm_bq rs hr hf
  have hnb := tn_bq rs hr
  have hyx : y.length = x.length := by omega
  have hmv : ∀ q ∈ addQ y x, Bq 17 q := fun q hq => by
    obtain ⟨p, hp, rfl⟩ := List.mem_map.mp hq
    obtain ⟨h1, h2⟩ := zip_mem hp
    exact (hy _ h1).plus (hx _ h2)
  have hyf : ∀ q ∈ y.map (fun q => q * f), Bq 16 q := fun q hq => by
    obtain ⟨p, hp, rfl⟩ := List.mem_map.mp hq
    exact (hy _ hp).times hf
  have hyn : ∀ q ∈ y.map (fun q => -q), Bq 8 q := fun q hq => by
    obtain ⟨p, hp, rfl⟩ := List.mem_map.mp hq
    exact neg_bq (hy _ hp)
  have z1 := cl_eq (L_inside (m + 2) c rs y 4 8 g hr hl hy hyl (by decide))
  have z2 := cl_eq (L_inside (m + 2) c (rs.map (shRow x)) (addQ y x) 100 17 g hsb (sh_ok c rs hl) hmv (by simp [addQ]; omega) (by decide))
  have z3 := cl_eq (L_inside (m + 2) c (rs.map (tmRow f)) (y.map fun q => q * f) 100 16 g htb (tm_ok c rs hl) hyf (by simp [hyl]) (by decide))
  have z4 := cl_eq (L_inside (m + 2) c (rs.map tnRow) (y.map fun q => -q) 100 8 g hnb (tn_ok c rs hl) hyn (by simp [hyl]) (by decide))
  have e2 : ((rs.map (shRow x)).all fun r => holdB r (addQ y x)) = rs.all fun r => holdB r y := by
    rw [List.all_map]; congr 1; funext r; exact hold_sh hyx
  have e3 : ((rs.map (tmRow f)).all fun r => holdB r (y.map fun q => q * f)) = rs.all fun r => holdB r y := by
    rw [List.all_map]; congr 1; funext r; exact hold_tm (pos_of hf0)
  have e4 : ((rs.map tnRow).all fun r => holdB r (y.map fun q => -q)) = rs.all fun r => holdB r y := by
    rw [List.all_map]; congr 1; funext r; exact hold_tn
  rw [e2] at z2
  rw [e3] at z3
  rw [e4] at z4
  generalize (rs.all fun r => holdB r y) = B at *
  have hlk : Lk 1 (.list [.bool B, .bool B, .bool B]) := .list (lk_cons (.bool _) (lk_cons (.bool _) (lk_cons (.bool _) lk_nil))) (by simp)
  have z5 := cl_eq (L_like 1 _ (m + 7) g hlk)
  have q1 : ∀ s8 s9 s10, lcA (callF (hdOf qsH) tab (m + 9)) hl' [17, 18] (.many [17, 18]) none (.call 43 0 [(.lst [(.var 17), (.var 18)])]) (zips (y.map frD) (x.map frD)) ⟨fr (lotD c rs) (some (.dat (frsD x))) (some (.dat (frsD y))) (some (.dat (frD f))) (some (.dat (lotD c (rs.map (shRow x))))) (some (.dat (lotD c (rs.map (tmRow f))))) (some (.dat (lotD c (rs.map tnRow)))) s8 s9 s10 none none, g⟩ =
      .ok (.list ((addQ y x).map frD)) ⟨fr (lotD c rs) (some (.dat (frsD x))) (some (.dat (frsD y))) (some (.dat (frD f))) (some (.dat (lotD c (rs.map (shRow x))))) (some (.dat (lotD c (rs.map (tmRow f))))) (some (.dat (lotD c (rs.map tnRow)))) s8 s9 s10 none none, g⟩ := by
    intro s8 s9 s10
    rw [zips_map]
    have q := lcA_pure (cf := callF (hdOf qsH) tab (m + 9)) (hl := hl') (own := [17, 18]) (tg := .many [17, 18]) (elt := .call 43 0 [(.lst [(.var 17), (.var 18)])]) (ρ := fr (lotD c rs) (some (.dat (frsD x))) (some (.dat (frsD y))) (some (.dat (frD f))) (some (.dat (lotD c (rs.map (shRow x))))) (some (.dat (lotD c (rs.map (tmRow f))))) (some (.dat (lotD c (rs.map tnRow)))) s8 s9 s10 none none) (g := g)
      (fun p : Rat × Rat => PyData.tuple [frD p.1, frD p.2]) (fun p => frD (p.1 + p.2)) (y.zip x) (fun p hp => by
        obtain ⟨h1, h2⟩ := zip_mem hp
        have z := cl_eq (L_lsum (m + 6) [p.1, p.2] 8 g (fun q hq => by
          simp only [List.mem_cons, List.not_mem_nil, or_false] at hq
          rcases hq with rfl | rfl
          · exact hy _ h1
          · exact hx _ h2) (by show (8 + 1) * 2 < 7790; decide))
        have e : sumQ [p.1, p.2] = p.1 + p.2 := by simp [sumQ, Rat.add_zero]
        rw [e] at z
        simp only [List.map_cons, List.map_nil] at z
        refine ⟨[some .mm, some (.dat (lotD c rs)), some (.dat (frsD x)), some (.dat (frsD y)), some (.dat (frD f)), some (.dat (lotD c (rs.map (shRow x)))), some (.dat (lotD c (rs.map (tmRow f)))), some (.dat (lotD c (rs.map tnRow))), s8, s9, s10, none, none, none, none, none, none, some (.dat (frD p.1)), some (.dat (frD p.2)), none], rfl, ?_, rfl⟩
        simp [b_ok, b_er, b_no, fl_ok, fl_er, fl_no, sq_nx, sq_rt, sq_er, sq_bk, sq_ct, sq_no, c_nx, c_rt, c_er, to_ok, to_er, to_no, of_some, of_none, rd_eq, rd_dat, rd_own, ow_eq, ow_own, pu_eq, mm_var, mm_dat, mm_own, mm_mm, mm_scr, ag_eq, ag_some, ag_none, mm_k, mm_gl, mm_tup, mm_lst, mm_un, mm_bin, mm_and, mm_or, mm_ite, mm_slice, mm_call, mm_lc, mm_btup, mm_hall, e_var, e_k, e_gl, e_tup, e_lst, e_un, e_bin, e_and, e_or, e_ite, e_slice, e_call, e_callk, e_lc, e_btup, bt_some, es_nil, es_cons, as_nil, as_cons, o_none, o_some, int_some, j_seq, j_rng, j_zip, zip_tup, j_enum, en_some, s_set', s_setOwn', so_list, s_setN', s_unp', un_some, s_app', ap_some, s_expr', s_ret', s_if', s_for', s_raise', ss_nil, ss_cons, bR_ok, bR_no, shI, shB, shN, eqI, bd_addI, bd_addT, bd_addL, bd_sub, bd_mul, bd_mulL, bd_fdiv, bd_mod, bd_pow, bd_eq, bd_ne, bd_lt, bd_le, bd_gt, bd_ge, bd_gcd, bd_idx, sq_list, sq_tup, if_and, if_or, seq_ite, cr_ite, unD, at_, ixN, intOf, Tg.put, z]) (by rw [List.length_zip]; omega)
    rw [q]
    simp [addQ, Function.comp_def, backS, wipeS]
  have q2 : ∀ s8 s9 s10, lcA (callF (hdOf qsH) tab (m + 9)) hl' [17] (.one 17) none (.call 44 0 [(.lst [(.var 17), (.var 4)])]) (y.map frD) ⟨fr (lotD c rs) (some (.dat (frsD x))) (some (.dat (frsD y))) (some (.dat (frD f))) (some (.dat (lotD c (rs.map (shRow x))))) (some (.dat (lotD c (rs.map (tmRow f))))) (some (.dat (lotD c (rs.map tnRow)))) s8 s9 s10 none none, g⟩ =
      .ok (.list ((y.map fun q => q * f).map frD)) ⟨fr (lotD c rs) (some (.dat (frsD x))) (some (.dat (frsD y))) (some (.dat (frD f))) (some (.dat (lotD c (rs.map (shRow x))))) (some (.dat (lotD c (rs.map (tmRow f))))) (some (.dat (lotD c (rs.map tnRow)))) s8 s9 s10 none none, g⟩ := by
    intro s8 s9 s10
    have q := lcA_pure (cf := callF (hdOf qsH) tab (m + 9)) (hl := hl') (own := [17]) (tg := .one 17) (elt := .call 44 0 [(.lst [(.var 17), (.var 4)])]) (ρ := fr (lotD c rs) (some (.dat (frsD x))) (some (.dat (frsD y))) (some (.dat (frD f))) (some (.dat (lotD c (rs.map (shRow x))))) (some (.dat (lotD c (rs.map (tmRow f))))) (some (.dat (lotD c (rs.map tnRow)))) s8 s9 s10 none none) (g := g)
      frD (fun p => frD (p * f)) y (fun p hp => by
        have z := cl_eq (L_ltimes (m + 6) p f 8 8 g (hy _ hp) hf (by decide))
        refine ⟨[some .mm, some (.dat (lotD c rs)), some (.dat (frsD x)), some (.dat (frsD y)), some (.dat (frD f)), some (.dat (lotD c (rs.map (shRow x)))), some (.dat (lotD c (rs.map (tmRow f)))), some (.dat (lotD c (rs.map tnRow))), s8, s9, s10, none, none, none, none, none, none, some (.dat (frD p)), none, none], rfl, ?_, rfl⟩
        simp [b_ok, b_er, b_no, fl_ok, fl_er, fl_no, sq_nx, sq_rt, sq_er, sq_bk, sq_ct, sq_no, c_nx, c_rt, c_er, to_ok, to_er, to_no, of_some, of_none, rd_eq, rd_dat, rd_own, ow_eq, ow_own, pu_eq, mm_var, mm_dat, mm_own, mm_mm, mm_scr, ag_eq, ag_some, ag_none, mm_k, mm_gl, mm_tup, mm_lst, mm_un, mm_bin, mm_and, mm_or, mm_ite, mm_slice, mm_call, mm_lc, mm_btup, mm_hall, e_var, e_k, e_gl, e_tup, e_lst, e_un, e_bin, e_and, e_or, e_ite, e_slice, e_call, e_callk, e_lc, e_btup, bt_some, es_nil, es_cons, as_nil, as_cons, o_none, o_some, int_some, j_seq, j_rng, j_zip, zip_tup, j_enum, en_some, s_set', s_setOwn', so_list, s_setN', s_unp', un_some, s_app', ap_some, s_expr', s_ret', s_if', s_for', s_raise', ss_nil, ss_cons, bR_ok, bR_no, shI, shB, shN, eqI, bd_addI, bd_addT, bd_addL, bd_sub, bd_mul, bd_mulL, bd_fdiv, bd_mod, bd_pow, bd_eq, bd_ne, bd_lt, bd_le, bd_gt, bd_ge, bd_gcd, bd_idx, sq_list, sq_tup, if_and, if_or, seq_ite, cr_ite, unD, at_, ixN, intOf, Tg.put, z]) (by omega)
    rw [q]
    simp [Function.comp_def, backS, wipeS]
  have q3 : ∀ s8 s9 s10, lcA (callF (hdOf qsH) tab (m + 9)) hl' [17] (.one 17) none (.tup [(.un .neg (.bin .idx (.var 17) (.k (.int 0)))), (.bin .idx (.var 17) (.k (.int 1)))]) (y.map frD) ⟨fr (lotD c rs) (some (.dat (frsD x))) (some (.dat (frsD y))) (some (.dat (frD f))) (some (.dat (lotD c (rs.map (shRow x))))) (some (.dat (lotD c (rs.map (tmRow f))))) (some (.dat (lotD c (rs.map tnRow)))) s8 s9 s10 none none, g⟩ =
      .ok (.list ((y.map fun q => -q).map frD)) ⟨fr (lotD c rs) (some (.dat (frsD x))) (some (.dat (frsD y))) (some (.dat (frD f))) (some (.dat (lotD c (rs.map (shRow x))))) (some (.dat (lotD c (rs.map (tmRow f))))) (some (.dat (lotD c (rs.map tnRow)))) s8 s9 s10 none none, g⟩ := by
    intro s8 s9 s10
    have q := lcA_pure (cf := callF (hdOf qsH) tab (m + 9)) (hl := hl') (own := [17]) (tg := .one 17) (elt := .tup [(.un .neg (.bin .idx (.var 17) (.k (.int 0)))), (.bin .idx (.var 17) (.k (.int 1)))]) (ρ := fr (lotD c rs) (some (.dat (frsD x))) (some (.dat (frsD y))) (some (.dat (frD f))) (some (.dat (lotD c (rs.map (shRow x))))) (some (.dat (lotD c (rs.map (tmRow f))))) (some (.dat (lotD c (rs.map tnRow)))) s8 s9 s10 none none) (g := g)
      frD (fun p => frD (-p)) y (fun p hp => by
        refine ⟨[some .mm, some (.dat (lotD c rs)), some (.dat (frsD x)), some (.dat (frsD y)), some (.dat (frD f)), some (.dat (lotD c (rs.map (shRow x)))), some (.dat (lotD c (rs.map (tmRow f)))), some (.dat (lotD c (rs.map tnRow))), s8, s9, s10, none, none, none, none, none, none, some (.dat (frD p)), none, none], rfl, ?_, rfl⟩
        rw [frD_neg]
        simp [b_ok, b_er, b_no, fl_ok, fl_er, fl_no, sq_nx, sq_rt, sq_er, sq_bk, sq_ct, sq_no, c_nx, c_rt, c_er, to_ok, to_er, to_no, of_some, of_none, rd_eq, rd_dat, rd_own, ow_eq, ow_own, pu_eq, mm_var, mm_dat, mm_own, mm_mm, mm_scr, ag_eq, ag_some, ag_none, mm_k, mm_gl, mm_tup, mm_lst, mm_un, mm_bin, mm_and, mm_or, mm_ite, mm_slice, mm_call, mm_lc, mm_btup, mm_hall, e_var, e_k, e_gl, e_tup, e_lst, e_un, e_bin, e_and, e_or, e_ite, e_slice, e_call, e_callk, e_lc, e_btup, bt_some, es_nil, es_cons, as_nil, as_cons, o_none, o_some, int_some, j_seq, j_rng, j_zip, zip_tup, j_enum, en_some, s_set', s_setOwn', so_list, s_setN', s_unp', un_some, s_app', ap_some, s_expr', s_ret', s_if', s_for', s_raise', ss_nil, ss_cons, bR_ok, bR_no, shI, shB, shN, eqI, bd_addI, bd_addT, bd_addL, bd_sub, bd_mul, bd_mulL, bd_fdiv, bd_mod, bd_pow, bd_eq, bd_ne, bd_lt, bd_le, bd_gt, bd_ge, bd_gcd, bd_idx, sq_list, sq_tup, if_and, if_or, seq_ite, cr_ite, unD, at_, ixN, intOf, Tg.put, seq_fr]) (by omega)
    rw [q]
    simp [Function.comp_def, backS, wipeS]
  have f1 : ∀ l : List Rat, PyData.tuple (l.map frD) = frsD l := fun _ => rfl
  simp only [fr] at q1 q2 q3
  have q1' := q1
  refine ⟨some (.dat (.list [.bool B, .bool B, .bool B])), some (.dat (.bool B)), some (.dat (frsD (addQ y x))), ?_⟩
  simp only [List.map_map] at q1 q2 q3
  have f2 : PyData.tuple (List.map (frD ∘ fun q => q * f) y) = frsD (y.map fun q => q * f) := by simp [frsD]
  have f3 : PyData.tuple (List.map (frD ∘ fun q => -q) y) = frsD (y.map fun q => -q) := by simp [frsD]
  simp [mvD, b__law_moves_right, b_ok, b_er, b_no, fl_ok, fl_er, fl_no, sq_nx, sq_rt, sq_er, sq_bk, sq_ct, sq_no, c_nx, c_rt, c_er, to_ok, to_er, to_no, of_some, of_none, rd_eq, rd_dat, rd_own, ow_eq, ow_own, pu_eq, mm_var, mm_dat, mm_own, mm_mm, mm_scr, ag_eq, ag_some, ag_none, mm_k, mm_gl, mm_tup, mm_lst, mm_un, mm_bin, mm_and, mm_or, mm_ite, mm_slice, mm_call, mm_lc, mm_btup, mm_hall, e_var, e_k, e_gl, e_tup, e_lst, e_un, e_bin, e_and, e_or, e_ite, e_slice, e_call, e_callk, e_lc, e_btup, bt_some, es_nil, es_cons, as_nil, as_cons, o_none, o_some, int_some, j_seq, j_rng, j_zip, zip_tup, j_enum, en_some, s_set', s_setOwn', so_list, s_setN', s_unp', un_some, s_app', ap_some, s_expr', s_ret', s_if', s_for', s_raise', ss_nil, ss_cons, bR_ok, bR_no, shI, shB, shN, eqI, bd_addI, bd_addT, bd_addL, bd_sub, bd_mul, bd_mulL, bd_fdiv, bd_mod, bd_pow, bd_eq, bd_ne, bd_lt, bd_le, bd_gt, bd_ge, bd_gcd, bd_idx, sq_list, sq_tup, if_and, if_or, seq_ite, cr_ite, unD, at_, ixN, intOf, Tg.put, z1, zip_frs2, seq_frs, q1, q2, q3, f1, f2, f3, z2, z3, z4, z5]
end
end Pv

namespace Pv
open PySem L2
theorem sh_half : SeqAt.shaped (.str ("1/2" : Str)) = true := by kernel_rfl
theorem odds_lk : ∀ d ∈ odds, Lk 1 d := by
  intro d hd
  simp only [odds, List.mem_cons, List.not_mem_nil, or_false] at hd
  rcases hd with rfl | rfl | rfl | rfl | rfl | rfl | rfl | rfl | rfl | rfl | rfl | rfl | rfl
  · exact .none
  · exact .tuple (lk_cons (.int _) (lk_cons (.int _) lk_nil)) (by simp)
  · exact .tuple (lk_cons (.int _) (lk_cons (.int _) lk_nil)) (by simp)
  · exact .tuple (lk_cons (.int _) (lk_cons (.int _) lk_nil)) (by simp)
  · exact .tuple (lk_cons (.int _) (lk_cons (.int _) lk_nil)) (by simp)
  · exact .tuple (lk_cons (.int _) (lk_cons (.int _) (lk_cons (.int _) lk_nil))) (by simp)
  · exact .list (lk_cons (.int _) (lk_cons (.int _) lk_nil)) (by simp)
  · exact .tuple (lk_cons (.bool _) (lk_cons (.int _) lk_nil)) (by simp)
  · exact .tuple (lk_cons (.int _) (lk_cons (.bool _) lk_nil)) (by simp)
  · exact .str sh_half
  · exact .int _
  · exact .tuple (lk_cons (.int _) lk_nil) (by simp)
  · exact .tuple (lk_cons (.int _) (lk_cons (.int _) lk_nil)) (by simp)
abbrev dMoves : Df := ⟨20, b__law_moves_right, l__law_moves_right⟩
section
variable (m c : Nat) (rs : List Row)
theorem mvE_ok {k : Nat} {g : G} (L : D) (s2 s3 s4 s5 s6 s7 s8 s9 s10 : Option Sl) (hl' : Nat → Sg → R D) (h : Gd (k + 2) g) : ∃ (od : D) (q : Rat) (g' : G), Gd k g' ∧ od ∈ odds ∧ q.num ≤ 0 ∧
    evalSs (callF (hdOf qsH) tab (m + 9)) hl' mvE ⟨fr L s2 s3 s4 s5 s6 s7 s8 s9 s10 none none, g⟩ = .nx ⟨fr L s2 s3 s4 s5 s6 s7 s8 s9 s10 (some (.dat od)) (some (.dat (frD q))), g'⟩ := by
  obtain ⟨od, g1, a1, a2, a3⟩ := L_odd (m + 6) (k := k + 1) h
  obtain ⟨d, g2, b1, b2, b3⟩ := L_of (k := k) lowsD (by simp [lowsD]) (by simp [lowsD]) a1
  obtain ⟨q, rfl, hq⟩ := lows_fr d b2
  have z1 := cl_eq a3
  have z2 := cl_eq (b3 (m + 7))
  simp only [lowsD] at z2
  refine ⟨od, q, g2, b1, a2, hq, ?_⟩
  simp [mvE, b__law_moves_right, b_ok, b_er, b_no, fl_ok, fl_er, fl_no, sq_nx, sq_rt, sq_er, sq_bk, sq_ct, sq_no, c_nx, c_rt, c_er, to_ok, to_er, to_no, of_some, of_none, rd_eq, rd_dat, rd_own, ow_eq, ow_own, pu_eq, mm_var, mm_dat, mm_own, mm_mm, mm_scr, ag_eq, ag_some, ag_none, mm_k, mm_gl, mm_tup, mm_lst, mm_un, mm_bin, mm_and, mm_or, mm_ite, mm_slice, mm_call, mm_lc, mm_btup, mm_hall, e_var, e_k, e_gl, e_tup, e_lst, e_un, e_bin, e_and, e_or, e_ite, e_slice, e_call, e_callk, e_lc, e_btup, bt_some, es_nil, es_cons, as_nil, as_cons, o_none, o_some, int_some, j_seq, j_rng, j_zip, zip_tup, j_enum, en_some, s_set', s_setOwn', so_list, s_setN', s_unp', un_some, s_app', ap_some, s_expr', s_ret', s_if', s_for', s_raise', ss_nil, ss_cons, bR_ok, bR_no, shI, shB, shN, eqI, bd_addI, bd_addT, bd_addL, bd_sub, bd_mul, bd_mulL, bd_fdiv, bd_mod, bd_pow, bd_eq, bd_ne, bd_lt, bd_le, bd_gt, bd_ge, bd_gcd, bd_idx, sq_list, sq_tup, if_and, if_or, seq_ite, cr_ite, unD, at_, ixN, intOf, Tg.put, z1, z2]
theorem mvF_ok (x : List Rat) (od : D) (q : Rat) (s3 s4 s5 s6 s7 s8 s9 s10 : Option Sl) (g : G) (hl : LotOk c rs) (hod : od ∈ odds) (hq : q.num ≤ 0) :
    evalSs (callF (hdOf qsH) tab (m + 9)) (HLm (m + 9) dMoves) mvF ⟨fr (lotD c rs) (some (.dat (frsD x))) s3 s4 s5 s6 s7 s8 s9 s10 (some (.dat od)) (some (.dat (frD q))), g⟩ = .rt (.bool true) g := by
  have z0 := cl_eq (L_lot_times_odd m c rs od g hl (odds_no od hod))
  have z1 := cl_eq (L_lot_times_low m c rs q g hl hq)
  have z2 := cl_eq (L_shifted_bad m c rs (.list (x.map frD)) g hl rfl)
  have z3 := cl_eq (L_turned_none (m + 3) g)
  generalize hρ : ([some .mm, some (.dat (lotD c rs)), some (.dat (frsD x)), s3, s4, s5, s6, s7, s8, s9, s10, some (.dat od), some (.dat (frD q)), some (.thk [0, 1, 2, 3]), none, none, none, none, none, none] : List (Option Sl)) = ρ3
  have hlen3 : ρ3[13]? = some (some (.thk [0, 1, 2, 3])) := by rw [← hρ]; rfl
  have k0 : HLm (m + 9) dMoves 0 ⟨ρ3, g⟩ = .ok (.list [.str ("fraction" : Str), od]) ⟨ρ3, g⟩ := by
    rw [hlm_at m 0 dMoves _ _ rfl, ← hρ, ← told3]
    simp [b_ok, b_er, b_no, fl_ok, fl_er, fl_no, sq_nx, sq_rt, sq_er, sq_bk, sq_ct, sq_no, c_nx, c_rt, c_er, to_ok, to_er, to_no, of_some, of_none, rd_eq, rd_dat, rd_own, ow_eq, ow_own, pu_eq, mm_var, mm_dat, mm_own, mm_mm, mm_scr, ag_eq, ag_some, ag_none, mm_k, mm_gl, mm_tup, mm_lst, mm_un, mm_bin, mm_and, mm_or, mm_ite, mm_slice, mm_call, mm_lc, mm_btup, mm_hall, e_var, e_k, e_gl, e_tup, e_lst, e_un, e_bin, e_and, e_or, e_ite, e_slice, e_call, e_callk, e_lc, e_btup, bt_some, es_nil, es_cons, as_nil, as_cons, o_none, o_some, int_some, j_seq, j_rng, j_zip, zip_tup, j_enum, en_some, s_set', s_setOwn', so_list, s_setN', s_unp', un_some, s_app', ap_some, s_expr', s_ret', s_if', s_for', s_raise', ss_nil, ss_cons, bR_ok, bR_no, shI, shB, shN, eqI, bd_addI, bd_addT, bd_addL, bd_sub, bd_mul, bd_mulL, bd_fdiv, bd_mod, bd_pow, bd_eq, bd_ne, bd_lt, bd_le, bd_gt, bd_ge, bd_gcd, bd_idx, sq_list, sq_tup, if_and, if_or, seq_ite, cr_ite, unD, at_, ixN, intOf, Tg.put, z0]
  have k1 : HLm (m + 9) dMoves 1 ⟨ρ3, g⟩ = .ok (.list [.str ("fraction" : Str), frD q]) ⟨ρ3, g⟩ := by
    rw [hlm_at m 1 dMoves _ _ rfl, ← hρ, ← told3]
    simp [b_ok, b_er, b_no, fl_ok, fl_er, fl_no, sq_nx, sq_rt, sq_er, sq_bk, sq_ct, sq_no, c_nx, c_rt, c_er, to_ok, to_er, to_no, of_some, of_none, rd_eq, rd_dat, rd_own, ow_eq, ow_own, pu_eq, mm_var, mm_dat, mm_own, mm_mm, mm_scr, ag_eq, ag_some, ag_none, mm_k, mm_gl, mm_tup, mm_lst, mm_un, mm_bin, mm_and, mm_or, mm_ite, mm_slice, mm_call, mm_lc, mm_btup, mm_hall, e_var, e_k, e_gl, e_tup, e_lst, e_un, e_bin, e_and, e_or, e_ite, e_slice, e_call, e_callk, e_lc, e_btup, bt_some, es_nil, es_cons, as_nil, as_cons, o_none, o_some, int_some, j_seq, j_rng, j_zip, zip_tup, j_enum, en_some, s_set', s_setOwn', so_list, s_setN', s_unp', un_some, s_app', ap_some, s_expr', s_ret', s_if', s_for', s_raise', ss_nil, ss_cons, bR_ok, bR_no, shI, shB, shN, eqI, bd_addI, bd_addT, bd_addL, bd_sub, bd_mul, bd_mulL, bd_fdiv, bd_mod, bd_pow, bd_eq, bd_ne, bd_lt, bd_le, bd_gt, bd_ge, bd_gcd, bd_idx, sq_list, sq_tup, if_and, if_or, seq_ite, cr_ite, unD, at_, ixN, intOf, Tg.put, z1]
  have k2 : HLm (m + 9) dMoves 2 ⟨ρ3, g⟩ = .ok (.list [.str ("point" : Str), .str ("form" : Str)]) ⟨ρ3, g⟩ := by
    rw [hlm_at m 2 dMoves _ _ rfl, ← hρ, ← told2]
    simp [frsD, b_ok, b_er, b_no, fl_ok, fl_er, fl_no, sq_nx, sq_rt, sq_er, sq_bk, sq_ct, sq_no, c_nx, c_rt, c_er, to_ok, to_er, to_no, of_some, of_none, rd_eq, rd_dat, rd_own, ow_eq, ow_own, pu_eq, mm_var, mm_dat, mm_own, mm_mm, mm_scr, ag_eq, ag_some, ag_none, mm_k, mm_gl, mm_tup, mm_lst, mm_un, mm_bin, mm_and, mm_or, mm_ite, mm_slice, mm_call, mm_lc, mm_btup, mm_hall, e_var, e_k, e_gl, e_tup, e_lst, e_un, e_bin, e_and, e_or, e_ite, e_slice, e_call, e_callk, e_lc, e_btup, bt_some, es_nil, es_cons, as_nil, as_cons, o_none, o_some, int_some, j_seq, j_rng, j_zip, zip_tup, j_enum, en_some, s_set', s_setOwn', so_list, s_setN', s_unp', un_some, s_app', ap_some, s_expr', s_ret', s_if', s_for', s_raise', ss_nil, ss_cons, bR_ok, bR_no, shI, shB, shN, eqI, bd_addI, bd_addT, bd_addL, bd_sub, bd_mul, bd_mulL, bd_fdiv, bd_mod, bd_pow, bd_eq, bd_ne, bd_lt, bd_le, bd_gt, bd_ge, bd_gcd, bd_idx, sq_list, sq_tup, if_and, if_or, seq_ite, cr_ite, unD, at_, ixN, intOf, Tg.put, z2]
  have k3 : HLm (m + 9) dMoves 3 ⟨ρ3, g⟩ = .ok (.list [.str ("lot" : Str), .str ("form" : Str)]) ⟨ρ3, g⟩ := by
    rw [hlm_at m 3 dMoves _ _ rfl, ← hρ, ← told1]
    simp [b_ok, b_er, b_no, fl_ok, fl_er, fl_no, sq_nx, sq_rt, sq_er, sq_bk, sq_ct, sq_no, c_nx, c_rt, c_er, to_ok, to_er, to_no, of_some, of_none, rd_eq, rd_dat, rd_own, ow_eq, ow_own, pu_eq, mm_var, mm_dat, mm_own, mm_mm, mm_scr, ag_eq, ag_some, ag_none, mm_k, mm_gl, mm_tup, mm_lst, mm_un, mm_bin, mm_and, mm_or, mm_ite, mm_slice, mm_call, mm_lc, mm_btup, mm_hall, e_var, e_k, e_gl, e_tup, e_lst, e_un, e_bin, e_and, e_or, e_ite, e_slice, e_call, e_callk, e_lc, e_btup, bt_some, es_nil, es_cons, as_nil, as_cons, o_none, o_some, int_some, j_seq, j_rng, j_zip, zip_tup, j_enum, en_some, s_set', s_setOwn', so_list, s_setN', s_unp', un_some, s_app', ap_some, s_expr', s_ret', s_if', s_for', s_raise', ss_nil, ss_cons, bR_ok, bR_no, shI, shB, shN, eqI, bd_addI, bd_addT, bd_addL, bd_sub, bd_mul, bd_mulL, bd_fdiv, bd_mod, bd_pow, bd_eq, bd_ne, bd_lt, bd_le, bd_gt, bd_ge, bd_gcd, bd_idx, sq_list, sq_tup, if_and, if_or, seq_ite, cr_ite, unD, at_, ixN, intOf, Tg.put, z3]
  have hfour := hl_four (s := ⟨ρ3, g⟩) hlen3 k0 k1 k2 k3
  have hlk : Lk 3 (.list [.list [.str ("fraction" : Str), od], .list [.str ("fraction" : Str), frD q], .list [.str ("point" : Str), .str ("form" : Str)], .list [.str ("lot" : Str), .str ("form" : Str)]]) := by
    refine .list (lk_cons (.list (lk_cons (.str sh_frac) (lk_cons ((odds_lk od hod).up (by decide)) lk_nil)) (by simp)) (lk_cons (.list (lk_cons (.str sh_frac) (lk_cons ((lk_fr q).up (by decide)) lk_nil)) (by simp)) (lk_cons (.list (lk_cons (.str sh_point) (lk_cons (.str sh_form) lk_nil)) (by simp)) (lk_cons (.list (lk_cons (.str sh_lot) (lk_cons (.str sh_form) lk_nil)) (by simp)) lk_nil)))) (by simp)
  have z4 := cl_eq (L_like 3 _ (m + 5) g hlk)
  subst hρ
  generalize HLm (m + 9) dMoves = hl' at *
  simp [mvF, b__law_moves_right, b_ok, b_er, b_no, fl_ok, fl_er, fl_no, sq_nx, sq_rt, sq_er, sq_bk, sq_ct, sq_no, c_nx, c_rt, c_er, to_ok, to_er, to_no, of_some, of_none, rd_eq, rd_dat, rd_own, ow_eq, ow_own, pu_eq, mm_var, mm_dat, mm_own, mm_mm, mm_scr, ag_eq, ag_some, ag_none, mm_k, mm_gl, mm_tup, mm_lst, mm_un, mm_bin, mm_and, mm_or, mm_ite, mm_slice, mm_call, mm_lc, mm_btup, mm_hall, e_var, e_k, e_gl, e_tup, e_lst, e_un, e_bin, e_and, e_or, e_ite, e_slice, e_call, e_callk, e_lc, e_btup, bt_some, es_nil, es_cons, as_nil, as_cons, o_none, o_some, int_some, j_seq, j_rng, j_zip, zip_tup, j_enum, en_some, s_set', s_setOwn', so_list, s_setN', s_unp', un_some, s_app', ap_some, s_expr', s_ret', s_if', s_for', s_raise', ss_nil, ss_cons, bR_ok, bR_no, shI, shB, shN, eqI, bd_addI, bd_addT, bd_addL, bd_sub, bd_mul, bd_mulL, bd_fdiv, bd_mod, bd_pow, bd_eq, bd_ne, bd_lt, bd_le, bd_gt, bd_ge, bd_gcd, bd_idx, sq_list, sq_tup, if_and, if_or, seq_ite, cr_ite, unD, at_, ixN, intOf, Tg.put, s_lamI, s_lamA, la_thk, e_hall, ha_thk, hfour, z4]
theorem L_moves_right {k : Nat} {g : G} (hl : LotOk c rs) (hr : RsB 4 rs) (h : Gd (k + 50) g) : ∃ g', Gd k g' ∧ cl (m + 10) 59 [.mm, .dat (lotD c rs)] g = .ok (.bool true) g' := by
  obtain ⟨x, y, f, g1, a1, a2, a3, a4, a5, a6, a7, a8⟩ := mvA_ok m c rs (HLm (m + 9) dMoves) (k := k + 10) hl (by simpa [Nat.add_assoc] using h)
  have hB := mvB_ok m c rs (HLm (m + 9) dMoves) x y f g1 hl hr a3 a6
  have hC := mvC_ok m c rs (HLm (m + 9) dMoves) x y f g1 hl hr a2 a3 a6 a7
  obtain ⟨s8, s9, s10, hD⟩ := mvD_ok m c rs (HLm (m + 9) dMoves) x y f (.list [lotD c (rs.map (shRow x)), lotD c (rs.map (tmRow f)), lotD c (rs.map tnRow)]) g1 hl hr a2 a3 a4 a5 a6 a7
  obtain ⟨od, q, g2, e1, e2, e3, e4⟩ := mvE_ok m (k := k + 8) (lotD c rs) (some (.dat (frsD x))) (some (.dat (frsD y))) (some (.dat (frD f))) (some (.dat (lotD c (rs.map (shRow x))))) (some (.dat (lotD c (rs.map (tmRow f))))) (some (.dat (lotD c (rs.map tnRow)))) s8 s9 s10 (HLm (m + 9) dMoves) (by simpa [Nat.add_assoc] using a1)
  have hF := mvF_ok m c rs x od q (some (.dat (frsD y))) (some (.dat (frD f))) (some (.dat (lotD c (rs.map (shRow x))))) (some (.dat (lotD c (rs.map (tmRow f))))) (some (.dat (lotD c (rs.map tnRow)))) s8 s9 s10 g2 hl e2 e3
  refine ⟨g2, e1.less (by omega), ?_⟩
  rw [run (d := dMoves) rfl]
  show (evalSs _ _ b__law_moves_right ⟨fr (lotD c rs) none none none none none none none none none none none, g⟩).cr = _
  rw [mv_eq, ss_app, a8, sq_nx, ss_app, hB, sq_nx, ss_app, hC, sq_nx, ss_app, hD, sq_nx, ss_app, e4, sq_nx, hF]
  rfl
end
/-! ### the law -/
def lawBody : List Sx := [(.set 3 (.call 52 0 [(.var 1), (.call 37 0 [(.var 1), (.k (.int 5))]), (.k (.int 5))])), (.if_ (.or_ (.un .not (.call 58 0 [(.var 1), (.var 3)])) (.un .not (.call 59 0 [(.var 1), (.var 3)]))) [(.ret (.k (.bool false)))] [])]
theorem law_turn {k : Nat} {g : G} (hl : Nat → Sg → R D) (ns : List Int) (d : D) (a b : Option Sl) (h : Gd (k + 400) g) : ∃ (s3 : Option Sl) (g' : G), Gd k g' ∧ evalSs (callF (hdOf qsH) tab 20) hl lawBody ⟨[some (.scr ns), some .mm, some (.dat d), b], g⟩ = .nx ⟨[some (.scr ns), some .mm, some (.dat d), s3], g'⟩ := by
  obtain ⟨r, g1, a1, a2, a3, a4⟩ := L_draw (limit := 5) (k := k + 399) h (by decide) (by decide)
  obtain ⟨c, rfl⟩ : ∃ c : Nat, r = c := ⟨r.toNat, by omega⟩
  obtain ⟨rs, g2, b1, b2, b3, b4⟩ := L_lot 15 c (k := k + 363) (by omega) (by simpa [Nat.add_assoc] using a1)
  obtain ⟨g3, c1, c2⟩ := L_maps_right 10 c rs (k := k + 163) b2 b3 (by simpa [Nat.add_assoc] using b1)
  obtain ⟨g4, d1, d2⟩ := L_moves_right 10 c rs (k := k + 113) b2 b3 (by simpa [Nat.add_assoc] using c1)
  have z1 := cl_eq (a4 19)
  have z2 := cl_eq b4
  have z3 := cl_eq c2
  have z4 := cl_eq d2
  refine ⟨some (.dat (lotD c rs)), g4, d1.less (by omega), ?_⟩
  simp only [Nat.reduceAdd] at z1 z2 z3 z4
  simp [lawBody, b_ok, b_er, b_no, fl_ok, fl_er, fl_no, sq_nx, sq_rt, sq_er, sq_bk, sq_ct, sq_no, c_nx, c_rt, c_er, to_ok, to_er, to_no, of_some, of_none, rd_eq, rd_dat, rd_own, ow_eq, ow_own, pu_eq, mm_var, mm_dat, mm_own, mm_mm, mm_scr, ag_eq, ag_some, ag_none, mm_k, mm_gl, mm_tup, mm_lst, mm_un, mm_bin, mm_and, mm_or, mm_ite, mm_slice, mm_call, mm_lc, mm_btup, mm_hall, e_var, e_k, e_gl, e_tup, e_lst, e_un, e_bin, e_and, e_or, e_ite, e_slice, e_call, e_callk, e_lc, e_btup, bt_some, es_nil, es_cons, as_nil, as_cons, o_none, o_some, int_some, j_seq, j_rng, j_zip, zip_tup, j_enum, en_some, s_set', s_setOwn', so_list, s_setN', s_unp', un_some, s_app', ap_some, s_expr', s_ret', s_if', s_for', s_raise', ss_nil, ss_cons, bR_ok, bR_no, shI, shB, shN, eqI, bd_addI, bd_addT, bd_addL, bd_sub, bd_mul, bd_mulL, bd_fdiv, bd_mod, bd_pow, bd_eq, bd_ne, bd_lt, bd_le, bd_gt, bd_ge, bd_gcd, bd_idx, sq_list, sq_tup, if_and, if_or, seq_ite, cr_ite, unD, at_, ixN, intOf, Tg.put, z1, z2, z3, z4]
theorem law_loop (hl : Nat → Sg → R D) (ns : List Int) : ∀ (ds : List D) (k : Nat) (g : G) (a b : Option Sl), Gd (k + 400 * ds.length) g → ∃ (a' b' : Option Sl) (g' : G), Gd k g' ∧ forLoop (Tg.one 2).put (evalSs (callF (hdOf qsH) tab 20) hl lawBody) ds ⟨[some (.scr ns), some .mm, a, b], g⟩ = .nx ⟨[some (.scr ns), some .mm, a', b'], g'⟩
  | [], k, g, a, b, h => ⟨a, b, g, by simpa using h, rfl⟩
  | d :: ds, k, g, a, b, h => by
    obtain ⟨s3, g1, h1, h2⟩ := law_turn (k := k + 400 * ds.length) hl ns d a b (by rw [List.length_cons, Nat.mul_add] at h; rw [Nat.add_assoc]; simpa using h)
    obtain ⟨a', b', g2, i1, i2⟩ := law_loop hl ns ds k g1 (some (.dat d)) s3 h1
    exact ⟨a', b', g2, i1, by rw [for_nx (s1 := ⟨[some (.scr ns), some .mm, some (.dat d), b], g⟩) rfl h2, i2]⟩
theorem law_main (ns : List Int) (g : G) (h : Gd 1600 g) (hl : Nat → Sg → R D) : ∃ g', (evalSs (callF (hdOf qsH) tab 20) hl b_law ⟨[some (.scr ns), some .mm, none, none], g⟩).cr = .ok (.bool true) g' := by
  obtain ⟨a, b, g1, h1, h2⟩ := law_loop hl ns ((List.range 4).map fun (k : Nat) => PyData.int k) 0 g none none (by simpa using h)
  refine ⟨g1, ?_⟩
  have hrng : (-1000000 : Int) ≤ 4 ∧ (4 : Int) ≤ 1000000 := by decide
  have e : (4 : Int).toNat = 4 := rfl
  simp only [lawBody] at h2
  have h3 : evalI (callF (hdOf qsH) tab 20) hl (.rng (.k (.int 4))) ⟨[some (.scr ns), some .mm, none, none], g⟩ = .ok ((List.range 4).map fun (k : Nat) => PyData.int k) ⟨[some (.scr ns), some .mm, none, none], g⟩ := by
    rw [j_rng, e_k, b_ok, rng_int hrng, e]
  rw [show b_law = [.for_ (.one 2) (.rng (.k (.int 4))) lawBody, .ret (.k (.bool true))] from rfl, ss_cons, s_for', h3, fl_ok]
  simp only [lawBody]
  rw [h2]
  simp [b_ok, b_er, b_no, fl_ok, fl_er, fl_no, sq_nx, sq_rt, sq_er, sq_bk, sq_ct, sq_no, c_nx, c_rt, c_er, to_ok, to_er, to_no, of_some, of_none, rd_eq, rd_dat, rd_own, ow_eq, ow_own, pu_eq, mm_var, mm_dat, mm_own, mm_mm, mm_scr, ag_eq, ag_some, ag_none, mm_k, mm_gl, mm_tup, mm_lst, mm_un, mm_bin, mm_and, mm_or, mm_ite, mm_slice, mm_call, mm_lc, mm_btup, mm_hall, e_var, e_k, e_gl, e_tup, e_lst, e_un, e_bin, e_and, e_or, e_ite, e_slice, e_call, e_callk, e_lc, e_btup, bt_some, es_nil, es_cons, as_nil, as_cons, o_none, o_some, int_some, j_seq, j_rng, j_zip, zip_tup, j_enum, en_some, s_set', s_setOwn', so_list, s_setN', s_unp', un_some, s_app', ap_some, s_expr', s_ret', s_if', s_for', s_raise', ss_nil, ss_cons, bR_ok, bR_no, shI, shB, shN, eqI, bd_addI, bd_addT, bd_addL, bd_sub, bd_mul, bd_mulL, bd_fdiv, bd_mod, bd_pow, bd_eq, bd_ne, bd_lt, bd_le, bd_gt, bd_ge, bd_gcd, bd_idx, sq_list, sq_tup, if_and, if_or, seq_ite, cr_ite, unD, at_, ixN, intOf, Tg.put]
end Pv

namespace Pv
open PySem L2
/-! ### the mixing, seen by the evaluator -/
theorem log_le {i : Int} {a : Nat} (h : i.natAbs < 2 ^ a) (h0 : 0 < a) : i.natAbs.log2 < a := log2_lt' h h0
theorem mix_eval (xs : List Sl) (g : G) (h : mixC xs g ≠ .no) : (if xs.length = 2 then (evalSs noCf noHl b__law_mixed ⟨xs.map some ++ List.replicate (3 - xs.length) none, g⟩).cr else .no) = mixC xs g := by
  obtain ⟨c, n, rfl, hc, hn⟩ : ∃ c n : Int, xs = [.dat (.int c), .dat (.int n)] ∧ c.natAbs < 2 ^ 128 ∧ n.natAbs < 2 ^ 128 := by
    unfold mixC at h
    split at h
    · rename_i c n
      split at h
      · rename_i hh
        exact ⟨c, n, rfl, hh.1, hh.2⟩
      · exact absurd rfl h
    · exact absurd rfl h
  have m1 : (2 : Int).natAbs.log2 + n.natAbs.log2 < 1000000 := mul_ok (a := 2) (b := 128) (by decide) hn (by decide)
  have b1 : (1 + 2 * n).natAbs < 2 ^ 130 := by omega
  have m2 := mul_ok hc b1 (by decide)
  have b2 : (c * (1 + 2 * n)).natAbs < 2 ^ 258 := mul_lt hc b1
  have m3 : (c * (1 + 2 * n)).natAbs.log2 + (48271 : Int).natAbs.log2 < 1000000 := mul_ok (b := 16) b2 (by decide) (by decide)
  have m4 : (7919 : Int).natAbs.log2 + n.natAbs.log2 < 1000000 := mul_ok (a := 13) (by decide) hn (by decide)
  have b4 : (7919 * n).natAbs < 2 ^ (13 + 128) := mul_lt (by decide) hn
  have m5 := mul_ok b4 hn (by decide)
  have b5 : (7919 * n * n).natAbs < 2 ^ (13 + 128 + 128) := mul_lt b4 hn
  have m6 : (104729 : Int).natAbs.log2 + n.natAbs.log2 < 1000000 := mul_ok (a := 17) (by decide) hn (by decide)
  have b6 : (104729 * n).natAbs < 2 ^ (17 + 128) := mul_lt (by decide) hn
  have b7 : ((c * (1 + 2 * n) * 48271) % 2147483647).natAbs < 2 ^ 40 := by
    have h1 := Int.emod_nonneg (c * (1 + 2 * n) * 48271) (show (2147483647 : Int) ≠ 0 by decide)
    have h2 := Int.emod_lt_of_pos (c * (1 + 2 * n) * 48271) (show (0 : Int) < 2147483647 by decide)
    omega
  have b8 : (mixB c n).natAbs < 2 ^ 300 := by
    have h1 : ((c * (1 + 2 * n) * 48271) % 2147483647).natAbs < 2 ^ 269 := Pv.up b7 (by decide)
    have h2 : (104729 * n).natAbs < 2 ^ 270 := Pv.up b6 (by decide)
    exact Pv.up (add_lt (add_lt h1 b5) h2) (by decide)
  have m7 : (mixB c n).natAbs.log2 + (69621 : Int).natAbs.log2 < 1000000 := mul_ok (b := 17) b8 (by decide) (by decide)
  unfold mixB at m7
  simp only [mixC, hc, hn, and_self, if_true, mixI, mixB]
  simp at m1 m2 m3 m4 m5 m6 m7
  simp [b__law_mixed, b_ok, b_er, b_no, fl_ok, fl_er, fl_no, sq_nx, sq_rt, sq_er, sq_bk, sq_ct, sq_no, c_nx, c_rt, c_er, to_ok, to_er, to_no, of_some, of_none, rd_eq, rd_dat, rd_own, ow_eq, ow_own, pu_eq, mm_var, mm_dat, mm_own, mm_mm, mm_scr, ag_eq, ag_some, ag_none, mm_k, mm_gl, mm_tup, mm_lst, mm_un, mm_bin, mm_and, mm_or, mm_ite, mm_slice, mm_call, mm_lc, mm_btup, mm_hall, e_var, e_k, e_gl, e_tup, e_lst, e_un, e_bin, e_and, e_or, e_ite, e_slice, e_call, e_callk, e_lc, e_btup, bt_some, es_nil, es_cons, as_nil, as_cons, o_none, o_some, int_some, j_seq, j_rng, j_zip, zip_tup, j_enum, en_some, s_set', s_setOwn', so_list, s_setN', s_unp', un_some, s_app', ap_some, s_expr', s_ret', s_if', s_for', s_raise', ss_nil, ss_cons, bR_ok, bR_no, shI, shB, shN, eqI, bd_addI, bd_addT, bd_addL, bd_sub, bd_mul, bd_mulL, bd_fdiv, bd_mod, bd_pow, bd_eq, bd_ne, bd_lt, bd_le, bd_gt, bd_ge, bd_gcd, bd_idx, sq_list, sq_tup, if_and, if_or, seq_ite, cr_ite, unD, at_, ixN, intOf, Tg.put, m1, m2, m3, m4, m5, m6, m7]
  try rfl
/-! ### m['great'] -/
def greatI (n : Int) : Int := if 10 ^ 18 ≤ n then n else 0
def scA : Option (Option Sl) → Sg → R (List D)
  | some (some (.scr ns)), s => .ok (ns.map .int) s
  | _, _ => .no
def esA : Option (Option Sl) → Sg → R (List D)
  | some (some (.scr ns)), s => .ok (pairs 0 (ns.map .int)) s
  | _, _ => .no
section
variable {cf : Nat → List Sl → G → CR} {hl : Nat → Sg → R D} {ρ : List (Option Sl)} {g : G} {i : Nat} {ns : List Int} {s : Sg} {a b : Ex}
theorem j_scr : evalI cf hl (.scr i) ⟨ρ, g⟩ = scA ρ[i]? ⟨ρ, g⟩ := by
  simp only [evalI]
  rcases ρ[i]? with _ | _ | (_ | _ | _ | _ | _) <;> rfl
theorem sc_scr : scA (some (some (.scr ns))) s = .ok (ns.map .int) s := rfl
theorem j_escr : evalI cf hl (.enumScr i) ⟨ρ, g⟩ = esA ρ[i]? ⟨ρ, g⟩ := by
  simp only [evalI]
  rcases ρ[i]? with _ | _ | (_ | _ | _ | _ | _) <;> rfl
theorem es_scr : esA (some (some (.scr ns))) s = .ok (pairs 0 (ns.map .int)) s := rfl
def rg2 : D → D → Sg → R (List D)
  | .int m, .int n, s2 => if -1000000 ≤ m ∧ m ≤ 1000000 ∧ -1000000 ≤ n ∧ n ≤ 1000000 then .ok ((List.range (n - m).toNat).map fun (k : Nat) => .int (m + k)) s2 else .no
  | _, _, _ => .no
theorem j_rng2 : evalI cf hl (.rng2 a b) ⟨ρ, g⟩ = (evalE cf hl a ⟨ρ, g⟩).bind fun d s1 => (evalE cf hl b s1).bind fun e s2 => rg2 d e s2 := by
  simp only [evalI]
  congr 1
  funext d s
  congr 1
  funext e s
  cases d <;> cases e <;> rfl
def bxB (i : Nat) : D → Option (List D) → Sg → R D
  | .int n, some ds, s1 => R.ofOpt (at_ ds n) s1
  | _, _, _ => .no
def bxA (i : Nat) (r : R D) : Option (List D) → R D
  | some _ => r.bind fun d s1 => bxB i d (s1.own i) s1
  | none => .no
theorem e_bidx : evalE cf hl (.bidx i a) ⟨ρ, g⟩ = bxA i (evalE cf hl a ⟨ρ, g⟩) (Sg.own ⟨ρ, g⟩ i) := by
  simp only [evalE]
  cases Sg.own ⟨ρ, g⟩ i with
  | none => rfl
  | some ds =>
    simp only [bxA]
    congr 1
    funext d s
    cases s.own i <;> cases d <;> rfl
theorem bx_some {ds : List D} {r : R D} : bxA i r (some ds) = r.bind fun d s1 => bxB i d (s1.own i) s1 := rfl
theorem bxb_int {n : Int} {ds : List D} : bxB i (.int n) (some ds) s = R.ofOpt (at_ ds n) s := rfl
def siC (i : Nat) (y : D) : D → Option (List D) → Sg → Fl
  | .int n, some ds, s2 => (match ixN ds.length n with
    | some j => .nx (s2.put i (.own (ds.set j y)))
    | none => .no)
  | _, _, _ => .no
def siB (i : Nat) (k : Sg → R D) (y : D) (s1 : Sg) : Option (List D) → Fl
  | some _ => (k s1).fl fun d s2 => siC i y d (s2.own i) s2
  | none => .no
theorem s_setIx : evalS cf hl (.setIdx i a b) ⟨ρ, g⟩ = (evalE cf hl b ⟨ρ, g⟩).fl fun y s1 => siB i (evalE cf hl a) y s1 (s1.own i) := by
  simp only [evalS]
  congr 1
  funext y s1
  cases s1.own i with
  | none => rfl
  | some ds =>
    simp only [siB]
    congr 1
    funext d s
    cases s.own i <;> cases d <;> rfl
theorem si_some {k : Sg → R D} {y : D} {ds : List D} {s1 : Sg} : siB i k y s1 (some ds) = (k s1).fl fun d s2 => siC i y d (s2.own i) s2 := rfl
theorem sic_int {n : Int} {y : D} {ds : List D} {j : Nat} (h : ixN ds.length n = some j) : siC i y (.int n) (some ds) s = .nx (s.put i (.own (ds.set j y))) := by
  simp only [siC, h]
end
theorem great_eval (ns : List Int) (h : ns.length ≤ 63) : ∃ S', evalE noCf noHl iGreat ⟨[some (.scr ns), none, none], g00⟩ = .ok (.list ((ns.map greatI).map .int)) S' := by
  have q := lcA_pure (cf := noCf) (hl := noHl) (own := [2]) (tg := .one 2) (elt := .ite (.bin .ge (.var 2) (.bin .pow (.k (.int 10)) (.k (.int 18)))) (.var 2) (.k (.int 0))) (ρ := [some (.scr ns), none, none]) (g := g00)
    PyData.int (fun n => PyData.int (greatI n)) ns (fun n _ => by
      refine ⟨[some (.scr ns), none, some (.dat (.int n))], rfl, ?_, rfl⟩
      by_cases hn : 10 ^ 18 ≤ n
      · have hn' : (1000000000000000000 : Int) ≤ n := by simpa using hn
        simp [b_ok, b_er, b_no, fl_ok, fl_er, fl_no, sq_nx, sq_rt, sq_er, sq_bk, sq_ct, sq_no, c_nx, c_rt, c_er, to_ok, to_er, to_no, of_some, of_none, rd_eq, rd_dat, rd_own, ow_eq, ow_own, pu_eq, mm_var, mm_dat, mm_own, mm_mm, mm_scr, ag_eq, ag_some, ag_none, mm_k, mm_gl, mm_tup, mm_lst, mm_un, mm_bin, mm_and, mm_or, mm_ite, mm_slice, mm_call, mm_lc, mm_btup, mm_hall, e_var, e_k, e_gl, e_tup, e_lst, e_un, e_bin, e_and, e_or, e_ite, e_slice, e_call, e_callk, e_lc, e_btup, bt_some, es_nil, es_cons, as_nil, as_cons, o_none, o_some, int_some, j_seq, j_rng, j_zip, zip_tup, j_enum, en_some, s_set', s_setOwn', so_list, s_setN', s_unp', un_some, s_app', ap_some, s_expr', s_ret', s_if', s_for', s_raise', ss_nil, ss_cons, bR_ok, bR_no, shI, shB, shN, eqI, bd_addI, bd_addT, bd_addL, bd_sub, bd_mul, bd_mulL, bd_fdiv, bd_mod, bd_pow, bd_eq, bd_ne, bd_lt, bd_le, bd_gt, bd_ge, bd_gcd, bd_idx, sq_list, sq_tup, if_and, if_or, seq_ite, cr_ite, unD, at_, ixN, intOf, Tg.put, greatI, hn']
      · have hn' : ¬ (1000000000000000000 : Int) ≤ n := by simpa using hn
        simp [b_ok, b_er, b_no, fl_ok, fl_er, fl_no, sq_nx, sq_rt, sq_er, sq_bk, sq_ct, sq_no, c_nx, c_rt, c_er, to_ok, to_er, to_no, of_some, of_none, rd_eq, rd_dat, rd_own, ow_eq, ow_own, pu_eq, mm_var, mm_dat, mm_own, mm_mm, mm_scr, ag_eq, ag_some, ag_none, mm_k, mm_gl, mm_tup, mm_lst, mm_un, mm_bin, mm_and, mm_or, mm_ite, mm_slice, mm_call, mm_lc, mm_btup, mm_hall, e_var, e_k, e_gl, e_tup, e_lst, e_un, e_bin, e_and, e_or, e_ite, e_slice, e_call, e_callk, e_lc, e_btup, bt_some, es_nil, es_cons, as_nil, as_cons, o_none, o_some, int_some, j_seq, j_rng, j_zip, zip_tup, j_enum, en_some, s_set', s_setOwn', so_list, s_setN', s_unp', un_some, s_app', ap_some, s_expr', s_ret', s_if', s_for', s_raise', ss_nil, ss_cons, bR_ok, bR_no, shI, shB, shN, eqI, bd_addI, bd_addT, bd_addL, bd_sub, bd_mul, bd_mulL, bd_fdiv, bd_mod, bd_pow, bd_eq, bd_ne, bd_lt, bd_le, bd_gt, bd_ge, bd_gcd, bd_idx, sq_list, sq_tup, if_and, if_or, seq_ite, cr_ite, unD, at_, ixN, intOf, Tg.put, greatI, hn']) (by omega)
  refine ⟨⟨backS [some (.scr ns), none, none] (wipeS [some (.scr ns), none, none] [2]) [2], g00⟩, ?_⟩
  rw [iGreat, e_lc, j_scr]
  simp only [List.getElem?_cons_zero, sc_scr, b_ok]
  rw [q, List.map_map]
  rfl
/-! ### the folding -/
def Cells (l : List Int) : Prop := l.length = 64 ∧ ∀ c ∈ l, 0 ≤ c ∧ c < 2 ^ 31
theorem Cells.set {l : List Int} {j : Nat} {v : Int} (h : Cells l) (h0 : 0 ≤ v) (h1 : v < 2 ^ 31) : Cells (l.set j v) := ⟨by rw [List.length_set]; exact h.1, fun c hc => by
  rcases List.mem_or_eq_of_mem_set hc with z | rfl
  · exact h.2 c z
  · exact ⟨h0, h1⟩⟩
theorem ixN_j {n j : Nat} (h : j < n) : ixN n (j : Int) = some j := by
  unfold ixN
  rw [if_pos (by omega), if_pos (by omega), Int.toNat_natCast]
theorem at_j {l : List Int} {j : Nat} (h : j < l.length) : at_ (l.map PyData.int) (j : Int) = some (.int l[j]) := by
  unfold at_
  rw [List.length_map, ixN_j h]
  show (l.map PyData.int)[j]? = _
  rw [List.getElem?_map, List.getElem?_eq_getElem h]
  rfl
def fB2 : List Sx := [(.setIdx 1 (.bin .mod (.un .int (.var 2)) (.k (.int 64))) (.bin .mod (.un .int (.bin .add (.bin .mul (.bidx 1 (.bin .mod (.un .int (.var 2)) (.k (.int 64)))) (.k (.int 48271))) (.var 3))) (.k (.int 2147483647))))]
def fB3 : List Sx := [(.setIdx 1 (.var 2) (.bin .mod (.un .int (.bin .add (.bidx 1 (.var 2)) (.bin .mul (.bidx 1 (.bin .sub (.var 2) (.k (.int 1)))) (.k (.int 16807))))) (.k (.int 2147483647))))]
theorem mod31 (v : Int) : 0 ≤ v % 2147483647 ∧ v % 2147483647 < 2 ^ 31 := ⟨Int.emod_nonneg _ (by decide), Int.lt_trans (Int.emod_lt_of_pos _ (by decide)) (by decide)⟩
section
variable {cf : Nat → List Sl → G → CR} {hl : Nat → Sg → R D} {g : G} {ns : List Int}
theorem f2_turn (l : List Int) (j : Nat) (c : Int) (h : Cells l) : ∃ l', Cells l' ∧ evalSs cf hl fB2 ⟨[some (.scr ns), some (.own (l.map .int)), some (.dat (.int j)), some (.dat (.int c))], g⟩ = .nx ⟨[some (.scr ns), some (.own (l'.map .int)), some (.dat (.int j)), some (.dat (.int c))], g⟩ := by
  have hj : j % 64 < l.length := by rw [h.1]; exact Nat.mod_lt _ (by decide)
  have hjc : ((j : Int) % 64) = ((j % 64 : Nat) : Int) := rfl
  have hb := h.2 _ (List.getElem_mem hj)
  have hm : (l[j % 64]).natAbs.log2 + (48271 : Int).natAbs.log2 < 1000000 := mul_ok (a := 31) (b := 16) (by omega) (by decide) (by decide)
  refine ⟨l.set (j % 64) ((l[j % 64] * 48271 + c) % 2147483647), h.set (mod31 _).1 (mod31 _).2, ?_⟩
  have e1 : evalE cf hl (.bin .mod (.un .int (.bin .add (.bin .mul (.bidx 1 (.bin .mod (.un .int (.var 2)) (.k (.int 64)))) (.k (.int 48271))) (.var 3))) (.k (.int 2147483647))) ⟨[some (.scr ns), some (.own (l.map .int)), some (.dat (.int j)), some (.dat (.int c))], g⟩ =
      .ok (.int ((l[j % 64] * 48271 + c) % 2147483647)) ⟨[some (.scr ns), some (.own (l.map .int)), some (.dat (.int j)), some (.dat (.int c))], g⟩ := by
    have ha := at_j hj
    simp only [e_bin, e_un, e_var, e_k, e_bidx, ow_eq, rd_eq, rd_dat, List.getElem?_cons_zero, List.getElem?_cons_succ, ow_own, bx_some, b_ok, unD, of_some, bd_mod, show (0 : Int) < 64 by decide, if_true, hjc, bxb_int, ha, bd_mul, hm]
    simp only [bd_addI, of_some, b_ok, unD, e_k, bd_mod, show (0 : Int) < 2147483647 by decide, if_true]
  have e2 : evalE cf hl (.bin .mod (.un .int (.var 2)) (.k (.int 64))) ⟨[some (.scr ns), some (.own (l.map .int)), some (.dat (.int j)), some (.dat (.int c))], g⟩ = .ok (.int ((j % 64 : Nat) : Int)) ⟨[some (.scr ns), some (.own (l.map .int)), some (.dat (.int j)), some (.dat (.int c))], g⟩ := by
    rw [← hjc]
    simp [b_ok, b_er, b_no, fl_ok, fl_er, fl_no, sq_nx, sq_rt, sq_er, sq_bk, sq_ct, sq_no, c_nx, c_rt, c_er, to_ok, to_er, to_no, of_some, of_none, rd_eq, rd_dat, rd_own, ow_eq, ow_own, pu_eq, mm_var, mm_dat, mm_own, mm_mm, mm_scr, ag_eq, ag_some, ag_none, mm_k, mm_gl, mm_tup, mm_lst, mm_un, mm_bin, mm_and, mm_or, mm_ite, mm_slice, mm_call, mm_lc, mm_btup, mm_hall, e_var, e_k, e_gl, e_tup, e_lst, e_un, e_bin, e_and, e_or, e_ite, e_slice, e_call, e_callk, e_lc, e_btup, bt_some, es_nil, es_cons, as_nil, as_cons, o_none, o_some, int_some, j_seq, j_rng, j_zip, zip_tup, j_enum, en_some, s_set', s_setOwn', so_list, s_setN', s_unp', un_some, s_app', ap_some, s_expr', s_ret', s_if', s_for', s_raise', ss_nil, ss_cons, bR_ok, bR_no, shI, shB, shN, eqI, bd_addI, bd_addT, bd_addL, bd_sub, bd_mul, bd_mulL, bd_fdiv, bd_mod, bd_pow, bd_eq, bd_ne, bd_lt, bd_le, bd_gt, bd_ge, bd_gcd, bd_idx, sq_list, sq_tup, if_and, if_or, seq_ite, cr_ite, unD, at_, ixN, intOf, Tg.put]
  have hix : ixN (l.map PyData.int).length ((j % 64 : Nat) : Int) = some (j % 64) := by rw [List.length_map]; exact ixN_j hj
  rw [fB2, ss_cons, s_setIx, e1, fl_ok, ow_eq]
  simp only [List.getElem?_cons_zero, List.getElem?_cons_succ, ow_own, si_some, e2, fl_ok, ow_eq, sic_int hix, pu_eq, sq_nx, ss_nil]
  simp [List.map_set]
theorem f3_turn (l : List Int) (j : Nat) (a : Option Sl) (h : Cells l) (h1 : 1 ≤ j) (h2 : j < 64) : ∃ l', Cells l' ∧ evalSs cf hl fB3 ⟨[some (.scr ns), some (.own (l.map .int)), some (.dat (.int j)), a], g⟩ = .nx ⟨[some (.scr ns), some (.own (l'.map .int)), some (.dat (.int j)), a], g⟩ := by
  have hj : j < l.length := by rw [h.1]; exact h2
  have hj1 : j - 1 < l.length := by omega
  have hjc : ((j : Int) - 1) = ((j - 1 : Nat) : Int) := by omega
  have hb := h.2 _ (List.getElem_mem hj1)
  have hm : (l[j - 1]).natAbs.log2 + (16807 : Int).natAbs.log2 < 1000000 := mul_ok (a := 31) (b := 15) (by omega) (by decide) (by decide)
  refine ⟨l.set j ((l[j] + l[j - 1] * 16807) % 2147483647), h.set (mod31 _).1 (mod31 _).2, ?_⟩
  have e1 : evalE cf hl (.bin .mod (.un .int (.bin .add (.bidx 1 (.var 2)) (.bin .mul (.bidx 1 (.bin .sub (.var 2) (.k (.int 1)))) (.k (.int 16807))))) (.k (.int 2147483647))) ⟨[some (.scr ns), some (.own (l.map .int)), some (.dat (.int j)), a], g⟩ =
      .ok (.int ((l[j] + l[j - 1] * 16807) % 2147483647)) ⟨[some (.scr ns), some (.own (l.map .int)), some (.dat (.int j)), a], g⟩ := by
    have ha := at_j hj
    have ha1 := at_j hj1
    simp only [e_bin, e_un, e_var, e_k, e_bidx, ow_eq, rd_eq, rd_dat, List.getElem?_cons_zero, List.getElem?_cons_succ, ow_own, bx_some, b_ok, unD, of_some, bd_sub, hjc, bxb_int, ha, ha1, bd_mul, hm, if_true]
    simp only [bd_addI, of_some, b_ok, unD, e_k, bd_mod, show (0 : Int) < 2147483647 by decide, if_true]
  have e2 : evalE cf hl (.var 2) ⟨[some (.scr ns), some (.own (l.map .int)), some (.dat (.int j)), a], g⟩ = .ok (.int (j : Int)) ⟨[some (.scr ns), some (.own (l.map .int)), some (.dat (.int j)), a], g⟩ := by
    simp [b_ok, b_er, b_no, fl_ok, fl_er, fl_no, sq_nx, sq_rt, sq_er, sq_bk, sq_ct, sq_no, c_nx, c_rt, c_er, to_ok, to_er, to_no, of_some, of_none, rd_eq, rd_dat, rd_own, ow_eq, ow_own, pu_eq, mm_var, mm_dat, mm_own, mm_mm, mm_scr, ag_eq, ag_some, ag_none, mm_k, mm_gl, mm_tup, mm_lst, mm_un, mm_bin, mm_and, mm_or, mm_ite, mm_slice, mm_call, mm_lc, mm_btup, mm_hall, e_var, e_k, e_gl, e_tup, e_lst, e_un, e_bin, e_and, e_or, e_ite, e_slice, e_call, e_callk, e_lc, e_btup, bt_some, es_nil, es_cons, as_nil, as_cons, o_none, o_some, int_some, j_seq, j_rng, j_zip, zip_tup, j_enum, en_some, s_set', s_setOwn', so_list, s_setN', s_unp', un_some, s_app', ap_some, s_expr', s_ret', s_if', s_for', s_raise', ss_nil, ss_cons, bR_ok, bR_no, shI, shB, shN, eqI, bd_addI, bd_addT, bd_addL, bd_sub, bd_mul, bd_mulL, bd_fdiv, bd_mod, bd_pow, bd_eq, bd_ne, bd_lt, bd_le, bd_gt, bd_ge, bd_gcd, bd_idx, sq_list, sq_tup, if_and, if_or, seq_ite, cr_ite, unD, at_, ixN, intOf, Tg.put]
  have hix : ixN (l.map PyData.int).length (j : Int) = some j := by rw [List.length_map]; exact ixN_j hj
  rw [fB3, ss_cons, s_setIx, e1, fl_ok, ow_eq]
  simp only [List.getElem?_cons_zero, List.getElem?_cons_succ, ow_own, si_some, e2, fl_ok, ow_eq, sic_int hix, pu_eq, sq_nx, ss_nil]
  simp [List.map_set]
theorem f2_loop : ∀ (cs : List Int) (n : Nat) (l : List Int) (a b : Option Sl), Cells l → ∃ (l' : List Int) (a' b' : Option Sl), Cells l' ∧ forLoop (Tg.many [2, 3]).put (evalSs cf hl fB2) (pairs n (cs.map .int)) ⟨[some (.scr ns), some (.own (l.map .int)), a, b], g⟩ = .nx ⟨[some (.scr ns), some (.own (l'.map .int)), a', b'], g⟩
  | [], n, l, a, b, h => ⟨l, a, b, h, rfl⟩
  | c :: cs, n, l, a, b, h => by
    obtain ⟨l1, h1, z1⟩ := f2_turn (cf := cf) (hl := hl) (g := g) (ns := ns) l n c h
    obtain ⟨l2, a', b', h2, z2⟩ := f2_loop cs (n + 1) l1 (some (.dat (.int n))) (some (.dat (.int c))) h1
    exact ⟨l2, a', b', h2, by rw [List.map_cons, pairs, for_nx (s1 := ⟨[some (.scr ns), some (.own (l.map .int)), some (.dat (.int n)), some (.dat (.int c))], g⟩) rfl z1, z2]⟩
theorem f3_loop : ∀ (js : List Nat) (l : List Int) (a b : Option Sl), (∀ j ∈ js, j < 63) → Cells l → ∃ (l' : List Int) (a' : Option Sl), Cells l' ∧ forLoop (Tg.one 2).put (evalSs cf hl fB3) (js.map fun (k : Nat) => PyData.int ((1 : Int) + k)) ⟨[some (.scr ns), some (.own (l.map .int)), a, b], g⟩ = .nx ⟨[some (.scr ns), some (.own (l'.map .int)), a', b], g⟩
  | [], l, a, b, _, h => ⟨l, a, h, rfl⟩
  | j :: js, l, a, b, hj, h => by
    have hj0 := hj j (by simp)
    have e : (1 : Int) + (j : Int) = ((j + 1 : Nat) : Int) := by omega
    obtain ⟨l1, h1, z1⟩ := f3_turn (cf := cf) (hl := hl) (g := g) (ns := ns) l (j + 1) b h (by omega) (by omega)
    obtain ⟨l2, a', h2, z2⟩ := f3_loop js l1 (some (.dat (.int (j + 1 : Nat)))) b (fun i hi => hj i (by simp [hi])) h1
    have hp : (Tg.one 2).put (PyData.int ((j + 1 : Nat) : Int)) ⟨[some (.scr ns), some (.own (l.map .int)), a, b], g⟩ = some ⟨[some (.scr ns), some (.own (l.map .int)), some (.dat (.int ((j + 1 : Nat) : Int))), b], g⟩ := rfl
    have hn := for_nx (ds := js.map fun (k : Nat) => PyData.int ((1 : Int) + k)) hp z1
    refine ⟨l2, a', h2, ?_⟩
    rw [List.map_cons, e, hn, z2]
end
end Pv

namespace Pv
open PySem L2
def l64 : List Int := (List.range 64).map fun (j : Nat) => (17 : Int) + j
theorem l64_cells : Cells l64 := ⟨by simp [l64], fun c hc => by
    obtain ⟨j, hj, rfl⟩ := List.mem_map.mp hc
    have := List.mem_range.mp hj
    omega⟩
theorem fold_lc (ns : List Int) : lcA noCf noHl [2] (.one 2) none (.bin .add (.k (.int 17)) (.var 2)) ((List.range 64).map fun (j : Nat) => PyData.int j) ⟨[some (.scr ns), none, none, none], g00⟩ = .ok (.list (l64.map .int)) ⟨[some (.scr ns), none, none, none], g00⟩ := by
  have q := lcA_pure (cf := noCf) (hl := noHl) (own := [2]) (tg := .one 2) (elt := .bin .add (.k (.int 17)) (.var 2)) (ρ := [some (.scr ns), none, none, none]) (g := g00)
    (fun (j : Nat) => PyData.int j) (fun j => PyData.int (17 + (j : Int))) (List.range 64) (fun n _ => by
      refine ⟨[some (.scr ns), none, some (.dat (.int n)), none], rfl, ?_, rfl⟩
      simp [b_ok, b_er, b_no, fl_ok, fl_er, fl_no, sq_nx, sq_rt, sq_er, sq_bk, sq_ct, sq_no, c_nx, c_rt, c_er, to_ok, to_er, to_no, of_some, of_none, rd_eq, rd_dat, rd_own, ow_eq, ow_own, pu_eq, mm_var, mm_dat, mm_own, mm_mm, mm_scr, ag_eq, ag_some, ag_none, mm_k, mm_gl, mm_tup, mm_lst, mm_un, mm_bin, mm_and, mm_or, mm_ite, mm_slice, mm_call, mm_lc, mm_btup, mm_hall, e_var, e_k, e_gl, e_tup, e_lst, e_un, e_bin, e_and, e_or, e_ite, e_slice, e_call, e_callk, e_lc, e_btup, bt_some, es_nil, es_cons, as_nil, as_cons, o_none, o_some, int_some, j_seq, j_rng, j_zip, zip_tup, j_enum, en_some, s_set', s_setOwn', so_list, s_setN', s_unp', un_some, s_app', ap_some, s_expr', s_ret', s_if', s_for', s_raise', ss_nil, ss_cons, bR_ok, bR_no, shI, shB, shN, eqI, bd_addI, bd_addT, bd_addL, bd_sub, bd_mul, bd_mulL, bd_fdiv, bd_mod, bd_pow, bd_eq, bd_ne, bd_lt, bd_le, bd_gt, bd_ge, bd_gcd, bd_idx, sq_list, sq_tup, if_and, if_or, seq_ite, cr_ite, unD, at_, ixN, intOf, Tg.put]) (by rw [List.length_range]; decide)
  rw [q, l64, List.map_map]
  simp [backS, wipeS, Function.comp_def]
theorem fold_e1 (ns : List Int) : evalS noCf noHl (.setOwn 1 (.lc [2] (.one 2) (.rng (.k (.int 64))) none (.bin .add (.k (.int 17)) (.var 2)))) ⟨[some (.scr ns), none, none, none], g00⟩ = .nx ⟨[some (.scr ns), some (.own (l64.map .int)), none, none], g00⟩ := by
  rw [s_setOwn', e_lc, j_rng, e_k, b_ok, rng_int (by decide), b_ok, show (64 : Int).toNat = 64 from rfl, fold_lc, fl_ok, so_list]
  rfl
theorem fold_e2 {ns l l1 : List Int} {a b : Option Sl} (h : forLoop (Tg.many [2, 3]).put (evalSs noCf noHl fB2) (pairs 0 (ns.map .int)) ⟨[some (.scr ns), some (.own (l.map .int)), none, none], g00⟩ = .nx ⟨[some (.scr ns), some (.own (l1.map .int)), a, b], g00⟩) :
    evalS noCf noHl (.for_ (.many [2, 3]) (.enumScr 0) fB2) ⟨[some (.scr ns), some (.own (l.map .int)), none, none], g00⟩ = .nx ⟨[some (.scr ns), some (.own (l1.map .int)), a, b], g00⟩ := by
  rw [s_for', j_escr]
  simp only [List.getElem?_cons_zero, es_scr, fl_ok]
  exact h
theorem rg2_64 (s : Sg) : rg2 (.int 1) (.int 64) s = .ok ((List.range 63).map fun (k : Nat) => PyData.int ((1 : Int) + k)) s := by
  simp only [rg2]
  rw [if_pos (by decide), show ((64 : Int) - 1).toNat = 63 from rfl]
theorem fold_e3 {ns l l1 : List Int} {a b a2 : Option Sl} (h : forLoop (Tg.one 2).put (evalSs noCf noHl fB3) ((List.range 63).map fun (k : Nat) => PyData.int ((1 : Int) + k)) ⟨[some (.scr ns), some (.own (l.map .int)), a, b], g00⟩ = .nx ⟨[some (.scr ns), some (.own (l1.map .int)), a2, b], g00⟩) :
    evalS noCf noHl (.for_ (.one 2) (.rng2 (.k (.int 1)) (.k (.int 64))) fB3) ⟨[some (.scr ns), some (.own (l.map .int)), a, b], g00⟩ = .nx ⟨[some (.scr ns), some (.own (l1.map .int)), a2, b], g00⟩ := by
  rw [s_for', j_rng2, e_k, b_ok, e_k, b_ok, rg2_64, fl_ok]
  exact h
theorem fold_three : b__law_folded.take 3 = [.setOwn 1 (.lc [2] (.one 2) (.rng (.k (.int 64))) none (.bin .add (.k (.int 17)) (.var 2))), .for_ (.many [2, 3]) (.enumScr 0) fB2, .for_ (.one 2) (.rng2 (.k (.int 1)) (.k (.int 64))) fB3] := rfl
theorem fold_eval (ns : List Int) (hns : ns.length ≤ 63) : ∃ l, Cells l ∧ preOwn noCf noHl (b__law_folded.take 3) 1 n__law_folded.length 1 [.scr ns] g00 = some (l.map .int, g00) := by
  obtain ⟨l1, a1, b1, c1, z1⟩ := f2_loop (cf := noCf) (hl := noHl) (g := g00) (ns := ns) ns 0 l64 none none l64_cells
  obtain ⟨l2, a2, c2, z2⟩ := f3_loop (cf := noCf) (hl := noHl) (g := g00) (ns := ns) (List.range 63) l1 a1 b1 (fun j hj => List.mem_range.mp hj) c1
  have eb : evalSs noCf noHl (b__law_folded.take 3) ⟨[some (.scr ns), none, none, none], g00⟩ = .nx ⟨[some (.scr ns), some (.own (l2.map .int)), a2, b1], g00⟩ := by
    rw [fold_three, ss_cons, fold_e1, sq_nx, ss_cons, fold_e2 z1, sq_nx, ss_cons, fold_e3 z2, sq_nx, ss_nil]
  refine ⟨l2, c2, ?_⟩
  unfold preOwn
  rw [if_pos (show [Sl.scr ns].length = 1 from rfl)]
  have e0 : (⟨[Sl.scr ns].map some ++ List.replicate (n__law_folded.length - [Sl.scr ns].length) none, g00⟩ : Sg) = ⟨[some (.scr ns), none, none, none], g00⟩ := rfl
  rw [e0, eb]
  rfl
theorem law_plain_all (ns : List Int) (hns : ns.length ≤ 63) : ∃ (cells great : List Int) (S' : Sg) (g' : G), preOwn noCf noHl (b__law_folded.take 3) 1 n__law_folded.length 1 [.scr ns] g00 = some (cells.map .int, g00) ∧ evalE noCf noHl iGreat ⟨[some (.scr ns), none, none], g00⟩ = .ok (.list (great.map .int)) S' ∧
      (evalSs (callF (hdOf qsH) tab 20) noHl b_law ⟨some (.scr ns) :: some .mm :: List.replicate (n_law.length - 2) none, ⟨cells, great, 0⟩⟩).cr = .ok (.bool true) g' := by
  obtain ⟨l, c, z⟩ := fold_eval ns hns
  obtain ⟨S', zg⟩ := great_eval ns hns
  have hg : Gd 1600 ⟨l, ns.map greatI, 0⟩ := ⟨c.1, fun x hx => by have := c.2 x hx; omega, by show 0 + 1600 ≤ 2 ^ 90; decide⟩
  obtain ⟨g', zl⟩ := law_main ns ⟨l, ns.map greatI, 0⟩ hg noHl
  exact ⟨l, ns.map greatI, S', g', z, zg, zl⟩
end Pv

namespace Pv
open PySem PySem.Spec PyProof.Rows L2 He
/-! ### the texts match -/
theorem m_is_whole : mSs pcs n_is_whole (defScope (st 8)) b_is_whole (defBody (st 8)) = true := by decide +kernel
theorem sc_is_whole : FnScope n_is_whole [("value" : Str), ("least" : Str), ("most" : Str)] (defScope (st 8)) := ⟨rfl, rfl, rfl, by decide +kernel, rfl, by decide +kernel, by decide +kernel⟩
theorem m_is_row : mSs pcs n_is_row (defScope (st 9)) b_is_row (defBody (st 9)) = true := by decide +kernel
theorem sc_is_row : FnScope n_is_row [("value" : Str), ("length" : Str)] (defScope (st 9)) := ⟨rfl, rfl, rfl, by decide +kernel, rfl, by decide +kernel, by decide +kernel⟩
theorem m_is_fraction : mSs pcs n_is_fraction (defScope (st 11)) b_is_fraction (defBody (st 11)) = true := by decide +kernel
theorem sc_is_fraction : FnScope n_is_fraction [("value" : Str)] (defScope (st 11)) := ⟨rfl, rfl, rfl, by decide +kernel, rfl, by decide +kernel, by decide +kernel⟩
theorem m_need_fraction : mSs pcs n_need_fraction (defScope (st 12)) b_need_fraction (defBody (st 12)) = true := by decide +kernel
theorem sc_need_fraction : FnScope n_need_fraction [("fraction" : Str)] (defScope (st 12)) := ⟨rfl, rfl, rfl, by decide +kernel, rfl, by decide +kernel, by decide +kernel⟩
theorem m_ratio : mSs pcs n_ratio (defScope (st 13)) b_ratio (defBody (st 13)) = true := by decide +kernel
theorem sc_ratio : FnScope n_ratio [("upper" : Str), ("under" : Str)] (defScope (st 13)) := ⟨rfl, rfl, rfl, by decide +kernel, rfl, by decide +kernel, by decide +kernel⟩
theorem m_ratio_plus : mSs pcs n_ratio_plus (defScope (st 14)) b_ratio_plus (defBody (st 14)) = true := by decide +kernel
theorem sc_ratio_plus : FnScope n_ratio_plus [("one" : Str), ("other" : Str)] (defScope (st 14)) := ⟨rfl, rfl, rfl, by decide +kernel, rfl, by decide +kernel, by decide +kernel⟩
theorem m_ratio_minus : mSs pcs n_ratio_minus (defScope (st 15)) b_ratio_minus (defBody (st 15)) = true := by decide +kernel
theorem sc_ratio_minus : FnScope n_ratio_minus [("one" : Str), ("other" : Str)] (defScope (st 15)) := ⟨rfl, rfl, rfl, by decide +kernel, rfl, by decide +kernel, by decide +kernel⟩
theorem m_ratio_times : mSs pcs n_ratio_times (defScope (st 16)) b_ratio_times (defBody (st 16)) = true := by decide +kernel
theorem sc_ratio_times : FnScope n_ratio_times [("one" : Str), ("other" : Str)] (defScope (st 16)) := ⟨rfl, rfl, rfl, by decide +kernel, rfl, by decide +kernel, by decide +kernel⟩
theorem m_ratio_less : mSs pcs n_ratio_less (defScope (st 17)) b_ratio_less (defBody (st 17)) = true := by decide +kernel
theorem sc_ratio_less : FnScope n_ratio_less [("one" : Str), ("other" : Str)] (defScope (st 17)) := ⟨rfl, rfl, rfl, by decide +kernel, rfl, by decide +kernel, by decide +kernel⟩
theorem m_ratio_total : mSs pcs n_ratio_total (defScope (st 18)) b_ratio_total (defBody (st 18)) = true := by decide +kernel
theorem sc_ratio_total : FnScope n_ratio_total [("fractions" : Str)] (defScope (st 18)) := ⟨rfl, rfl, rfl, by decide +kernel, rfl, by decide +kernel, by decide +kernel⟩
theorem m_are_fractions : mSs pcs n_are_fractions (defScope (st 22)) b_are_fractions (defBody (st 22)) = true := by decide +kernel
theorem sc_are_fractions : FnScope n_are_fractions [("value" : Str), ("many" : Str)] (defScope (st 22)) := ⟨rfl, rfl, rfl, by decide +kernel, rfl, by decide +kernel, by decide +kernel⟩
theorem m_row_fault : mSs pcs n_row_fault (defScope (st 23)) b_row_fault (defBody (st 23)) = true := by decide +kernel
theorem sc_row_fault : FnScope n_row_fault [("count" : Str), ("value" : Str)] (defScope (st 23)) := ⟨rfl, rfl, rfl, by decide +kernel, rfl, by decide +kernel, by decide +kernel⟩
theorem m_point_fault : mSs pcs n_point_fault (defScope (st 24)) b_point_fault (defBody (st 24)) = true := by decide +kernel
theorem sc_point_fault : FnScope n_point_fault [("count" : Str), ("value" : Str)] (defScope (st 24)) := ⟨rfl, rfl, rfl, by decide +kernel, rfl, by decide +kernel, by decide +kernel⟩
theorem m_need_plain_point : mSs pcs n_need_plain_point (defScope (st 25)) b_need_plain_point (defBody (st 25)) = true := by decide +kernel
theorem sc_need_plain_point : FnScope n_need_plain_point [("count" : Str), ("point" : Str)] (defScope (st 25)) := ⟨rfl, rfl, rfl, by decide +kernel, rfl, by decide +kernel, by decide +kernel⟩
theorem m_plain_value : mSs pcs n_plain_value (defScope (st 26)) b_plain_value (defBody (st 26)) = true := by decide +kernel
theorem sc_plain_value : FnScope n_plain_value [("weights" : Str), ("point" : Str)] (defScope (st 26)) := ⟨rfl, rfl, rfl, by decide +kernel, rfl, by decide +kernel, by decide +kernel⟩
theorem m_holds_at : mSs pcs n_holds_at (defScope (st 27)) b_holds_at (defBody (st 27)) = true := by decide +kernel
theorem sc_holds_at : FnScope n_holds_at [("row" : Str), ("point" : Str)] (defScope (st 27)) := ⟨rfl, rfl, rfl, by decide +kernel, rfl, by decide +kernel, by decide +kernel⟩
theorem m_turned_numbers : mSs pcs n_turned_numbers (defScope (st 28)) b_turned_numbers (defBody (st 28)) = true := by decide +kernel
theorem sc_turned_numbers : FnScope n_turned_numbers [("numbers" : Str)] (defScope (st 28)) := ⟨rfl, rfl, rfl, by decide +kernel, rfl, by decide +kernel, by decide +kernel⟩
theorem m_lot_fault : mSs pcs n_lot_fault (defScope (st 32)) b_lot_fault (defBody (st 32)) = true := by decide +kernel
theorem sc_lot_fault : FnScope n_lot_fault [("value" : Str), ("is_mixed" : Str)] (defScope (st 32)) := ⟨rfl, rfl, rfl, by decide +kernel, rfl, by decide +kernel, by decide +kernel⟩
theorem m_need_lot : mSs pcs n_need_lot (defScope (st 33)) b_need_lot (defBody (st 33)) = true := by decide +kernel
theorem sc_need_lot : FnScope n_need_lot [("lot" : Str)] (defScope (st 33)) := ⟨rfl, rfl, rfl, by decide +kernel, rfl, by decide +kernel, by decide +kernel⟩
theorem m_need_mixed : mSs pcs n_need_mixed (defScope (st 34)) b_need_mixed (defBody (st 34)) = true := by decide +kernel
theorem sc_need_mixed : FnScope n_need_mixed [("lot" : Str)] (defScope (st 34)) := ⟨rfl, rfl, rfl, by decide +kernel, rfl, by decide +kernel, by decide +kernel⟩
theorem m_all_hold : mSs pcs n_all_hold (defScope (st 35)) b_all_hold (defBody (st 35)) = true := by decide +kernel
theorem sc_all_hold : FnScope n_all_hold [("rows" : Str), ("point" : Str)] (defScope (st 35)) := ⟨rfl, rfl, rfl, by decide +kernel, rfl, by decide +kernel, by decide +kernel⟩
theorem m_is_inside : mSs pcs n_is_inside (defScope (st 36)) b_is_inside (defBody (st 36)) = true := by decide +kernel
theorem sc_is_inside : FnScope n_is_inside [("lot" : Str), ("point" : Str)] (defScope (st 36)) := ⟨rfl, rfl, rfl, by decide +kernel, rfl, by decide +kernel, by decide +kernel⟩
theorem m_map_fault : mSs pcs n_map_fault (defScope (st 38)) b_map_fault (defBody (st 38)) = true := by decide +kernel
theorem sc_map_fault : FnScope n_map_fault [("count" : Str), ("value" : Str)] (defScope (st 38)) := ⟨rfl, rfl, rfl, by decide +kernel, rfl, by decide +kernel, by decide +kernel⟩
theorem m_need_map : mSs pcs n_need_map (defScope (st 39)) b_need_map (defBody (st 39)) = true := by decide +kernel
theorem sc_need_map : FnScope n_need_map [("count" : Str), ("value" : Str)] (defScope (st 39)) := ⟨rfl, rfl, rfl, by decide +kernel, rfl, by decide +kernel, by decide +kernel⟩
theorem m_put_row : mSs pcs n_put_row (defScope (st 40)) b_put_row (defBody (st 40)) = true := by decide +kernel
theorem sc_put_row : FnScope n_put_row [("row" : Str), ("value" : Str)] (defScope (st 40)) := ⟨rfl, rfl, rfl, by decide +kernel, rfl, by decide +kernel, by decide +kernel⟩
theorem m_plain_put : mSs pcs n_plain_put (defScope (st 41)) b_plain_put (defBody (st 41)) = true := by decide +kernel
theorem sc_plain_put : FnScope n_plain_put [("lot" : Str), ("value" : Str)] (defScope (st 41)) := ⟨rfl, rfl, rfl, by decide +kernel, rfl, by decide +kernel, by decide +kernel⟩
theorem m_lot_put : mSs pcs n_lot_put (defScope (st 42)) b_lot_put (defBody (st 42)) = true := by decide +kernel
theorem sc_lot_put : FnScope n_lot_put [("lot" : Str), ("change" : Str)] (defScope (st 42)) := ⟨rfl, rfl, rfl, by decide +kernel, rfl, by decide +kernel, by decide +kernel⟩
theorem m_plain_image : mSs pcs n_plain_image (defScope (st 43)) b_plain_image (defBody (st 43)) = true := by decide +kernel
theorem sc_plain_image : FnScope n_plain_image [("value" : Str), ("point" : Str)] (defScope (st 43)) := ⟨rfl, rfl, rfl, by decide +kernel, rfl, by decide +kernel, by decide +kernel⟩
theorem m_map_image : mSs pcs n_map_image (defScope (st 44)) b_map_image (defBody (st 44)) = true := by decide +kernel
theorem sc_map_image : FnScope n_map_image [("lot" : Str), ("change" : Str), ("point" : Str)] (defScope (st 44)) := ⟨rfl, rfl, rfl, by decide +kernel, rfl, by decide +kernel, by decide +kernel⟩
theorem m_plain_shifted : mSs pcs n_plain_shifted (defScope (st 45)) b_plain_shifted (defBody (st 45)) = true := by decide +kernel
theorem sc_plain_shifted : FnScope n_plain_shifted [("lot" : Str), ("point" : Str)] (defScope (st 45)) := ⟨rfl, rfl, rfl, by decide +kernel, rfl, by decide +kernel, by decide +kernel⟩
theorem m_lot_shifted : mSs pcs n_lot_shifted (defScope (st 46)) b_lot_shifted (defBody (st 46)) = true := by decide +kernel
theorem sc_lot_shifted : FnScope n_lot_shifted [("lot" : Str), ("point" : Str)] (defScope (st 46)) := ⟨rfl, rfl, rfl, by decide +kernel, rfl, by decide +kernel, by decide +kernel⟩
theorem m_plain_times : mSs pcs n_plain_times (defScope (st 47)) b_plain_times (defBody (st 47)) = true := by decide +kernel
theorem sc_plain_times : FnScope n_plain_times [("lot" : Str), ("fraction" : Str)] (defScope (st 47)) := ⟨rfl, rfl, rfl, by decide +kernel, rfl, by decide +kernel, by decide +kernel⟩
theorem m_lot_times : mSs pcs n_lot_times (defScope (st 48)) b_lot_times (defBody (st 48)) = true := by decide +kernel
theorem sc_lot_times : FnScope n_lot_times [("lot" : Str), ("fraction" : Str)] (defScope (st 48)) := ⟨rfl, rfl, rfl, by decide +kernel, rfl, by decide +kernel, by decide +kernel⟩
theorem m_plain_lot_turned : mSs pcs n_plain_lot_turned (defScope (st 49)) b_plain_lot_turned (defBody (st 49)) = true := by decide +kernel
theorem sc_plain_lot_turned : FnScope n_plain_lot_turned [("lot" : Str)] (defScope (st 49)) := ⟨rfl, rfl, rfl, by decide +kernel, rfl, by decide +kernel, by decide +kernel⟩
theorem m_lot_turned : mSs pcs n_lot_turned (defScope (st 50)) b_lot_turned (defBody (st 50)) = true := by decide +kernel
theorem sc_lot_turned : FnScope n_lot_turned [("lot" : Str)] (defScope (st 50)) := ⟨rfl, rfl, rfl, by decide +kernel, rfl, by decide +kernel, by decide +kernel⟩
theorem m__law_mixed : mSs pcs n__law_mixed (defScope (st 52)) b__law_mixed (defBody (st 52)) = true := by decide +kernel
theorem sc__law_mixed : FnScope n__law_mixed [("cell" : Str), ("n" : Str)] (defScope (st 52)) := ⟨rfl, rfl, rfl, by decide +kernel, rfl, by decide +kernel, by decide +kernel⟩
theorem m__law_folded : mSs pcs n__law_folded (defScope (st 53)) b__law_folded (defBody (st 53)) = true := by decide +kernel
theorem sc__law_folded : FnScope n__law_folded [("script" : Str)] (defScope (st 53)) := ⟨rfl, rfl, rfl, by decide +kernel, rfl, by decide +kernel, by decide +kernel⟩
theorem m__law_of : mSs pcs n__law_of (defScope (st 56)) b__law_of (defBody (st 56)) = true := by decide +kernel
theorem sc__law_of : FnScope n__law_of [("m" : Str), ("some" : Str)] (defScope (st 56)) := ⟨rfl, rfl, rfl, by decide +kernel, rfl, by decide +kernel, by decide +kernel⟩
theorem m__law_like : mSs pcs n__law_like (defScope (st 57)) b__law_like (defBody (st 57)) = true := by decide +kernel
theorem sc__law_like : FnScope n__law_like [("got" : Str), ("due" : Str)] (defScope (st 57)) := ⟨rfl, rfl, rfl, by decide +kernel, rfl, by decide +kernel, by decide +kernel⟩
theorem m__law_common : mSs pcs n__law_common (defScope (st 58)) b__law_common (defBody (st 58)) = true := by decide +kernel
theorem sc__law_common : FnScope n__law_common [("one" : Str), ("other" : Str)] (defScope (st 58)) := ⟨rfl, rfl, rfl, by decide +kernel, rfl, by decide +kernel, by decide +kernel⟩
theorem m__law_ratio : mSs pcs n__law_ratio (defScope (st 59)) b__law_ratio (defBody (st 59)) = true := by decide +kernel
theorem sc__law_ratio : FnScope n__law_ratio [("upper" : Str), ("under" : Str)] (defScope (st 59)) := ⟨rfl, rfl, rfl, by decide +kernel, rfl, by decide +kernel, by decide +kernel⟩
theorem m__law_sum : mSs pcs n__law_sum (defScope (st 60)) b__law_sum (defBody (st 60)) = true := by decide +kernel
theorem sc__law_sum : FnScope n__law_sum [("fractions" : Str)] (defScope (st 60)) := ⟨rfl, rfl, rfl, by decide +kernel, rfl, by decide +kernel, by decide +kernel⟩
theorem m__law_times : mSs pcs n__law_times (defScope (st 61)) b__law_times (defBody (st 61)) = true := by decide +kernel
theorem sc__law_times : FnScope n__law_times [("fractions" : Str)] (defScope (st 61)) := ⟨rfl, rfl, rfl, by decide +kernel, rfl, by decide +kernel, by decide +kernel⟩
theorem m__law_minus : mSs pcs n__law_minus (defScope (st 62)) b__law_minus (defBody (st 62)) = true := by decide +kernel
theorem sc__law_minus : FnScope n__law_minus [("one" : Str), ("other" : Str)] (defScope (st 62)) := ⟨rfl, rfl, rfl, by decide +kernel, rfl, by decide +kernel, by decide +kernel⟩
theorem m__law_odd_fraction : mSs pcs n__law_odd_fraction (defScope (st 63)) b__law_odd_fraction (defBody (st 63)) = true := by decide +kernel
theorem sc__law_odd_fraction : FnScope n__law_odd_fraction [("m" : Str)] (defScope (st 63)) := ⟨rfl, rfl, rfl, by decide +kernel, rfl, by decide +kernel, by decide +kernel⟩
theorem m__law_small : mSs pcs n__law_small (defScope (st 64)) b__law_small (defBody (st 64)) = true := by decide +kernel
theorem sc__law_small : FnScope n__law_small [("m" : Str)] (defScope (st 64)) := ⟨rfl, rfl, rfl, by decide +kernel, rfl, by decide +kernel, by decide +kernel⟩
theorem m__law_whole_row : mSs pcs n__law_whole_row (defScope (st 65)) b__law_whole_row (defBody (st 65)) = true := by decide +kernel
theorem sc__law_whole_row : FnScope n__law_whole_row [("m" : Str), ("count" : Str)] (defScope (st 65)) := ⟨rfl, rfl, rfl, by decide +kernel, rfl, by decide +kernel, by decide +kernel⟩
theorem m__law_point : mSs pcs n__law_point (defScope (st 66)) b__law_point (defBody (st 66)) = true := by decide +kernel
theorem sc__law_point : FnScope n__law_point [("m" : Str), ("count" : Str)] (defScope (st 66)) := ⟨rfl, rfl, rfl, by decide +kernel, rfl, by decide +kernel, by decide +kernel⟩
theorem m__law_value : mSs pcs n__law_value (defScope (st 67)) b__law_value (defBody (st 67)) = true := by decide +kernel
theorem sc__law_value : FnScope n__law_value [("weights" : Str), ("point" : Str)] (defScope (st 67)) := ⟨rfl, rfl, rfl, by decide +kernel, rfl, by decide +kernel, by decide +kernel⟩
theorem m__law_row : mSs pcs n__law_row (defScope (st 68)) b__law_row (defBody (st 68)) = true := by decide +kernel
theorem sc__law_row : FnScope n__law_row [("m" : Str), ("count" : Str)] (defScope (st 68)) := ⟨rfl, rfl, rfl, by decide +kernel, rfl, by decide +kernel, by decide +kernel⟩
theorem m__law_lot : mSs pcs n__law_lot (defScope (st 69)) b__law_lot (defBody (st 69)) = true := by decide +kernel
theorem sc__law_lot : FnScope n__law_lot [("m" : Str), ("count" : Str), ("rows" : Str)] (defScope (st 69)) := ⟨rfl, rfl, rfl, by decide +kernel, rfl, by decide +kernel, by decide +kernel⟩
theorem m__law_map : mSs pcs n__law_map (defScope (st 71)) b__law_map (defBody (st 71)) = true := by decide +kernel
theorem sc__law_map : FnScope n__law_map [("m" : Str), ("count" : Str), ("size" : Str)] (defScope (st 71)) := ⟨rfl, rfl, rfl, by decide +kernel, rfl, by decide +kernel, by decide +kernel⟩
theorem m__law_image : mSs pcs n__law_image (defScope (st 72)) b__law_image (defBody (st 72)) = true := by decide +kernel
theorem sc__law_image : FnScope n__law_image [("change" : Str), ("point" : Str)] (defScope (st 72)) := ⟨rfl, rfl, rfl, by decide +kernel, rfl, by decide +kernel, by decide +kernel⟩
theorem m__law_put : mSs pcs n__law_put (defScope (st 73)) b__law_put (defBody (st 73)) = true := by decide +kernel
theorem sc__law_put : FnScope n__law_put [("lot" : Str), ("change" : Str)] (defScope (st 73)) := ⟨rfl, rfl, rfl, by decide +kernel, rfl, by decide +kernel, by decide +kernel⟩
theorem m__law_behind : mSs pcs n__law_behind (defScope (st 74)) b__law_behind (defBody (st 74)) = true := by decide +kernel
theorem sc__law_behind : FnScope n__law_behind [("change" : Str), ("other" : Str)] (defScope (st 74)) := ⟨rfl, rfl, rfl, by decide +kernel, rfl, by decide +kernel, by decide +kernel⟩
theorem m__law_maps_right : mSs { pcs with lsc := some (defScope (st 75)).names, hn := "_law_heard", ml := mLam pcs n__law_maps_right l__law_maps_right } n__law_maps_right (defScope (st 75)) b__law_maps_right (defBody (st 75)) = true := by decide +kernel
theorem sc__law_maps_right : FnScope n__law_maps_right [("m" : Str), ("lot" : Str)] (defScope (st 75)) := ⟨rfl, rfl, rfl, by decide +kernel, rfl, by decide +kernel, by decide +kernel⟩
theorem m__law_moves_right : mSs { pcs with lsc := some (defScope (st 76)).names, hn := "_law_heard", ml := mLam pcs n__law_moves_right l__law_moves_right } n__law_moves_right (defScope (st 76)) b__law_moves_right (defBody (st 76)) = true := by decide +kernel
theorem sc__law_moves_right : FnScope n__law_moves_right [("m" : Str), ("lot" : Str)] (defScope (st 76)) := ⟨rfl, rfl, rfl, by decide +kernel, rfl, by decide +kernel, by decide +kernel⟩
theorem m_law : mSs pcs n_law (defScope sLaw) b_law lawRest = true := by decide +kernel
theorem sc_law : FnScope n_law [("script" : Str)] (defScope (st 77)) := ⟨rfl, rfl, rfl, by decide +kernel, rfl, by decide +kernel, by decide +kernel⟩
def pcM : Pc := { pcs with fs := [], gls := [], kbs := [], xs := [] }
theorem mM_mixed : mSs pcM n__law_mixed (defScope (st 52)) b__law_mixed (defBody (st 52)) = true := by decide +kernel
def eFold : Expr := match defBody (st 53) with
  | [_, _, _, .Return (some e) _] => e
  | _ => .Constant .none 0 ⟨0, 0, 0, 0⟩
def pFold : Pos := match defBody (st 53) with
  | [_, _, _, .Return (some e) p] => p
  | _ => ⟨0, 0, 0, 0⟩
theorem bFold : defBody (st 53) = (defBody (st 53)).take 3 ++ [.Return (some eFold) pFold] := rfl
theorem mM_fold : mSs pcM n__law_folded (defScope (st 53)) (b__law_folded.take 3) ((defBody (st 53)).take 3) = true := by decide +kernel
theorem mM_fold2 : nameB n__law_folded (defScope (st 53)) 1 eFold = true := by decide +kernel
/-! ### what the head is to tell -/
def dD (x : Str) (s : Stmt) (df : List Dv) : DefD := ⟨(x, none), x, x, defArgs s, defBody s, defScope s, df, []⟩
def fnL : List DefD := [dD "is_whole" (st 8) [.non, .non], dD "is_row" (st 9) [.non], dD "is_fraction" (st 11) [], dD "need_fraction" (st 12) [], dD "ratio" (st 13) [], dD "ratio_plus" (st 14) [], dD "ratio_minus" (st 15) [], dD "ratio_times" (st 16) [], dD "ratio_less" (st 17) [], dD "ratio_total" (st 18) [], dD "are_fractions" (st 22) [], dD "row_fault" (st 23) [], dD "point_fault" (st 24) [], dD "need_plain_point" (st 25) [], dD "plain_value" (st 26) [], dD "holds_at" (st 27) [], dD "turned_numbers" (st 28) [], dD "lot_fault" (st 32) [], dD "need_lot" (st 33) [], dD "need_mixed" (st 34) [], dD "all_hold" (st 35) [], dD "is_inside" (st 36) [], dD "map_fault" (st 38) [], dD "need_map" (st 39) [], dD "put_row" (st 40) [], dD "plain_put" (st 41) [], dD "lot_put" (st 42) [], dD "plain_image" (st 43) [], dD "map_image" (st 44) [], dD "plain_shifted" (st 45) [], dD "lot_shifted" (st 46) [], dD "plain_times" (st 47) [], dD "lot_times" (st 48) [], dD "plain_lot_turned" (st 49) [], dD "lot_turned" (st 50) [], dD "_law_mixed" (st 52) [], dD "_law_folded" (st 53) [], dD "_law_draw" (st 54) [], dD "_law_begun" (st 55) [], dD "_law_of" (st 56) [], dD "_law_like" (st 57) [], dD "_law_common" (st 58) [], dD "_law_ratio" (st 59) [], dD "_law_sum" (st 60) [], dD "_law_times" (st 61) [], dD "_law_minus" (st 62) [], dD "_law_odd_fraction" (st 63) [], dD "_law_small" (st 64) [], dD "_law_whole_row" (st 65) [], dD "_law_point" (st 66) [], dD "_law_value" (st 67) [], dD "_law_row" (st 68) [], dD "_law_lot" (st 69) [], dD "_law_heard" (st 70) [], dD "_law_map" (st 71) [], dD "_law_image" (st 72) [], dD "_law_put" (st 73) [], dD "_law_behind" (st 74) [], dD "_law_maps_right" (st 75) [], dD "_law_moves_right" (st 76) [], dD "law" (st 77) []]
def faL : List Fa := (pcs.nm.no.map Fa.free) ++ [.free "super"]
def fgL : List Fa := (fnL.map fun d => Fa.glo d.name) ++ [.glo "BadLot", .glo "BadPoint", .glo "BadFraction", .glo "BadMap"]
structure HdK (file : Str) (K : PySem.W.Frag) : Prop where
  k1 : fnL.map (fun d => fnW K d.at_) = fnL.map DefD.val
  k2 : (fnL.all fun d => d.ok K) = true
  k3 : (faL.all fun d => d.ok K) = true
  k4 : (fgL.all fun d => d.ok K) = true
  kg : eqO (PySem.W.nsIn K mainGlobals "gcd") (some (some (.builtin "math.gcd"))) = true
  g_MOST_UNKNOWNS : (Fa.int "MOST_UNKNOWNS" 5).ok K = true
  g_KINDS : tupB K "KINDS" [.str "most", .str "less", .str "same"] = true ∧ (Fa.glo "KINDS").ok K = true
  g_MOST_ROWS : (Fa.int "MOST_ROWS" 60).ok K = true
  g_CLOSED : tupB K "CLOSED" [.str "most", .str "same"] = true ∧ (Fa.glo "CLOSED").ok K = true
  e_BadLot : fnW K ("BadLot", some "__init__") = (some (("__init__" : Str), "BadLot.__init__", defArgs (inClass (st 3) 0), FuncBody.stmts (defBody (inClass (st 3) 0)), defScope (inClass (st 3) 0), mainGlobals, [(("__class__" : Str), cellOf K (fAd K ("BadLot", some "__init__")))], builtinsNs) : FnW)
  i_BadLot : iniB file K (ga K "BadLot") (fAd K ("BadLot", some "__init__")) "place" "BadLot.__init__" = true
  e_BadPoint : fnW K ("BadPoint", some "__init__") = (some (("__init__" : Str), "BadPoint.__init__", defArgs (inClass (st 4) 0), FuncBody.stmts (defBody (inClass (st 4) 0)), defScope (inClass (st 4) 0), mainGlobals, [(("__class__" : Str), cellOf K (fAd K ("BadPoint", some "__init__")))], builtinsNs) : FnW)
  i_BadPoint : iniB file K (ga K "BadPoint") (fAd K ("BadPoint", some "__init__")) "place" "BadPoint.__init__" = true
  e_BadFraction : fnW K ("BadFraction", some "__init__") = (some (("__init__" : Str), "BadFraction.__init__", defArgs (inClass (st 5) 0), FuncBody.stmts (defBody (inClass (st 5) 0)), defScope (inClass (st 5) 0), mainGlobals, [(("__class__" : Str), cellOf K (fAd K ("BadFraction", some "__init__")))], builtinsNs) : FnW)
  i_BadFraction : iniB file K (ga K "BadFraction") (fAd K ("BadFraction", some "__init__")) "value" "BadFraction.__init__" = true
  e_BadMap : fnW K ("BadMap", some "__init__") = (some (("__init__" : Str), "BadMap.__init__", defArgs (inClass (st 6) 0), FuncBody.stmts (defBody (inClass (st 6) 0)), defScope (inClass (st 6) 0), mainGlobals, [(("__class__" : Str), cellOf K (fAd K ("BadMap", some "__init__")))], builtinsNs) : FnW)
  i_BadMap : iniB file K (ga K "BadMap") (fAd K ("BadMap", some "__init__")) "place" "BadMap.__init__" = true
  kx : (qsH.all fun q => xfB K (ga K q.1) && eqO (PySem.W.findIn K (.ref (ga K q.1)) q.2.2.2) (some none)) = true
  km : (qsH.all fun q => qsH.all fun r => decide (PySem.W.exmOne K (.ref (ga K q.1)) (.ref (ga K r.1)) = some (decide (q.2.1 = r.2.1)))) = true
  l__law_maps_right : PySem.W.codeHdIn K (cT K ("_law_maps_right", none)).1 (cT K ("_law_maps_right", none)).2 = true ∧ (match K.lookup (cT K ("_law_maps_right", none)).2 with | none => true | some _ => false) = true
  l__law_moves_right : PySem.W.codeHdIn K (cT K ("_law_moves_right", none)).1 (cT K ("_law_moves_right", none)).2 = true ∧ (match K.lookup (cT K ("_law_moves_right", none)).2 with | none => true | some _ => false) = true
  ln_0_1 : ((cT K ("_law_maps_right", none)).2 == (cT K ("_law_moves_right", none)).2) = false
  ln_1_0 : ((cT K ("_law_moves_right", none)).2 == (cT K ("_law_maps_right", none)).2) = false
section
variable {file : Str} {K : PySem.W.Frag}
theorem fn_at (H : HdK file K) (i : Nat) {d : DefD} (h : fnL[i]? = some d := by rfl) : ∃ fd, FunC K d.name d.qual d.params d.body d.scope (codeOf K d.at_) (fAd K d.at_) fd ∧ FunD K d.name d.qual d.params d.body d.scope (d.dvs K) (d.kws K) (fAd K d.at_) fd := by
  have e2 : (fnL.map fun d => fnW K d.at_)[i]? = (fnL.map DefD.val)[i]? := by rw [H.k1]
  rw [List.getElem?_map, List.getElem?_map, h] at e2
  exact funC_of (Option.some.inj e2) (List.all_eq_true.mp H.k2 d (List.mem_of_getElem? h))
theorem fg_at (H : HdK file K) (i : Nat) {f : Fa} (h : fgL[i]? = some f := by rfl) : f.ok K = true := List.all_eq_true.mp H.k4 f (List.mem_of_getElem? h)
theorem free_at (H : HdK file K) {x : Str} (h : pcs.nm.no.contains x = true ∨ x = "super") : (Fa.free x).ok K = true := by
  refine List.all_eq_true.mp H.k3 _ ?_
  unfold faL
  rcases h with h | rfl
  · exact List.mem_append_left _ (List.mem_map.mpr ⟨x, by simpa using h, rfl⟩)
  · exact List.mem_append_right _ (by simp)
end
def CeK (K : PySem.W.Frag) : Ec where
  cls := fun c => match c with
    | 1 => ga K "BadLot"
    | 2 => ga K "BadPoint"
    | 3 => ga K "BadFraction"
    | 4 => ga K "BadMap"
    | _ => 0
  att := fun c => match c with
    | 1 => "place"
    | 2 => "place"
    | 3 => "value"
    | 4 => "place"
    | _ => ""
  tb := [((cT K ("_law_maps_right", none)).2, "_law_maps_right" ++ ".<locals>." ++ "<lambda>"), ((cT K ("_law_moves_right", none)).2, "_law_moves_right" ++ ".<locals>." ++ "<lambda>")]
section
variable {P : Program} {w : World} {K : PySem.W.Frag} {mg : Str → Option Value} {base h : Heap} (X : K.In h) (G : h.Ns mainGlobals mg) (H : HdK P.main.file K)
include X G H
theorem ex_BadLot (top : (P.main.scope.names.lookup ("super" : Str)).isSome = false) : ExK P K mg "BadLot" (ga K "BadLot") "place" :=
  exK_mk H.e_BadLot H.i_BadLot ⟨rfl, rfl, rfl, by decide +kernel, by decide +kernel, by decide +kernel, by decide +kernel, by decide +kernel, by decide +kernel, by decide +kernel, by decide +kernel⟩ rfl top ⟨_, rfl, rfl⟩ (fun _ _ _ _ _ _ _ us hl => match us, hl with | [_, _], _ => rfl) (glo_ok X G (fg_at H 61)) (by decide +kernel)
theorem ex_BadPoint (top : (P.main.scope.names.lookup ("super" : Str)).isSome = false) : ExK P K mg "BadPoint" (ga K "BadPoint") "place" :=
  exK_mk H.e_BadPoint H.i_BadPoint ⟨rfl, rfl, rfl, by decide +kernel, by decide +kernel, by decide +kernel, by decide +kernel, by decide +kernel, by decide +kernel, by decide +kernel, by decide +kernel⟩ rfl top ⟨_, rfl, rfl⟩ (fun _ _ _ _ _ _ _ us hl => match us, hl with | [_, _], _ => rfl) (glo_ok X G (fg_at H 62)) (by decide +kernel)
theorem ex_BadFraction (top : (P.main.scope.names.lookup ("super" : Str)).isSome = false) : ExK P K mg "BadFraction" (ga K "BadFraction") "value" :=
  exK_mk H.e_BadFraction H.i_BadFraction ⟨rfl, rfl, rfl, by decide +kernel, by decide +kernel, by decide +kernel, by decide +kernel, by decide +kernel, by decide +kernel, by decide +kernel, by decide +kernel⟩ rfl top ⟨_, rfl, rfl⟩ (fun _ _ _ _ _ _ _ us hl => match us, hl with | [_, _], _ => rfl) (glo_ok X G (fg_at H 63)) (by decide +kernel)
theorem ex_BadMap (top : (P.main.scope.names.lookup ("super" : Str)).isSome = false) : ExK P K mg "BadMap" (ga K "BadMap") "place" :=
  exK_mk H.e_BadMap H.i_BadMap ⟨rfl, rfl, rfl, by decide +kernel, by decide +kernel, by decide +kernel, by decide +kernel, by decide +kernel, by decide +kernel, by decide +kernel, by decide +kernel⟩ rfl top ⟨_, rfl, rfl⟩ (fun _ _ _ _ _ _ _ us hl => match us, hl with | [_, _], _ => rfl) (glo_ok X G (fg_at H 64)) (by decide +kernel)
theorem mk_all (top : (P.main.scope.names.lookup ("super" : Str)).isSome = false) : ∀ m, MkAll P w K mg base (CeK K) (3 + m) pcs.xs := by
  intro m X' e1 e2 e3 e4 e5 cl hr y c hm
  have hs : X'.mg ("super" : Str) = none := by rw [e4]; exact free_ok X G (free_at H (.inr rfl))
  have hr3 : Room 3 X'.A := hr.mono (by omega)
  simp only [pcs, List.mem_cons, List.not_mem_nil, or_false, Prod.mk.injEq] at hm
  rcases hm with ⟨rfl, rfl⟩ | ⟨rfl, rfl⟩ | ⟨rfl, rfl⟩ | ⟨rfl, rfl⟩
  · exact mk_at (by rw [e1, e3, e4]; exact ex_BadLot X G H top) hs hr3
  · exact mk_at (by rw [e1, e3, e4]; exact ex_BadPoint X G H top) hs hr3
  · exact mk_at (by rw [e1, e3, e4]; exact ex_BadFraction X G H top) hs hr3
  · exact mk_at (by rw [e1, e3, e4]; exact ex_BadMap X G H top) hs hr3
theorem b_b_is_whole {fd : FuncData} (F : FunD K "is_whole" "is_whole" (defArgs (st 8)) (defBody (st 8)) (defScope (st 8)) [.non, .non] [] (ga K "is_whole") fd) : ∀ nd, nd ≤ 2 → Binds K fd [("value" : Str), ("least" : Str), ("most" : Str)] (List.replicate nd .none) := by
  intro nd hnd
  match nd, hnd with
  | 0, _ =>
    obtain ⟨ds, v, b⟩ := F.binds1 (ps := [("value" : Str), ("least" : Str), ("most" : Str)]) 3 2 (by simp) rfl fun T kV doc pm an cdv ct us its h1 h2 => match us, h1, its, h2 with | [_, _, _], _, [_, _], _ => ⟨_, rfl, rfl⟩
    have e : ds = List.replicate 0 .none := by
      have v2 : Vals (List.replicate 0 V.non) ds := v
      cases v2
      rfl
    rw [← e]; exact b
  | 1, _ =>
    obtain ⟨ds, v, b⟩ := F.binds1 (ps := [("value" : Str), ("least" : Str), ("most" : Str)]) 2 1 (by simp) rfl fun T kV doc pm an cdv ct us its h1 h2 => match us, h1, its, h2 with | [_, _], _, [_, _], _ => ⟨_, rfl, rfl⟩
    have e : ds = List.replicate 1 .none := by
      have v2 : Vals (List.replicate 1 V.non) ds := v
      cases v2 with
      | cons q0 t0 =>
      cases q0
      cases t0
      rfl
    rw [← e]; exact b
  | 2, _ =>
    obtain ⟨ds, v, b⟩ := F.binds1 (ps := [("value" : Str), ("least" : Str), ("most" : Str)]) 1 0 (by simp) rfl fun T kV doc pm an cdv ct us its h1 h2 => match us, h1, its, h2 with | [_], _, [_, _], _ => ⟨_, rfl, rfl⟩
    have e : ds = List.replicate 2 .none := by
      have v2 : Vals (List.replicate 2 V.non) ds := v
      cases v2 with
      | cons q0 t0 =>
      cases q0
      cases t0 with
      | cons q1 t1 =>
      cases q1
      cases t1
      rfl
    rw [← e]; exact b
theorem g_is_whole (mk : ∀ m, MkAll P w K mg base (CeK K) (3 + m) pcs.xs) : GoalAt P w K mg base (CeK K) 3 pcs (hdOf qsH) tab 0 (("is_whole" : Str), 3, 2) := by
  obtain ⟨fd, _, F⟩ := fn_at H 0 (d := dD "is_whole" (st 8) [.non, .non])
  exact goal_df (d := ⟨3, b_is_whole, []⟩) F sc_is_whole rfl m_is_whole rfl rfl (glo_ok X G (fg_at H 0)) rfl (b_b_is_whole X G H F) (no_kbs (by decide)) mk
theorem b_b_is_row {fd : FuncData} (F : FunD K "is_row" "is_row" (defArgs (st 9)) (defBody (st 9)) (defScope (st 9)) [.non] [] (ga K "is_row") fd) : ∀ nd, nd ≤ 1 → Binds K fd [("value" : Str), ("length" : Str)] (List.replicate nd .none) := by
  intro nd hnd
  match nd, hnd with
  | 0, _ =>
    obtain ⟨ds, v, b⟩ := F.binds1 (ps := [("value" : Str), ("length" : Str)]) 2 1 (by simp) rfl fun T kV doc pm an cdv ct us its h1 h2 => match us, h1, its, h2 with | [_, _], _, [_], _ => ⟨_, rfl, rfl⟩
    have e : ds = List.replicate 0 .none := by
      have v2 : Vals (List.replicate 0 V.non) ds := v
      cases v2
      rfl
    rw [← e]; exact b
  | 1, _ =>
    obtain ⟨ds, v, b⟩ := F.binds1 (ps := [("value" : Str), ("length" : Str)]) 1 0 (by simp) rfl fun T kV doc pm an cdv ct us its h1 h2 => match us, h1, its, h2 with | [_], _, [_], _ => ⟨_, rfl, rfl⟩
    have e : ds = List.replicate 1 .none := by
      have v2 : Vals (List.replicate 1 V.non) ds := v
      cases v2 with
      | cons q0 t0 =>
      cases q0
      cases t0
      rfl
    rw [← e]; exact b
theorem g_is_row (mk : ∀ m, MkAll P w K mg base (CeK K) (3 + m) pcs.xs) : GoalAt P w K mg base (CeK K) 3 pcs (hdOf qsH) tab 1 (("is_row" : Str), 2, 1) := by
  obtain ⟨fd, _, F⟩ := fn_at H 1 (d := dD "is_row" (st 9) [.non])
  exact goal_df (d := ⟨2, b_is_row, []⟩) F sc_is_row rfl m_is_row rfl rfl (glo_ok X G (fg_at H 1)) rfl (b_b_is_row X G H F) (no_kbs (by decide)) mk
theorem g_is_fraction (mk : ∀ m, MkAll P w K mg base (CeK K) (3 + m) pcs.xs) : GoalAt P w K mg base (CeK K) 3 pcs (hdOf qsH) tab 2 (("is_fraction" : Str), 1, 0) := by
  obtain ⟨fd, _, F⟩ := fn_at H 2 (d := dD "is_fraction" (st 11) [])
  exact goal_df (d := ⟨1, b_is_fraction, []⟩) F sc_is_fraction rfl m_is_fraction rfl rfl (glo_ok X G (fg_at H 2)) rfl (fun nd hnd => by obtain rfl : nd = 0 := Nat.le_zero.mp hnd; exact F.bindsN fun _ _ _ _ _ _ us hl => match us, hl with | [_], _ => rfl) (no_kbs (by decide)) mk
theorem g_need_fraction (mk : ∀ m, MkAll P w K mg base (CeK K) (3 + m) pcs.xs) : GoalAt P w K mg base (CeK K) 3 pcs (hdOf qsH) tab 3 (("need_fraction" : Str), 1, 0) := by
  obtain ⟨fd, _, F⟩ := fn_at H 3 (d := dD "need_fraction" (st 12) [])
  exact goal_df (d := ⟨1, b_need_fraction, []⟩) F sc_need_fraction rfl m_need_fraction rfl rfl (glo_ok X G (fg_at H 3)) rfl (fun nd hnd => by obtain rfl : nd = 0 := Nat.le_zero.mp hnd; exact F.bindsN fun _ _ _ _ _ _ us hl => match us, hl with | [_], _ => rfl) (no_kbs (by decide)) mk
theorem g_ratio (mk : ∀ m, MkAll P w K mg base (CeK K) (3 + m) pcs.xs) : GoalAt P w K mg base (CeK K) 3 pcs (hdOf qsH) tab 4 (("ratio" : Str), 2, 0) := by
  obtain ⟨fd, _, F⟩ := fn_at H 4 (d := dD "ratio" (st 13) [])
  exact goal_df (d := ⟨3, b_ratio, []⟩) F sc_ratio rfl m_ratio rfl rfl (glo_ok X G (fg_at H 4)) rfl (fun nd hnd => by obtain rfl : nd = 0 := Nat.le_zero.mp hnd; exact F.bindsN fun _ _ _ _ _ _ us hl => match us, hl with | [_, _], _ => rfl) (no_kbs (by decide)) mk
theorem g_ratio_plus (mk : ∀ m, MkAll P w K mg base (CeK K) (3 + m) pcs.xs) : GoalAt P w K mg base (CeK K) 3 pcs (hdOf qsH) tab 5 (("ratio_plus" : Str), 2, 0) := by
  obtain ⟨fd, _, F⟩ := fn_at H 5 (d := dD "ratio_plus" (st 14) [])
  exact goal_df (d := ⟨2, b_ratio_plus, []⟩) F sc_ratio_plus rfl m_ratio_plus rfl rfl (glo_ok X G (fg_at H 5)) rfl (fun nd hnd => by obtain rfl : nd = 0 := Nat.le_zero.mp hnd; exact F.bindsN fun _ _ _ _ _ _ us hl => match us, hl with | [_, _], _ => rfl) (no_kbs (by decide)) mk
theorem g_ratio_minus (mk : ∀ m, MkAll P w K mg base (CeK K) (3 + m) pcs.xs) : GoalAt P w K mg base (CeK K) 3 pcs (hdOf qsH) tab 6 (("ratio_minus" : Str), 2, 0) := by
  obtain ⟨fd, _, F⟩ := fn_at H 6 (d := dD "ratio_minus" (st 15) [])
  exact goal_df (d := ⟨2, b_ratio_minus, []⟩) F sc_ratio_minus rfl m_ratio_minus rfl rfl (glo_ok X G (fg_at H 6)) rfl (fun nd hnd => by obtain rfl : nd = 0 := Nat.le_zero.mp hnd; exact F.bindsN fun _ _ _ _ _ _ us hl => match us, hl with | [_, _], _ => rfl) (no_kbs (by decide)) mk
theorem g_ratio_times (mk : ∀ m, MkAll P w K mg base (CeK K) (3 + m) pcs.xs) : GoalAt P w K mg base (CeK K) 3 pcs (hdOf qsH) tab 7 (("ratio_times" : Str), 2, 0) := by
  obtain ⟨fd, _, F⟩ := fn_at H 7 (d := dD "ratio_times" (st 16) [])
  exact goal_df (d := ⟨2, b_ratio_times, []⟩) F sc_ratio_times rfl m_ratio_times rfl rfl (glo_ok X G (fg_at H 7)) rfl (fun nd hnd => by obtain rfl : nd = 0 := Nat.le_zero.mp hnd; exact F.bindsN fun _ _ _ _ _ _ us hl => match us, hl with | [_, _], _ => rfl) (no_kbs (by decide)) mk
theorem g_ratio_less (mk : ∀ m, MkAll P w K mg base (CeK K) (3 + m) pcs.xs) : GoalAt P w K mg base (CeK K) 3 pcs (hdOf qsH) tab 8 (("ratio_less" : Str), 2, 0) := by
  obtain ⟨fd, _, F⟩ := fn_at H 8 (d := dD "ratio_less" (st 17) [])
  exact goal_df (d := ⟨2, b_ratio_less, []⟩) F sc_ratio_less rfl m_ratio_less rfl rfl (glo_ok X G (fg_at H 8)) rfl (fun nd hnd => by obtain rfl : nd = 0 := Nat.le_zero.mp hnd; exact F.bindsN fun _ _ _ _ _ _ us hl => match us, hl with | [_, _], _ => rfl) (no_kbs (by decide)) mk
theorem g_ratio_total (mk : ∀ m, MkAll P w K mg base (CeK K) (3 + m) pcs.xs) : GoalAt P w K mg base (CeK K) 3 pcs (hdOf qsH) tab 9 (("ratio_total" : Str), 1, 0) := by
  obtain ⟨fd, _, F⟩ := fn_at H 9 (d := dD "ratio_total" (st 18) [])
  exact goal_df (d := ⟨4, b_ratio_total, []⟩) F sc_ratio_total rfl m_ratio_total rfl rfl (glo_ok X G (fg_at H 9)) rfl (fun nd hnd => by obtain rfl : nd = 0 := Nat.le_zero.mp hnd; exact F.bindsN fun _ _ _ _ _ _ us hl => match us, hl with | [_], _ => rfl) (no_kbs (by decide)) mk
theorem g_are_fractions (mk : ∀ m, MkAll P w K mg base (CeK K) (3 + m) pcs.xs) : GoalAt P w K mg base (CeK K) 3 pcs (hdOf qsH) tab 10 (("are_fractions" : Str), 2, 0) := by
  obtain ⟨fd, _, F⟩ := fn_at H 10 (d := dD "are_fractions" (st 22) [])
  exact goal_df (d := ⟨3, b_are_fractions, []⟩) F sc_are_fractions rfl m_are_fractions rfl rfl (glo_ok X G (fg_at H 10)) rfl (fun nd hnd => by obtain rfl : nd = 0 := Nat.le_zero.mp hnd; exact F.bindsN fun _ _ _ _ _ _ us hl => match us, hl with | [_, _], _ => rfl) (no_kbs (by decide)) mk
theorem g_row_fault (mk : ∀ m, MkAll P w K mg base (CeK K) (3 + m) pcs.xs) : GoalAt P w K mg base (CeK K) 3 pcs (hdOf qsH) tab 11 (("row_fault" : Str), 2, 0) := by
  obtain ⟨fd, _, F⟩ := fn_at H 11 (d := dD "row_fault" (st 23) [])
  exact goal_df (d := ⟨2, b_row_fault, []⟩) F sc_row_fault rfl m_row_fault rfl rfl (glo_ok X G (fg_at H 11)) rfl (fun nd hnd => by obtain rfl : nd = 0 := Nat.le_zero.mp hnd; exact F.bindsN fun _ _ _ _ _ _ us hl => match us, hl with | [_, _], _ => rfl) (no_kbs (by decide)) mk
theorem g_point_fault (mk : ∀ m, MkAll P w K mg base (CeK K) (3 + m) pcs.xs) : GoalAt P w K mg base (CeK K) 3 pcs (hdOf qsH) tab 12 (("point_fault" : Str), 2, 0) := by
  obtain ⟨fd, _, F⟩ := fn_at H 12 (d := dD "point_fault" (st 24) [])
  exact goal_df (d := ⟨4, b_point_fault, []⟩) F sc_point_fault rfl m_point_fault rfl rfl (glo_ok X G (fg_at H 12)) rfl (fun nd hnd => by obtain rfl : nd = 0 := Nat.le_zero.mp hnd; exact F.bindsN fun _ _ _ _ _ _ us hl => match us, hl with | [_, _], _ => rfl) (no_kbs (by decide)) mk
theorem g_need_plain_point (mk : ∀ m, MkAll P w K mg base (CeK K) (3 + m) pcs.xs) : GoalAt P w K mg base (CeK K) 3 pcs (hdOf qsH) tab 13 (("need_plain_point" : Str), 2, 0) := by
  obtain ⟨fd, _, F⟩ := fn_at H 13 (d := dD "need_plain_point" (st 25) [])
  exact goal_df (d := ⟨3, b_need_plain_point, []⟩) F sc_need_plain_point rfl m_need_plain_point rfl rfl (glo_ok X G (fg_at H 13)) rfl (fun nd hnd => by obtain rfl : nd = 0 := Nat.le_zero.mp hnd; exact F.bindsN fun _ _ _ _ _ _ us hl => match us, hl with | [_, _], _ => rfl) (no_kbs (by decide)) mk
theorem g_plain_value (mk : ∀ m, MkAll P w K mg base (CeK K) (3 + m) pcs.xs) : GoalAt P w K mg base (CeK K) 3 pcs (hdOf qsH) tab 14 (("plain_value" : Str), 2, 0) := by
  obtain ⟨fd, _, F⟩ := fn_at H 14 (d := dD "plain_value" (st 26) [])
  exact goal_df (d := ⟨4, b_plain_value, []⟩) F sc_plain_value rfl m_plain_value rfl rfl (glo_ok X G (fg_at H 14)) rfl (fun nd hnd => by obtain rfl : nd = 0 := Nat.le_zero.mp hnd; exact F.bindsN fun _ _ _ _ _ _ us hl => match us, hl with | [_, _], _ => rfl) (no_kbs (by decide)) mk
theorem g_holds_at (mk : ∀ m, MkAll P w K mg base (CeK K) (3 + m) pcs.xs) : GoalAt P w K mg base (CeK K) 3 pcs (hdOf qsH) tab 15 (("holds_at" : Str), 2, 0) := by
  obtain ⟨fd, _, F⟩ := fn_at H 15 (d := dD "holds_at" (st 27) [])
  exact goal_df (d := ⟨3, b_holds_at, []⟩) F sc_holds_at rfl m_holds_at rfl rfl (glo_ok X G (fg_at H 15)) rfl (fun nd hnd => by obtain rfl : nd = 0 := Nat.le_zero.mp hnd; exact F.bindsN fun _ _ _ _ _ _ us hl => match us, hl with | [_, _], _ => rfl) (no_kbs (by decide)) mk
theorem g_turned_numbers (mk : ∀ m, MkAll P w K mg base (CeK K) (3 + m) pcs.xs) : GoalAt P w K mg base (CeK K) 3 pcs (hdOf qsH) tab 16 (("turned_numbers" : Str), 1, 0) := by
  obtain ⟨fd, _, F⟩ := fn_at H 16 (d := dD "turned_numbers" (st 28) [])
  exact goal_df (d := ⟨2, b_turned_numbers, []⟩) F sc_turned_numbers rfl m_turned_numbers rfl rfl (glo_ok X G (fg_at H 16)) rfl (fun nd hnd => by obtain rfl : nd = 0 := Nat.le_zero.mp hnd; exact F.bindsN fun _ _ _ _ _ _ us hl => match us, hl with | [_], _ => rfl) (no_kbs (by decide)) mk
theorem g_lot_fault (mk : ∀ m, MkAll P w K mg base (CeK K) (3 + m) pcs.xs) : GoalAt P w K mg base (CeK K) 3 pcs (hdOf qsH) tab 17 (("lot_fault" : Str), 2, 0) := by
  obtain ⟨fd, _, F⟩ := fn_at H 17 (d := dD "lot_fault" (st 32) [])
  exact goal_df (d := ⟨4, b_lot_fault, []⟩) F sc_lot_fault rfl m_lot_fault rfl rfl (glo_ok X G (fg_at H 17)) rfl (fun nd hnd => by obtain rfl : nd = 0 := Nat.le_zero.mp hnd; exact F.bindsN fun _ _ _ _ _ _ us hl => match us, hl with | [_, _], _ => rfl) (no_kbs (by decide)) mk
theorem g_need_lot (mk : ∀ m, MkAll P w K mg base (CeK K) (3 + m) pcs.xs) : GoalAt P w K mg base (CeK K) 3 pcs (hdOf qsH) tab 18 (("need_lot" : Str), 1, 0) := by
  obtain ⟨fd, _, F⟩ := fn_at H 18 (d := dD "need_lot" (st 33) [])
  exact goal_df (d := ⟨2, b_need_lot, []⟩) F sc_need_lot rfl m_need_lot rfl rfl (glo_ok X G (fg_at H 18)) rfl (fun nd hnd => by obtain rfl : nd = 0 := Nat.le_zero.mp hnd; exact F.bindsN fun _ _ _ _ _ _ us hl => match us, hl with | [_], _ => rfl) (no_kbs (by decide)) mk
theorem g_need_mixed (mk : ∀ m, MkAll P w K mg base (CeK K) (3 + m) pcs.xs) : GoalAt P w K mg base (CeK K) 3 pcs (hdOf qsH) tab 19 (("need_mixed" : Str), 1, 0) := by
  obtain ⟨fd, _, F⟩ := fn_at H 19 (d := dD "need_mixed" (st 34) [])
  exact goal_df (d := ⟨2, b_need_mixed, []⟩) F sc_need_mixed rfl m_need_mixed rfl rfl (glo_ok X G (fg_at H 19)) rfl (fun nd hnd => by obtain rfl : nd = 0 := Nat.le_zero.mp hnd; exact F.bindsN fun _ _ _ _ _ _ us hl => match us, hl with | [_], _ => rfl) (no_kbs (by decide)) mk
theorem g_all_hold (mk : ∀ m, MkAll P w K mg base (CeK K) (3 + m) pcs.xs) : GoalAt P w K mg base (CeK K) 3 pcs (hdOf qsH) tab 20 (("all_hold" : Str), 2, 0) := by
  obtain ⟨fd, _, F⟩ := fn_at H 20 (d := dD "all_hold" (st 35) [])
  exact goal_df (d := ⟨3, b_all_hold, []⟩) F sc_all_hold rfl m_all_hold rfl rfl (glo_ok X G (fg_at H 20)) rfl (fun nd hnd => by obtain rfl : nd = 0 := Nat.le_zero.mp hnd; exact F.bindsN fun _ _ _ _ _ _ us hl => match us, hl with | [_, _], _ => rfl) (no_kbs (by decide)) mk
theorem g_is_inside (mk : ∀ m, MkAll P w K mg base (CeK K) (3 + m) pcs.xs) : GoalAt P w K mg base (CeK K) 3 pcs (hdOf qsH) tab 21 (("is_inside" : Str), 2, 0) := by
  obtain ⟨fd, _, F⟩ := fn_at H 21 (d := dD "is_inside" (st 36) [])
  exact goal_df (d := ⟨2, b_is_inside, []⟩) F sc_is_inside rfl m_is_inside rfl rfl (glo_ok X G (fg_at H 21)) rfl (fun nd hnd => by obtain rfl : nd = 0 := Nat.le_zero.mp hnd; exact F.bindsN fun _ _ _ _ _ _ us hl => match us, hl with | [_, _], _ => rfl) (no_kbs (by decide)) mk
theorem g_map_fault (mk : ∀ m, MkAll P w K mg base (CeK K) (3 + m) pcs.xs) : GoalAt P w K mg base (CeK K) 3 pcs (hdOf qsH) tab 22 (("map_fault" : Str), 2, 0) := by
  obtain ⟨fd, _, F⟩ := fn_at H 22 (d := dD "map_fault" (st 38) [])
  exact goal_df (d := ⟨4, b_map_fault, []⟩) F sc_map_fault rfl m_map_fault rfl rfl (glo_ok X G (fg_at H 22)) rfl (fun nd hnd => by obtain rfl : nd = 0 := Nat.le_zero.mp hnd; exact F.bindsN fun _ _ _ _ _ _ us hl => match us, hl with | [_, _], _ => rfl) (no_kbs (by decide)) mk
theorem g_need_map (mk : ∀ m, MkAll P w K mg base (CeK K) (3 + m) pcs.xs) : GoalAt P w K mg base (CeK K) 3 pcs (hdOf qsH) tab 23 (("need_map" : Str), 2, 0) := by
  obtain ⟨fd, _, F⟩ := fn_at H 23 (d := dD "need_map" (st 39) [])
  exact goal_df (d := ⟨3, b_need_map, []⟩) F sc_need_map rfl m_need_map rfl rfl (glo_ok X G (fg_at H 23)) rfl (fun nd hnd => by obtain rfl : nd = 0 := Nat.le_zero.mp hnd; exact F.bindsN fun _ _ _ _ _ _ us hl => match us, hl with | [_, _], _ => rfl) (no_kbs (by decide)) mk
theorem g_put_row (mk : ∀ m, MkAll P w K mg base (CeK K) (3 + m) pcs.xs) : GoalAt P w K mg base (CeK K) 3 pcs (hdOf qsH) tab 24 (("put_row" : Str), 2, 0) := by
  obtain ⟨fd, _, F⟩ := fn_at H 24 (d := dD "put_row" (st 40) [])
  exact goal_df (d := ⟨7, b_put_row, []⟩) F sc_put_row rfl m_put_row rfl rfl (glo_ok X G (fg_at H 24)) rfl (fun nd hnd => by obtain rfl : nd = 0 := Nat.le_zero.mp hnd; exact F.bindsN fun _ _ _ _ _ _ us hl => match us, hl with | [_, _], _ => rfl) (no_kbs (by decide)) mk
theorem g_plain_put (mk : ∀ m, MkAll P w K mg base (CeK K) (3 + m) pcs.xs) : GoalAt P w K mg base (CeK K) 3 pcs (hdOf qsH) tab 25 (("plain_put" : Str), 2, 0) := by
  obtain ⟨fd, _, F⟩ := fn_at H 25 (d := dD "plain_put" (st 41) [])
  exact goal_df (d := ⟨3, b_plain_put, []⟩) F sc_plain_put rfl m_plain_put rfl rfl (glo_ok X G (fg_at H 25)) rfl (fun nd hnd => by obtain rfl : nd = 0 := Nat.le_zero.mp hnd; exact F.bindsN fun _ _ _ _ _ _ us hl => match us, hl with | [_, _], _ => rfl) (no_kbs (by decide)) mk
theorem g_lot_put (mk : ∀ m, MkAll P w K mg base (CeK K) (3 + m) pcs.xs) : GoalAt P w K mg base (CeK K) 3 pcs (hdOf qsH) tab 26 (("lot_put" : Str), 2, 0) := by
  obtain ⟨fd, _, F⟩ := fn_at H 26 (d := dD "lot_put" (st 42) [])
  have hk : ∀ m ks perm, ((26 : Nat), m, ks, perm) ∈ pcs.kbs → ∀ (s : Shared) (us ws : List Value), K.In s.heap → us.length = m → ws.length = ks.length → BindsTo s fd ⟨us, ks.zip ws⟩ (([("lot" : Str), ("change" : Str)] : List Str).zip (perm.map fun j => (us ++ ws).getD j .none)) := by
    obtain ⟨oc, od, dV, kV, doc, pm, an, cdv, ct, osl, rfl, lk, hcd, hD, hK⟩ := F.ex
    rcases hD with ⟨_, rfl⟩ | ⟨z, _⟩
    rotate_left
    · exact absurd rfl z
    intro m ks perm hm s us ws hin h1 h2
    simp [pcs] at hm
    obtain ⟨rfl, rfl, rfl⟩ := hm
    match us, h1, ws, h2 with
    | [], _, [_, _], _ => exact .of_eq rfl
  exact goal_df (d := ⟨2, b_lot_put, []⟩) F sc_lot_put rfl m_lot_put rfl rfl (glo_ok X G (fg_at H 26)) rfl (fun nd hnd => by obtain rfl : nd = 0 := Nat.le_zero.mp hnd; exact F.bindsN fun _ _ _ _ _ _ us hl => match us, hl with | [_, _], _ => rfl) hk mk
theorem g_plain_image (mk : ∀ m, MkAll P w K mg base (CeK K) (3 + m) pcs.xs) : GoalAt P w K mg base (CeK K) 3 pcs (hdOf qsH) tab 27 (("plain_image" : Str), 2, 0) := by
  obtain ⟨fd, _, F⟩ := fn_at H 27 (d := dD "plain_image" (st 43) [])
  exact goal_df (d := ⟨4, b_plain_image, []⟩) F sc_plain_image rfl m_plain_image rfl rfl (glo_ok X G (fg_at H 27)) rfl (fun nd hnd => by obtain rfl : nd = 0 := Nat.le_zero.mp hnd; exact F.bindsN fun _ _ _ _ _ _ us hl => match us, hl with | [_, _], _ => rfl) (no_kbs (by decide)) mk
theorem g_map_image (mk : ∀ m, MkAll P w K mg base (CeK K) (3 + m) pcs.xs) : GoalAt P w K mg base (CeK K) 3 pcs (hdOf qsH) tab 28 (("map_image" : Str), 3, 0) := by
  obtain ⟨fd, _, F⟩ := fn_at H 28 (d := dD "map_image" (st 44) [])
  exact goal_df (d := ⟨3, b_map_image, []⟩) F sc_map_image rfl m_map_image rfl rfl (glo_ok X G (fg_at H 28)) rfl (fun nd hnd => by obtain rfl : nd = 0 := Nat.le_zero.mp hnd; exact F.bindsN fun _ _ _ _ _ _ us hl => match us, hl with | [_, _, _], _ => rfl) (no_kbs (by decide)) mk
theorem g_plain_shifted (mk : ∀ m, MkAll P w K mg base (CeK K) (3 + m) pcs.xs) : GoalAt P w K mg base (CeK K) 3 pcs (hdOf qsH) tab 29 (("plain_shifted" : Str), 2, 0) := by
  obtain ⟨fd, _, F⟩ := fn_at H 29 (d := dD "plain_shifted" (st 45) [])
  exact goal_df (d := ⟨6, b_plain_shifted, []⟩) F sc_plain_shifted rfl m_plain_shifted rfl rfl (glo_ok X G (fg_at H 29)) rfl (fun nd hnd => by obtain rfl : nd = 0 := Nat.le_zero.mp hnd; exact F.bindsN fun _ _ _ _ _ _ us hl => match us, hl with | [_, _], _ => rfl) (no_kbs (by decide)) mk
theorem g_lot_shifted (mk : ∀ m, MkAll P w K mg base (CeK K) (3 + m) pcs.xs) : GoalAt P w K mg base (CeK K) 3 pcs (hdOf qsH) tab 30 (("lot_shifted" : Str), 2, 0) := by
  obtain ⟨fd, _, F⟩ := fn_at H 30 (d := dD "lot_shifted" (st 46) [])
  have hk : ∀ m ks perm, ((30 : Nat), m, ks, perm) ∈ pcs.kbs → ∀ (s : Shared) (us ws : List Value), K.In s.heap → us.length = m → ws.length = ks.length → BindsTo s fd ⟨us, ks.zip ws⟩ (([("lot" : Str), ("point" : Str)] : List Str).zip (perm.map fun j => (us ++ ws).getD j .none)) := by
    obtain ⟨oc, od, dV, kV, doc, pm, an, cdv, ct, osl, rfl, lk, hcd, hD, hK⟩ := F.ex
    rcases hD with ⟨_, rfl⟩ | ⟨z, _⟩
    rotate_left
    · exact absurd rfl z
    intro m ks perm hm s us ws hin h1 h2
    simp [pcs] at hm
    obtain ⟨rfl, rfl, rfl⟩ := hm
    match us, h1, ws, h2 with
    | [], _, [_, _], _ => exact .of_eq rfl
  exact goal_df (d := ⟨2, b_lot_shifted, []⟩) F sc_lot_shifted rfl m_lot_shifted rfl rfl (glo_ok X G (fg_at H 30)) rfl (fun nd hnd => by obtain rfl : nd = 0 := Nat.le_zero.mp hnd; exact F.bindsN fun _ _ _ _ _ _ us hl => match us, hl with | [_, _], _ => rfl) hk mk
theorem g_plain_times (mk : ∀ m, MkAll P w K mg base (CeK K) (3 + m) pcs.xs) : GoalAt P w K mg base (CeK K) 3 pcs (hdOf qsH) tab 31 (("plain_times" : Str), 2, 0) := by
  obtain ⟨fd, _, F⟩ := fn_at H 31 (d := dD "plain_times" (st 47) [])
  exact goal_df (d := ⟨5, b_plain_times, []⟩) F sc_plain_times rfl m_plain_times rfl rfl (glo_ok X G (fg_at H 31)) rfl (fun nd hnd => by obtain rfl : nd = 0 := Nat.le_zero.mp hnd; exact F.bindsN fun _ _ _ _ _ _ us hl => match us, hl with | [_, _], _ => rfl) (no_kbs (by decide)) mk
theorem g_lot_times (mk : ∀ m, MkAll P w K mg base (CeK K) (3 + m) pcs.xs) : GoalAt P w K mg base (CeK K) 3 pcs (hdOf qsH) tab 32 (("lot_times" : Str), 2, 0) := by
  obtain ⟨fd, _, F⟩ := fn_at H 32 (d := dD "lot_times" (st 48) [])
  have hk : ∀ m ks perm, ((32 : Nat), m, ks, perm) ∈ pcs.kbs → ∀ (s : Shared) (us ws : List Value), K.In s.heap → us.length = m → ws.length = ks.length → BindsTo s fd ⟨us, ks.zip ws⟩ (([("lot" : Str), ("fraction" : Str)] : List Str).zip (perm.map fun j => (us ++ ws).getD j .none)) := by
    obtain ⟨oc, od, dV, kV, doc, pm, an, cdv, ct, osl, rfl, lk, hcd, hD, hK⟩ := F.ex
    rcases hD with ⟨_, rfl⟩ | ⟨z, _⟩
    rotate_left
    · exact absurd rfl z
    intro m ks perm hm s us ws hin h1 h2
    simp [pcs] at hm
    obtain ⟨rfl, rfl, rfl⟩ := hm
    match us, h1, ws, h2 with
    | [], _, [_, _], _ => exact .of_eq rfl
  exact goal_df (d := ⟨2, b_lot_times, []⟩) F sc_lot_times rfl m_lot_times rfl rfl (glo_ok X G (fg_at H 32)) rfl (fun nd hnd => by obtain rfl : nd = 0 := Nat.le_zero.mp hnd; exact F.bindsN fun _ _ _ _ _ _ us hl => match us, hl with | [_, _], _ => rfl) hk mk
theorem g_plain_lot_turned (mk : ∀ m, MkAll P w K mg base (CeK K) (3 + m) pcs.xs) : GoalAt P w K mg base (CeK K) 3 pcs (hdOf qsH) tab 33 (("plain_lot_turned" : Str), 1, 0) := by
  obtain ⟨fd, _, F⟩ := fn_at H 33 (d := dD "plain_lot_turned" (st 49) [])
  exact goal_df (d := ⟨4, b_plain_lot_turned, []⟩) F sc_plain_lot_turned rfl m_plain_lot_turned rfl rfl (glo_ok X G (fg_at H 33)) rfl (fun nd hnd => by obtain rfl : nd = 0 := Nat.le_zero.mp hnd; exact F.bindsN fun _ _ _ _ _ _ us hl => match us, hl with | [_], _ => rfl) (no_kbs (by decide)) mk
theorem g_lot_turned (mk : ∀ m, MkAll P w K mg base (CeK K) (3 + m) pcs.xs) : GoalAt P w K mg base (CeK K) 3 pcs (hdOf qsH) tab 34 (("lot_turned" : Str), 1, 0) := by
  obtain ⟨fd, _, F⟩ := fn_at H 34 (d := dD "lot_turned" (st 50) [])
  have hk : ∀ m ks perm, ((34 : Nat), m, ks, perm) ∈ pcs.kbs → ∀ (s : Shared) (us ws : List Value), K.In s.heap → us.length = m → ws.length = ks.length → BindsTo s fd ⟨us, ks.zip ws⟩ (([("lot" : Str)] : List Str).zip (perm.map fun j => (us ++ ws).getD j .none)) := by
    obtain ⟨oc, od, dV, kV, doc, pm, an, cdv, ct, osl, rfl, lk, hcd, hD, hK⟩ := F.ex
    rcases hD with ⟨_, rfl⟩ | ⟨z, _⟩
    rotate_left
    · exact absurd rfl z
    intro m ks perm hm s us ws hin h1 h2
    simp [pcs] at hm
    obtain ⟨rfl, rfl, rfl⟩ := hm
    match us, h1, ws, h2 with
    | [], _, [_], _ => exact .of_eq rfl
  exact goal_df (d := ⟨1, b_lot_turned, []⟩) F sc_lot_turned rfl m_lot_turned rfl rfl (glo_ok X G (fg_at H 34)) rfl (fun nd hnd => by obtain rfl : nd = 0 := Nat.le_zero.mp hnd; exact F.bindsN fun _ _ _ _ _ _ us hl => match us, hl with | [_], _ => rfl) hk mk
theorem g__law_mixed (mk : ∀ m, MkAll P w K mg base (CeK K) (3 + m) pcs.xs) : GoalAt P w K mg base (CeK K) 3 pcs (hdOf qsH) tab 35 (("_law_mixed" : Str), 2, 0) := by
  obtain ⟨fd, _, F⟩ := fn_at H 35 (d := dD "_law_mixed" (st 52) [])
  exact goal_df (d := ⟨3, b__law_mixed, []⟩) F sc__law_mixed rfl m__law_mixed rfl rfl (glo_ok X G (fg_at H 35)) rfl (fun nd hnd => by obtain rfl : nd = 0 := Nat.le_zero.mp hnd; exact F.bindsN fun _ _ _ _ _ _ us hl => match us, hl with | [_, _], _ => rfl) (no_kbs (by decide)) mk
theorem g__law_folded (mk : ∀ m, MkAll P w K mg base (CeK K) (3 + m) pcs.xs) : GoalAt P w K mg base (CeK K) 3 pcs (hdOf qsH) tab 36 (("_law_folded" : Str), 1, 0) := by
  obtain ⟨fd, _, F⟩ := fn_at H 36 (d := dD "_law_folded" (st 53) [])
  exact goal_df (d := ⟨4, b__law_folded, []⟩) F sc__law_folded rfl m__law_folded rfl rfl (glo_ok X G (fg_at H 36)) rfl (fun nd hnd => by obtain rfl : nd = 0 := Nat.le_zero.mp hnd; exact F.bindsN fun _ _ _ _ _ _ us hl => match us, hl with | [_], _ => rfl) (no_kbs (by decide)) mk
theorem g__law_of (mk : ∀ m, MkAll P w K mg base (CeK K) (3 + m) pcs.xs) : GoalAt P w K mg base (CeK K) 3 pcs (hdOf qsH) tab 39 (("_law_of" : Str), 2, 0) := by
  obtain ⟨fd, _, F⟩ := fn_at H 39 (d := dD "_law_of" (st 56) [])
  exact goal_df (d := ⟨2, b__law_of, []⟩) F sc__law_of rfl m__law_of rfl rfl (glo_ok X G (fg_at H 39)) rfl (fun nd hnd => by obtain rfl : nd = 0 := Nat.le_zero.mp hnd; exact F.bindsN fun _ _ _ _ _ _ us hl => match us, hl with | [_, _], _ => rfl) (no_kbs (by decide)) mk
theorem g__law_like (mk : ∀ m, MkAll P w K mg base (CeK K) (3 + m) pcs.xs) : GoalAt P w K mg base (CeK K) 3 pcs (hdOf qsH) tab 40 (("_law_like" : Str), 2, 0) := by
  obtain ⟨fd, _, F⟩ := fn_at H 40 (d := dD "_law_like" (st 57) [])
  exact goal_df (d := ⟨3, b__law_like, []⟩) F sc__law_like rfl m__law_like rfl rfl (glo_ok X G (fg_at H 40)) rfl (fun nd hnd => by obtain rfl : nd = 0 := Nat.le_zero.mp hnd; exact F.bindsN fun _ _ _ _ _ _ us hl => match us, hl with | [_, _], _ => rfl) (no_kbs (by decide)) mk
theorem g__law_common (mk : ∀ m, MkAll P w K mg base (CeK K) (3 + m) pcs.xs) : GoalAt P w K mg base (CeK K) 3 pcs (hdOf qsH) tab 41 (("_law_common" : Str), 2, 0) := by
  obtain ⟨fd, _, F⟩ := fn_at H 41 (d := dD "_law_common" (st 58) [])
  exact goal_df (d := ⟨2, b__law_common, []⟩) F sc__law_common rfl m__law_common rfl rfl (glo_ok X G (fg_at H 41)) rfl (fun nd hnd => by obtain rfl : nd = 0 := Nat.le_zero.mp hnd; exact F.bindsN fun _ _ _ _ _ _ us hl => match us, hl with | [_, _], _ => rfl) (no_kbs (by decide)) mk
theorem g__law_ratio (mk : ∀ m, MkAll P w K mg base (CeK K) (3 + m) pcs.xs) : GoalAt P w K mg base (CeK K) 3 pcs (hdOf qsH) tab 42 (("_law_ratio" : Str), 2, 0) := by
  obtain ⟨fd, _, F⟩ := fn_at H 42 (d := dD "_law_ratio" (st 59) [])
  exact goal_df (d := ⟨3, b__law_ratio, []⟩) F sc__law_ratio rfl m__law_ratio rfl rfl (glo_ok X G (fg_at H 42)) rfl (fun nd hnd => by obtain rfl : nd = 0 := Nat.le_zero.mp hnd; exact F.bindsN fun _ _ _ _ _ _ us hl => match us, hl with | [_, _], _ => rfl) (no_kbs (by decide)) mk
theorem g__law_sum (mk : ∀ m, MkAll P w K mg base (CeK K) (3 + m) pcs.xs) : GoalAt P w K mg base (CeK K) 3 pcs (hdOf qsH) tab 43 (("_law_sum" : Str), 1, 0) := by
  obtain ⟨fd, _, F⟩ := fn_at H 43 (d := dD "_law_sum" (st 60) [])
  exact goal_df (d := ⟨4, b__law_sum, []⟩) F sc__law_sum rfl m__law_sum rfl rfl (glo_ok X G (fg_at H 43)) rfl (fun nd hnd => by obtain rfl : nd = 0 := Nat.le_zero.mp hnd; exact F.bindsN fun _ _ _ _ _ _ us hl => match us, hl with | [_], _ => rfl) (no_kbs (by decide)) mk
theorem g__law_times (mk : ∀ m, MkAll P w K mg base (CeK K) (3 + m) pcs.xs) : GoalAt P w K mg base (CeK K) 3 pcs (hdOf qsH) tab 44 (("_law_times" : Str), 1, 0) := by
  obtain ⟨fd, _, F⟩ := fn_at H 44 (d := dD "_law_times" (st 61) [])
  exact goal_df (d := ⟨4, b__law_times, []⟩) F sc__law_times rfl m__law_times rfl rfl (glo_ok X G (fg_at H 44)) rfl (fun nd hnd => by obtain rfl : nd = 0 := Nat.le_zero.mp hnd; exact F.bindsN fun _ _ _ _ _ _ us hl => match us, hl with | [_], _ => rfl) (no_kbs (by decide)) mk
theorem g__law_minus (mk : ∀ m, MkAll P w K mg base (CeK K) (3 + m) pcs.xs) : GoalAt P w K mg base (CeK K) 3 pcs (hdOf qsH) tab 45 (("_law_minus" : Str), 2, 0) := by
  obtain ⟨fd, _, F⟩ := fn_at H 45 (d := dD "_law_minus" (st 62) [])
  exact goal_df (d := ⟨2, b__law_minus, []⟩) F sc__law_minus rfl m__law_minus rfl rfl (glo_ok X G (fg_at H 45)) rfl (fun nd hnd => by obtain rfl : nd = 0 := Nat.le_zero.mp hnd; exact F.bindsN fun _ _ _ _ _ _ us hl => match us, hl with | [_, _], _ => rfl) (no_kbs (by decide)) mk
theorem g__law_odd_fraction (mk : ∀ m, MkAll P w K mg base (CeK K) (3 + m) pcs.xs) : GoalAt P w K mg base (CeK K) 3 pcs (hdOf qsH) tab 46 (("_law_odd_fraction" : Str), 1, 0) := by
  obtain ⟨fd, _, F⟩ := fn_at H 46 (d := dD "_law_odd_fraction" (st 63) [])
  exact goal_df (d := ⟨1, b__law_odd_fraction, []⟩) F sc__law_odd_fraction rfl m__law_odd_fraction rfl rfl (glo_ok X G (fg_at H 46)) rfl (fun nd hnd => by obtain rfl : nd = 0 := Nat.le_zero.mp hnd; exact F.bindsN fun _ _ _ _ _ _ us hl => match us, hl with | [_], _ => rfl) (no_kbs (by decide)) mk
theorem g__law_small (mk : ∀ m, MkAll P w K mg base (CeK K) (3 + m) pcs.xs) : GoalAt P w K mg base (CeK K) 3 pcs (hdOf qsH) tab 47 (("_law_small" : Str), 1, 0) := by
  obtain ⟨fd, _, F⟩ := fn_at H 47 (d := dD "_law_small" (st 64) [])
  exact goal_df (d := ⟨1, b__law_small, []⟩) F sc__law_small rfl m__law_small rfl rfl (glo_ok X G (fg_at H 47)) rfl (fun nd hnd => by obtain rfl : nd = 0 := Nat.le_zero.mp hnd; exact F.bindsN fun _ _ _ _ _ _ us hl => match us, hl with | [_], _ => rfl) (no_kbs (by decide)) mk
theorem g__law_whole_row (mk : ∀ m, MkAll P w K mg base (CeK K) (3 + m) pcs.xs) : GoalAt P w K mg base (CeK K) 3 pcs (hdOf qsH) tab 48 (("_law_whole_row" : Str), 2, 0) := by
  obtain ⟨fd, _, F⟩ := fn_at H 48 (d := dD "_law_whole_row" (st 65) [])
  exact goal_df (d := ⟨3, b__law_whole_row, []⟩) F sc__law_whole_row rfl m__law_whole_row rfl rfl (glo_ok X G (fg_at H 48)) rfl (fun nd hnd => by obtain rfl : nd = 0 := Nat.le_zero.mp hnd; exact F.bindsN fun _ _ _ _ _ _ us hl => match us, hl with | [_, _], _ => rfl) (no_kbs (by decide)) mk
theorem g__law_point (mk : ∀ m, MkAll P w K mg base (CeK K) (3 + m) pcs.xs) : GoalAt P w K mg base (CeK K) 3 pcs (hdOf qsH) tab 49 (("_law_point" : Str), 2, 0) := by
  obtain ⟨fd, _, F⟩ := fn_at H 49 (d := dD "_law_point" (st 66) [])
  exact goal_df (d := ⟨3, b__law_point, []⟩) F sc__law_point rfl m__law_point rfl rfl (glo_ok X G (fg_at H 49)) rfl (fun nd hnd => by obtain rfl : nd = 0 := Nat.le_zero.mp hnd; exact F.bindsN fun _ _ _ _ _ _ us hl => match us, hl with | [_, _], _ => rfl) (no_kbs (by decide)) mk
theorem g__law_value (mk : ∀ m, MkAll P w K mg base (CeK K) (3 + m) pcs.xs) : GoalAt P w K mg base (CeK K) 3 pcs (hdOf qsH) tab 50 (("_law_value" : Str), 2, 0) := by
  obtain ⟨fd, _, F⟩ := fn_at H 50 (d := dD "_law_value" (st 67) [])
  exact goal_df (d := ⟨4, b__law_value, []⟩) F sc__law_value rfl m__law_value rfl rfl (glo_ok X G (fg_at H 50)) rfl (fun nd hnd => by obtain rfl : nd = 0 := Nat.le_zero.mp hnd; exact F.bindsN fun _ _ _ _ _ _ us hl => match us, hl with | [_, _], _ => rfl) (no_kbs (by decide)) mk
theorem g__law_row (mk : ∀ m, MkAll P w K mg base (CeK K) (3 + m) pcs.xs) : GoalAt P w K mg base (CeK K) 3 pcs (hdOf qsH) tab 51 (("_law_row" : Str), 2, 0) := by
  obtain ⟨fd, _, F⟩ := fn_at H 51 (d := dD "_law_row" (st 68) [])
  exact goal_df (d := ⟨2, b__law_row, []⟩) F sc__law_row rfl m__law_row rfl rfl (glo_ok X G (fg_at H 51)) rfl (fun nd hnd => by obtain rfl : nd = 0 := Nat.le_zero.mp hnd; exact F.bindsN fun _ _ _ _ _ _ us hl => match us, hl with | [_, _], _ => rfl) (no_kbs (by decide)) mk
theorem g__law_lot (mk : ∀ m, MkAll P w K mg base (CeK K) (3 + m) pcs.xs) : GoalAt P w K mg base (CeK K) 3 pcs (hdOf qsH) tab 52 (("_law_lot" : Str), 3, 0) := by
  obtain ⟨fd, _, F⟩ := fn_at H 52 (d := dD "_law_lot" (st 69) [])
  exact goal_df (d := ⟨4, b__law_lot, []⟩) F sc__law_lot rfl m__law_lot rfl rfl (glo_ok X G (fg_at H 52)) rfl (fun nd hnd => by obtain rfl : nd = 0 := Nat.le_zero.mp hnd; exact F.bindsN fun _ _ _ _ _ _ us hl => match us, hl with | [_, _, _], _ => rfl) (no_kbs (by decide)) mk
theorem g__law_map (mk : ∀ m, MkAll P w K mg base (CeK K) (3 + m) pcs.xs) : GoalAt P w K mg base (CeK K) 3 pcs (hdOf qsH) tab 54 (("_law_map" : Str), 3, 0) := by
  obtain ⟨fd, _, F⟩ := fn_at H 54 (d := dD "_law_map" (st 71) [])
  exact goal_df (d := ⟨4, b__law_map, []⟩) F sc__law_map rfl m__law_map rfl rfl (glo_ok X G (fg_at H 54)) rfl (fun nd hnd => by obtain rfl : nd = 0 := Nat.le_zero.mp hnd; exact F.bindsN fun _ _ _ _ _ _ us hl => match us, hl with | [_, _, _], _ => rfl) (no_kbs (by decide)) mk
theorem g__law_image (mk : ∀ m, MkAll P w K mg base (CeK K) (3 + m) pcs.xs) : GoalAt P w K mg base (CeK K) 3 pcs (hdOf qsH) tab 55 (("_law_image" : Str), 2, 0) := by
  obtain ⟨fd, _, F⟩ := fn_at H 55 (d := dD "_law_image" (st 72) [])
  exact goal_df (d := ⟨4, b__law_image, []⟩) F sc__law_image rfl m__law_image rfl rfl (glo_ok X G (fg_at H 55)) rfl (fun nd hnd => by obtain rfl : nd = 0 := Nat.le_zero.mp hnd; exact F.bindsN fun _ _ _ _ _ _ us hl => match us, hl with | [_, _], _ => rfl) (no_kbs (by decide)) mk
theorem g__law_put (mk : ∀ m, MkAll P w K mg base (CeK K) (3 + m) pcs.xs) : GoalAt P w K mg base (CeK K) 3 pcs (hdOf qsH) tab 56 (("_law_put" : Str), 2, 0) := by
  obtain ⟨fd, _, F⟩ := fn_at H 56 (d := dD "_law_put" (st 73) [])
  exact goal_df (d := ⟨11, b__law_put, []⟩) F sc__law_put rfl m__law_put rfl rfl (glo_ok X G (fg_at H 56)) rfl (fun nd hnd => by obtain rfl : nd = 0 := Nat.le_zero.mp hnd; exact F.bindsN fun _ _ _ _ _ _ us hl => match us, hl with | [_, _], _ => rfl) (no_kbs (by decide)) mk
theorem g__law_behind (mk : ∀ m, MkAll P w K mg base (CeK K) (3 + m) pcs.xs) : GoalAt P w K mg base (CeK K) 3 pcs (hdOf qsH) tab 57 (("_law_behind" : Str), 2, 0) := by
  obtain ⟨fd, _, F⟩ := fn_at H 57 (d := dD "_law_behind" (st 74) [])
  exact goal_df (d := ⟨9, b__law_behind, []⟩) F sc__law_behind rfl m__law_behind rfl rfl (glo_ok X G (fg_at H 57)) rfl (fun nd hnd => by obtain rfl : nd = 0 := Nat.le_zero.mp hnd; exact F.bindsN fun _ _ _ _ _ _ us hl => match us, hl with | [_, _], _ => rfl) (no_kbs (by decide)) mk
theorem g_no {f : Nat} (ht : tab f = .pr fun _ _ => .no) (hk : (pcs.kbs.all fun q => decide (q.1 ≠ f)) = true) : GoalAt P w K mg base (CeK K) 3 pcs (hdOf qsH) tab f (("is_whole" : Str), 3, 2) := by
  obtain ⟨fd, _, F⟩ := fn_at H 0 (d := dD "is_whole" (st 8) [.non, .non])
  exact goal_no (ps := [("value" : Str), ("least" : Str), ("most" : Str)]) (fd := fd) (glo_ok X G (fg_at H 0)) F.kp rfl (b_b_is_whole X G H F) ht hk
end
end Pv

namespace Pv
open PySem PySem.Spec PyProof.Rows L2 He LamX
section
variable {P : Program} {w : World} {K : PySem.W.Frag} {mg : Str → Option Value} {base h : Heap} (X : K.In h) (G : h.Ns mainGlobals mg) (H : HdK P.main.file K)
include X G H
theorem f_no : ∀ x, pcs.nm.no.contains x = true → mg x = none := fun x hx => free_ok X G (free_at H (.inl hx))
theorem f_gcd : mg ("gcd" : Str) = some (.builtin "math.gcd") := PySem.W.mg_of X G (eqO_ok H.kg)
theorem f_gl : ∀ x d, (x, d) ∈ pcs.gls → ∃ v u, mg x = some u ∧ RelV v u ∧ Rp K (fun _ => none) v d := by
  intro x d hm
  simp only [pcs, List.mem_cons, List.not_mem_nil, or_false, Prod.mk.injEq] at hm
  rcases hm with ⟨rfl, rfl⟩ | ⟨rfl, rfl⟩ | ⟨rfl, rfl⟩ | ⟨rfl, rfl⟩
  · obtain ⟨t, e⟩ := int_ok X G H.g_MOST_UNKNOWNS
    exact ⟨.int 5, _, e, ⟨t, rfl⟩, .int _⟩
  · exact ⟨.ref (ga K "KINDS"), _, glo_ok X G H.g_KINDS.2, rfl, .tup (tupB_ok H.g_KINDS.1 _) (.cons (.str _) (.cons (.str _) (.cons (.str _) .nil)))⟩
  · obtain ⟨t, e⟩ := int_ok X G H.g_MOST_ROWS
    exact ⟨.int 60, _, e, ⟨t, rfl⟩, .int _⟩
  · exact ⟨.ref (ga K "CLOSED"), _, glo_ok X G H.g_CLOSED.2, rfl, .tup (tupB_ok H.g_CLOSED.1 _) (.cons (.str _) (.cons (.str _) .nil))⟩
theorem f_heard : HrOk K mg (CeK K) "_law_heard" qsH (ga K "_law_heard") := by
  obtain ⟨fd, _, F⟩ := fn_at H 53 (d := dD "_law_heard" (st 70) [])
  have mem : ∀ q ∈ qsH, mg q.1 = some (.ref (ga K q.1)) ∧ ga K q.1 = (CeK K).cls q.2.1 ∧ (CeK K).att q.2.1 = q.2.2.2 := by
    intro q hq
    simp only [qsH, List.mem_cons, List.not_mem_nil, or_false] at hq
    rcases hq with rfl | rfl | rfl | rfl
    · exact ⟨glo_ok X G (fg_at H 61), rfl, rfl⟩
    · exact ⟨glo_ok X G (fg_at H 64), rfl, rfl⟩
    · exact ⟨glo_ok X G (fg_at H 62), rfl, rfl⟩
    · exact ⟨glo_ok X G (fg_at H 63), rfl, rfl⟩
  refine ⟨glo_ok X G (fg_at H 53), F.kp, ⟨fun q hq => ?_, fun q hq => (mem q hq).2.2, fun q hq => ?_, fun q hq r hr => ?_⟩, "call", "told", "e", _, _, _, _, fd, F, ?_, ?_, F.bindsN fun _ _ _ _ _ _ us hl => match us, hl with | [_], _ => rfl⟩
  · obtain ⟨h1, h2, _⟩ := mem q hq
    rw [← h2]; exact h1
  · have z := List.all_eq_true.mp H.kx q hq
    obtain ⟨z1, z2⟩ := ba z
    rw [← (mem q hq).2.1]
    exact ⟨xfB_ok z1, eqO_ok z2⟩
  · have z := List.all_eq_true.mp (List.all_eq_true.mp H.km q hq) r hr
    rw [← (mem q hq).2.1, ← (mem r hr).2.1]
    exact of_decide_eq_true z
  · exact ⟨⟨rfl, rfl, rfl, by decide +kernel, rfl, by decide +kernel, by decide +kernel⟩, by decide +kernel, by decide +kernel, by decide +kernel, by decide +kernel, by decide +kernel, by decide +kernel, by decide +kernel⟩
  · decide +kernel
theorem f_pfM {lv : Nat} {cf : Nat → List Sl → Pv.G → CR} : Pf pcM P w K mg base (CeK K) lv cf :=
  ⟨f_no X G H, fun _ => f_gcd X G H, fun x d hm => (by simp [pcM] at hm), fun f x n k e => (by simp [pcM] at e)⟩
theorem mk_no {lv : Nat} : MkAll P w K mg base (CeK K) lv pcM.xs := fun X' _ _ _ _ _ _ _ y c hm => (by simp [pcM] at hm)
theorem f_mixed : ∃ fd, FnOk P w K mg base (L2.CX P w) 1 (ga K "_law_mixed") fd ["cell", "n"] (spF K (CeK K) mixC) ∧ Binds K fd ["cell", "n"] [] ∧ PySem.W.keepIn K (.ref (ga K "_law_mixed")) = true := by
  obtain ⟨fd, _, F⟩ := fn_at H 35 (d := dD "_law_mixed" (st 52) [])
  refine ⟨fd, ?_, F.bindsN fun _ _ _ _ _ _ us hl => match us, hl with | [_, _], _ => rfl, F.kp⟩
  have z := df_ok (w := w) (base := base) (lv := 0) (cf := noCf) (hl := noHl) (d := ⟨3, b__law_mixed, []⟩) F sc__law_mixed rfl mM_mixed rfl (f_pfM X G H) (mk_no X G H)
  refine z.imp fun vs Hh Q E q => spF_imp (fun xs g hx => ?_) vs Hh Q E q
  exact mix_eval xs g hx
theorem f_draw : ∃ fd, FnOk P w K mg base (L2.CX P w) 2 (ga K "_law_draw") fd ["m", "limit"] (spF K (CeK K) fun xs g => if xs.length = 2 then drawP xs g else .no) ∧ Binds K fd ["m", "limit"] [] ∧ PySem.W.keepIn K (.ref (ga K "_law_draw")) = true := by
  obtain ⟨fm, M, bM, kM⟩ := f_mixed (P := P) (w := w) (base := base) X G H
  obtain ⟨fd, _, F⟩ := fn_at H 37 (d := dD "_law_draw" (st 54) [])
  exact ⟨fd, ok_draw F (f_no X G H _ (by decide +kernel)) (f_no X G H _ (by decide +kernel)) (glo_ok X G (fg_at H 35)) kM M bM, F.bindsN fun _ _ _ _ _ _ us hl => match us, hl with | [_, _], _ => rfl, F.kp⟩
theorem g__law_maps_right (mk : ∀ m, MkAll P w K mg base (CeK K) (3 + m) pcs.xs) (TB : TabB base mg (cT K ("_law_maps_right", none)).1 (cT K ("_law_maps_right", none)).2) : GoalAt P w K mg base (CeK K) 3 pcs (hdOf qsH) tab 58 (("_law_maps_right" : Str), 2, 0) := by
  obtain ⟨fd, C, F⟩ := fn_at H 58 (d := dD "_law_maps_right" (st 75) [])
  refine goal_L (d := ⟨14, b__law_maps_right, l__law_maps_right⟩) C F.kp sc__law_maps_right rfl m__law_maps_right rfl rfl (glo_ok X G (fg_at H 58)) rfl (fun nd hnd => by obtain rfl : nd = 0 := Nat.le_zero.mp hnd; exact F.bindsN fun _ _ _ _ _ _ us hl => match us, hl with | [_, _], _ => rfl) (by decide) (by decide) rfl (f_heard X G H) mk TB ?_ ?_
  · simp only [CeK, List.mem_cons, List.not_mem_nil, or_false]; exact .inl rfl
  · intro p hp e
    simp only [CeK, List.mem_cons, List.not_mem_nil, or_false] at hp
    rcases hp with rfl | rfl
    · rfl
    · exact absurd e (ne_of_beq_false H.ln_1_0)
theorem g__law_moves_right (mk : ∀ m, MkAll P w K mg base (CeK K) (3 + m) pcs.xs) (TB : TabB base mg (cT K ("_law_moves_right", none)).1 (cT K ("_law_moves_right", none)).2) : GoalAt P w K mg base (CeK K) 3 pcs (hdOf qsH) tab 59 (("_law_moves_right" : Str), 2, 0) := by
  obtain ⟨fd, C, F⟩ := fn_at H 59 (d := dD "_law_moves_right" (st 76) [])
  refine goal_L (d := ⟨20, b__law_moves_right, l__law_moves_right⟩) C F.kp sc__law_moves_right rfl m__law_moves_right rfl rfl (glo_ok X G (fg_at H 59)) rfl (fun nd hnd => by obtain rfl : nd = 0 := Nat.le_zero.mp hnd; exact F.bindsN fun _ _ _ _ _ _ us hl => match us, hl with | [_, _], _ => rfl) (by decide) (by decide) rfl (f_heard X G H) mk TB ?_ ?_
  · simp only [CeK, List.mem_cons, List.not_mem_nil, or_false]; exact .inr rfl
  · intro p hp e
    simp only [CeK, List.mem_cons, List.not_mem_nil, or_false] at hp
    rcases hp with rfl | rfl
    · exact absurd e (ne_of_beq_false H.ln_0_1)
    · rfl
theorem f_pf (top : (P.main.scope.names.lookup ("super" : Str)).isSome = false) (TB0 : TabB base mg (cT K ("_law_maps_right", none)).1 (cT K ("_law_maps_right", none)).2) (TB1 : TabB base mg (cT K ("_law_moves_right", none)).1 (cT K ("_law_moves_right", none)).2) : ∀ m, Pf pcs P w K mg base (CeK K) (3 + m) (callF (hdOf qsH) tab m) := by
  have mk := mk_all (P := P) (w := w) (base := base) X G H top
  obtain ⟨fd, D, bD, kD⟩ := f_draw (P := P) (w := w) (base := base) X G H
  exact pf_all2 (f_no X G H) (fun _ => f_gcd X G H) (f_gl X G H) ⟨g_is_whole X G H mk,
    g_is_row X G H mk,
    g_is_fraction X G H mk,
    g_need_fraction X G H mk,
    g_ratio X G H mk,
    g_ratio_plus X G H mk,
    g_ratio_minus X G H mk,
    g_ratio_times X G H mk,
    g_ratio_less X G H mk,
    g_ratio_total X G H mk,
    g_are_fractions X G H mk,
    g_row_fault X G H mk,
    g_point_fault X G H mk,
    g_need_plain_point X G H mk,
    g_plain_value X G H mk,
    g_holds_at X G H mk,
    g_turned_numbers X G H mk,
    g_lot_fault X G H mk,
    g_need_lot X G H mk,
    g_need_mixed X G H mk,
    g_all_hold X G H mk,
    g_is_inside X G H mk,
    g_map_fault X G H mk,
    g_need_map X G H mk,
    g_put_row X G H mk,
    g_plain_put X G H mk,
    g_lot_put X G H mk,
    g_plain_image X G H mk,
    g_map_image X G H mk,
    g_plain_shifted X G H mk,
    g_lot_shifted X G H mk,
    g_plain_times X G H mk,
    g_lot_times X G H mk,
    g_plain_lot_turned X G H mk,
    g_lot_turned X G H mk,
    g__law_mixed X G H mk,
    g__law_folded X G H mk,
    goal_pr (glo_ok X G (fg_at H 37)) kD rfl (fun nd hnd => by obtain rfl : nd = 0 := Nat.le_zero.mp hnd; exact bD) rfl (by decide) D (by decide),
    g_no X G H rfl (by decide),
    g__law_of X G H mk,
    g__law_like X G H mk,
    g__law_common X G H mk,
    g__law_ratio X G H mk,
    g__law_sum X G H mk,
    g__law_times X G H mk,
    g__law_minus X G H mk,
    g__law_odd_fraction X G H mk,
    g__law_small X G H mk,
    g__law_whole_row X G H mk,
    g__law_point X G H mk,
    g__law_value X G H mk,
    g__law_row X G H mk,
    g__law_lot X G H mk,
    g_no X G H rfl (by decide),
    g__law_map X G H mk,
    g__law_image X G H mk,
    g__law_put X G H mk,
    g__law_behind X G H mk,
    g__law_maps_right X G H mk TB0,
    g__law_moves_right X G H mk TB1,
    g_no X G H rfl (by decide), True.intro⟩
def FFold : List Sl → Pv.G → Option (List D × Pv.G) := preOwn noCf noHl (b__law_folded.take 3) 1 n__law_folded.length 1
theorem f_begun : ∃ fd, FnOk P w K mg base (L2.CX P w) 2 (ga K "_law_begun") fd ["script"] (spBeg K (CeK K) FFold) ∧ Binds K fd ["script"] [] ∧ PySem.W.keepIn K (.ref (ga K "_law_begun")) = true := by
  obtain ⟨fl, _, L⟩ := fn_at H 36 (d := dD "_law_folded" (st 53) [])
  obtain ⟨fd, _, F⟩ := fn_at H 38 (d := dD "_law_begun" (st 55) [])
  have L2 : FunD K "_law_folded" "_law_folded" (defArgs (st 53)) ((defBody (st 53)).take 3 ++ [.Return (some eFold) pFold]) (defScope (st 53)) [] [] (ga K "_law_folded") fl := bFold ▸ L
  have z := df_own (w := w) (base := base) (lv := 0) (cf := noCf) (hl := noHl) L2 sc__law_folded mM_fold mM_fold2 rfl (f_pfM X G H) (mk_no X G H)
  exact ⟨fd, ok_begun F (glo_ok X G (fg_at H 36)) L.kp z (L.bindsN fun _ _ _ _ _ _ us hl => match us, hl with | [_], _ => rfl), F.bindsN fun _ _ _ _ _ _ us hl => match us, hl with | [_], _ => rfl, F.kp⟩
/-- what is to be shown of the law in plain words -/
def LawPlain (M : Nat) : Prop := ∀ ns : List Int, ns.length ≤ 63 → ∃ (cells great : List Int) (S' : Sg) (g' : Pv.G), FFold [.scr ns] g00 = some (cells.map .int, g00) ∧ evalE noCf noHl iGreat ⟨[some (.scr ns), none, none], g00⟩ = .ok (.list (great.map .int)) S' ∧
      (evalSs (callF (hdOf qsH) tab M) noHl b_law ⟨some (.scr ns) :: some .mm :: List.replicate (n_law.length - 2) none, ⟨cells, great, 0⟩⟩).cr = .ok (.bool true) g'
theorem f_law {M : Nat} (LP : LawPlain M) (top : (P.main.scope.names.lookup ("super" : Str)).isSome = false) : ∃ fd, (∀ (s : Shared) (u : Value), BindsTo s fd ⟨[u], []⟩ [("script", u)]) ∧ (∀ base' : Heap, TabB base' mg (cT K ("_law_maps_right", none)).1 (cT K ("_law_maps_right", none)).2 → TabB base' mg (cT K ("_law_moves_right", none)).1 (cT K ("_law_moves_right", none)).2 → FnOk P w K mg base' (L2.CX P w) (3 + M + 1) (ga K "law") fd ["script"] (spLaw K (CeK K))) := by
  obtain ⟨fd, _, F⟩ := fn_at H 60 (d := dD "law" (st 77) [])
  have b := FunD.bindsA (ps := ["script"]) F fun _ _ _ _ _ _ us hl => match us, hl with | [_], _ => rfl
  refine ⟨fd, fun s u => b s [u] rfl, fun base' TB0 TB1 => ?_⟩
  obtain ⟨fb, B, bB, kB⟩ := f_begun (P := P) (w := w) (base := base') X G H
  exact ok_law (lv := 3 + M) F sc_law rfl rfl (by decide) m_law rfl (f_pf (base := base') X G H top TB0 TB1 M) (mk_all (base := base') X G H top M) (glo_ok X G (fg_at H 38)) kB (B.mono (by omega)) bB LP
end
theorem law_at {l : PySem.W.OpenLaw} {w : World} {K : PySem.W.Frag} {mg : Str → Option Value} {h : Heap} {fa : Addr} {M : Nat} (LP : LawPlain M) (X : K.In h) (G : h.Ns mainGlobals mg) (H : HdK l.prog.main.file K) (hfa : mg ("law" : Str) = some (.ref fa)) (top : (l.prog.main.scope.names.lookup ("super" : Str)).isSome = false)
    (hT : ∀ p ∈ ([("_law_maps_right", none), ("_law_moves_right", none)] : List (Str × Option Str)), h.get? (cT K p).2 = some { cls := .none, data := .fields #[] }) : LamX.LawAtS l w K (L2.CX l.prog w) (3 + M + 1) 63 "script" mg fa h := by
  have e := hfa.symm.trans (glo_ok X G (fg_at H 60))
  cases e
  obtain ⟨fd, b, F⟩ := f_law (P := l.prog) (w := w) X G H LP top
  have none_of : ∀ {c : Option Obj}, (match c with | none => true | some _ => false) = true → c = none := fun {c} z => by cases c <;> first | rfl | cases z
  refine ⟨fd, [cT K ("_law_maps_right", none), cT K ("_law_moves_right", none)], spLaw K (CeK K), ?_, ?_, ?_, b, ?_, ?_⟩
  · intro p hp
    simp only [List.mem_cons, List.not_mem_nil, or_false] at hp
    rcases hp with rfl | rfl
    all_goals exact hT _ (by simp)
  · intro p hp
    simp only [List.mem_cons, List.not_mem_nil, or_false] at hp
    rcases hp with rfl | rfl
    · exact none_of H.l__law_maps_right.2
    · exact none_of H.l__law_moves_right.2
  · intro p hp
    simp only [List.mem_cons, List.not_mem_nil, or_false] at hp
    rcases hp with rfl | rfl
    · exact PySem.W.codeHd_of_K X H.l__law_maps_right.1
    · exact PySem.W.codeHd_of_K X H.l__law_moves_right.1
  · intro Hh a ns h1 h2 h3 h4
    refine ⟨a, ns, rfl, h4, h1, fun p hp => ?_, fun H' => rfl⟩
    simp only [CeK, List.mem_cons, List.not_mem_nil, or_false] at hp
    rcases hp with rfl | rfl
    all_goals exact TabS.nil (h3 _ (by simp))
  · intro base hK hN hTB
    exact F base (hTB _ (by simp)) (hTB _ (by simp))
end Pv
namespace Pv
open PySem L2
theorem lawPlain : LawPlain 20 := fun ns h => law_plain_all ns h
end Pv
open PySem PySem.W PyProof.Rows L2 Pv He LamX
set_option maxRecDepth 100000 in
set_option maxHeartbeats 0 in
theorem PySem.Challenge.cw_summedbounds_k03_whole_lots_put_shifted_holds : PySem.Challenge.rw_summedbounds_k03_whole_lots_put_shifted.Holds := by
  w_on; o_law; k_head; (case hw => w_witness2)
  k_fill
  refine LamX.walk_ofTs (l := PySem.Challenge.rw_summedbounds_k03_whole_lots_put_shifted) (n := 63) (k := 3 + 20 + 1) (x := "script") (CX := fun w => L2.CX (PySem.Challenge.rw_summedbounds_k03_whole_lots_put_shifted).prog w) rfl (by decide) rfl ⟨rfl, by decide, by decide⟩ (fun w h Y => PySem.W.km_in_of Y) ?F ?C
  case F =>
    intro w mg fa h Y KX G hmg
    refine Pv.law_at (M := 20) Pv.lawPlain KX G ?H hmg (by kernel_rfl) ?T
    case H => exact ⟨by kernel_rfl, by kernel_rfl, by kernel_rfl, by kernel_rfl, by kernel_rfl, by kernel_rfl, ⟨by kernel_rfl, by kernel_rfl⟩, by kernel_rfl, ⟨by kernel_rfl, by kernel_rfl⟩, by kernel_rfl, by kernel_rfl, by kernel_rfl, by kernel_rfl, by kernel_rfl, by kernel_rfl, by kernel_rfl, by kernel_rfl, by kernel_rfl, by kernel_rfl, ⟨by kernel_rfl, by kernel_rfl⟩, ⟨by kernel_rfl, by kernel_rfl⟩, by kernel_rfl, by kernel_rfl⟩
    case T =>
      intro p hp
      refine PySem.W.km_tabs_of Y _ ?_
      simp only [List.mem_cons, List.not_mem_nil, or_false] at hp
      rcases hp with rfl | rfl
      all_goals exact List.mem_of_elem_eq_true (by kernel_rfl)
  case C => exact fun w H s e s' ⟨_, _, _, _, _, _, _, _, _, _, _, _, z⟩ => z
