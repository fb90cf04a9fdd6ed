import PyProof.Rows.All
import Wide.All
import OpenK.AllK
import Wide.FinOn
import KE.KStateDown
import HandS.ForMost
import HandS.Exc
import HandS.TryOnly
import HandS.TryMany
import HandS.ExcOwn
import HandS.ExcIs
import HandS.WordsExc
import HandS.IsInst
import HandS.SortInts
import HandS.Zip
import HandS.Deep
import HandS.Conv
import HandS.Wide
import HandS.TupAny
import HandS.Defaults
import HandS.Head0
import HandS.Head1
import HandS.Head2
import HandS.HeadEnd
import HandS.HeadHook1
import HandS.HeadHook2
import HandS.Walk
import HandS.Style
import HandS.Small
import KE.GoesEnum
import KE.GoesMore
import HandS.HeadHook4
import PySem.Challenge.RW_reelwright_k07_whole_numbers_of_times
set_option Elab.async false
set_option linter.all false
set_option autoImplicit false
set_option maxRecDepth 100000
set_option maxHeartbeats 0

namespace Rf
open PySem PySem.Spec L2
open PyProof.Rows hiding St

abbrev D := PyData

mutual
/-- a value stands for data; S: the addresses that it must not lean on -/
inductive Rep (K : PySem.W.Frag) (H : Hp) (S : Addr → Prop) : V → D → Prop
  | non : Rep K H S .non .none
  | bl (b : Bool) : Rep K H S (.bl b) (.bool b)
  | int (i : Int) : Rep K H S (.int i) (.int i)
  | str (x : Str) : Rep K H S (.str x) (.str x)
  | lst {a : Addr} {xs : List V} {ds : List D} : LAt K H S a xs → RepAll K H S xs ds → Rep K H S (.ref a) (.list ds)
  | tup {a : Addr} {xs : List V} {ds : List D} : SqT K H a xs → RepAll K H S xs ds → Rep K H S (.ref a) (.tuple ds)
  | dct {a : Addr} {kvs : List (D × D)} : DAt K H S a kvs → Rep K H S (.ref a) (.dict kvs)
inductive RepAll (K : PySem.W.Frag) (H : Hp) (S : Addr → Prop) : List V → List D → Prop
  | nil : RepAll K H S [] []
  | cons {v : V} {vs : List V} {d : D} {ds : List D} : Rep K H S v d → RepAll K H S vs ds → RepAll K H S (v :: vs) (d :: ds)
/-- a list that may be read and is not one of S -/
inductive LAt (K : PySem.W.Frag) (H : Hp) (S : Addr → Prop) : Addr → List V → Prop
  | trk {a : Addr} {xs : List V} : Rd H a (.lst xs) → ¬ S a → LAt K H S a xs
/-- a dict of keys that are ints and texts, or tuples of these -/
inductive DAt (K : PySem.W.Frag) (H : Hp) (S : Addr → Prop) : Addr → List (D × D) → Prop
  | dK {a : Addr} {es : List (Key × V)} {kvs : List (D × D)} : H a = some (.dK es) → ¬ S a → RepK K H S es kvs → DAt K H S a kvs
  | dT {a : Addr} {es : List (List Key × V)} {kvs : List (D × D)} : H a = some (.dT es) → ¬ S a → RepT K H S es kvs → DAt K H S a kvs
inductive RepK (K : PySem.W.Frag) (H : Hp) (S : Addr → Prop) : List (Key × V) → List (D × D) → Prop
  | nil : RepK K H S [] []
  | int {i : Int} {v : V} {es : List (Key × V)} {d : D} {kvs : List (D × D)} : Rep K H S v d → RepK K H S es kvs → RepK K H S ((.inl i, v) :: es) ((.int i, d) :: kvs)
  | str {x : Str} {v : V} {es : List (Key × V)} {d : D} {kvs : List (D × D)} : Rep K H S v d → RepK K H S es kvs → RepK K H S ((.inr x, v) :: es) ((.str x, d) :: kvs)
inductive RepT (K : PySem.W.Frag) (H : Hp) (S : Addr → Prop) : List (List Key × V) → List (D × D) → Prop
  | nil : RepT K H S [] []
  | cons {k : List Key} {v : V} {es : List (List Key × V)} {d : D} {kvs : List (D × D)} : Rep K H S v d → RepT K H S es kvs → RepT K H S ((k, v) :: es) ((.tuple (k.map fun k => match k with | .inl i => PyData.int i | .inr x => PyData.str x), d) :: kvs)
end

section
variable {K : PySem.W.Frag} {H H' : Hp} {S S' : Addr → Prop}
mutual
theorem Rep.mono (h : ∀ a o, H a = some o → ¬ S a → H' a = some o) (hT : ∀ a, S a → Mut (H a)) (hs : ∀ a, S' a → S a ∨ H a = none) : ∀ {v : V} {d : D}, Rep K H S v d → Rep K H' S' v d
  | _, _, .non => .non
  | _, _, .bl b => .bl b
  | _, _, .int i => .int i
  | _, _, .str x => .str x
  | _, _, .lst l r => .lst (LAt.mono h hT hs l) (RepAll.mono h hT hs r)
  | _, _, .tup t r => .tup (by
      rcases t with (t | ⟨ob, t⟩) | t
      · exact .inl (.inl (h _ _ t fun q => by have z := hT _ q; rw [t] at z; exact z))
      · exact .inl (.inr ⟨ob, h _ _ t fun q => by have z := hT _ q; rw [t] at z; exact z⟩)
      · exact .inr t) (RepAll.mono h hT hs r)
  | _, _, .dct t => .dct (DAt.mono h hT hs t)
theorem RepAll.mono (h : ∀ a o, H a = some o → ¬ S a → H' a = some o) (hT : ∀ a, S a → Mut (H a)) (hs : ∀ a, S' a → S a ∨ H a = none) : ∀ {v : List V} {d : List D}, RepAll K H S v d → RepAll K H' S' v d
  | _, _, .nil => .nil
  | _, _, .cons r t => .cons (Rep.mono h hT hs r) (RepAll.mono h hT hs t)
theorem LAt.mono (h : ∀ a o, H a = some o → ¬ S a → H' a = some o) (hT : ∀ a, S a → Mut (H a)) (hs : ∀ a, S' a → S a ∨ H a = none) : ∀ {a : Addr} {xs : List V}, LAt K H S a xs → LAt K H' S' a xs
  | _, _, .trk t n => by
      rcases t with t | ⟨ob, t⟩
      · exact .trk (.inl (h _ _ t n)) (fun q => (hs _ q).elim n (fun z => by rw [t] at z; cases z))
      · exact .trk (.inr ⟨ob, h _ _ t n⟩) (fun q => (hs _ q).elim n (fun z => by rw [t] at z; cases z))
theorem DAt.mono (h : ∀ a o, H a = some o → ¬ S a → H' a = some o) (hT : ∀ a, S a → Mut (H a)) (hs : ∀ a, S' a → S a ∨ H a = none) : ∀ {a : Addr} {kvs : List (D × D)}, DAt K H S a kvs → DAt K H' S' a kvs
  | _, _, .dK e n r => .dK (h _ _ e n) (fun q => (hs _ q).elim n (fun z => by rw [e] at z; cases z)) (RepK.mono h hT hs r)
  | _, _, .dT e n r => .dT (h _ _ e n) (fun q => (hs _ q).elim n (fun z => by rw [e] at z; cases z)) (RepT.mono h hT hs r)
theorem RepK.mono (h : ∀ a o, H a = some o → ¬ S a → H' a = some o) (hT : ∀ a, S a → Mut (H a)) (hs : ∀ a, S' a → S a ∨ H a = none) : ∀ {v : List (Key × V)} {d : List (D × D)}, RepK K H S v d → RepK K H' S' v d
  | _, _, .nil => .nil
  | _, _, .int r t => .int (Rep.mono h hT hs r) (RepK.mono h hT hs t)
  | _, _, .str r t => .str (Rep.mono h hT hs r) (RepK.mono h hT hs t)
theorem RepT.mono (h : ∀ a o, H a = some o → ¬ S a → H' a = some o) (hT : ∀ a, S a → Mut (H a)) (hs : ∀ a, S' a → S a ∨ H a = none) : ∀ {v : List (List Key × V)} {d : List (D × D)}, RepT K H S v d → RepT K H' S' v d
  | _, _, .nil => .nil
  | _, _, .cons r t => .cons (Rep.mono h hT hs r) (RepT.mono h hT hs t)
end
end
end Rf

namespace Rf
open PySem PySem.Spec L2
open PyProof.Rows hiding St

/-- what comes of a piece of code: a value, an exception of the text's own (by its number), or nothing is said -/
inductive R (α : Type) where
  | ok (a : α) | ex (c : Nat) | no
def R.bind {α β : Type} (r : R α) (k : α → R β) : R β := match r with
  | .ok a => k a
  | .ex c => .ex c
  | .no => .no
/-- a slot: empty; a value that others may hold too; a list or a dict that nobody else holds -/
inductive Sl where
  | emp | val (d : D) | own (d : D)
abbrev Env := List Sl

inductive Own (K : PySem.W.Frag) (H : Hp) (S : Addr → Prop) (a : Addr) : D → Prop
  | lst {xs : List V} {ds : List D} : H a = some (.lst xs) → RepAll K H S xs ds → Own K H S a (.list ds)
  | dK {es : List (Key × V)} {kvs : List (D × D)} : H a = some (.dK es) → RepK K H S es kvs → Own K H S a (.dict kvs)
inductive SlR (K : PySem.W.Frag) (H : Hp) (S : Addr → Prop) : Sl → Option V → Prop
  | emp {o : Option V} : SlR K H S .emp o
  | val {v : V} {d : D} : Rep K H S v d → SlR K H S (.val d) (some v)
  | own {a : Addr} {d : D} : S a → Own K H S a d → SlR K H S (.own d) (some (.ref a))
structure SR (K : PySem.W.Frag) (S : Addr → Prop) (env : Env) (σ : St) (H : Hp) : Prop where
  len : env.length = σ.length
  trk : ∀ a, S a → Mut (H a)
  slot : ∀ (i : Nat) (sl : Sl) (o : Option V), env[i]? = some sl → σ[i]? = some o → SlR K H S sl o
/-- how a value is held: others may hold it too; new, nobody else holds it; an own slot's, lent -/
inductive Kd where
  | old | new | bor
/-- what an expression has given: H ahead of it, H' behind -/
inductive Res (K : PySem.W.Frag) (H H' : Hp) (S : Addr → Prop) : Kd → V → D → Prop
  | old {v : V} {d : D} : Rep K H' S v d → Res K H H' S .old v d
  | new {a : Addr} {d : D} : H a = none → Own K H' (fun b => S b ∨ b = a) a d → Res K H H' S .new (.ref a) d
  | bor {a : Addr} {d : D} : S a → Own K H' S a d → Res K H H' S .bor (.ref a) d
/-- S, and what is new -/
def addS (S : Addr → Prop) (k : Kd) (v : V) : Addr → Prop := match k with
  | .new => fun b => S b ∨ v = .ref b
  | _ => S
inductive ResAll (K : PySem.W.Frag) (H' : Hp) : Hp → (Addr → Prop) → List V → List (Kd × D) → Prop
  | nil {H : Hp} {S : Addr → Prop} : ResAll K H' H S [] []
  | cons {H H1 : Hp} {S : Addr → Prop} {v : V} {vs : List V} {k : Kd} {d : D} {ds : List (Kd × D)} : Same H H1 → Res K H H1 S k v d → Same H1 H' → ResAll K H' H1 (addS S k v) vs ds → ResAll K H' H S (v :: vs) ((k, d) :: ds)
/-- to be looked at -/
inductive BRep (K : PySem.W.Frag) (H : Hp) (S : Addr → Prop) : V → D → Prop
  | rep {v : V} {d : D} : Rep K H S v d → BRep K H S v d
  | own {a : Addr} {d : D} : Own K H S a d → BRep K H S (.ref a) d
inductive BAll (K : PySem.W.Frag) (H : Hp) (S : Addr → Prop) : List V → List D → Prop
  | nil : BAll K H S [] []
  | cons {v : V} {vs : List V} {d : D} {ds : List D} : BRep K H S v d → BAll K H S vs ds → BAll K H S (v :: vs) (d :: ds)
def Kd.nb : Kd → Bool
  | .bor => false
  | _ => true

section
variable {K : PySem.W.Frag} {H H' H'' : Hp} {S S' : Addr → Prop} {env : Env} {σ : St} {a : Addr} {d : D} {v : V} {fr : Kd}
theorem Own.mono (h : ∀ b o, H b = some o → ¬ S b → H' b = some o) (hT : ∀ b, S b → Mut (H b)) (hs : ∀ b, S' b → S b ∨ H b = none) (ha : H' a = H a) : Own K H S a d → Own K H' S' a d
  | .lst e r => .lst (ha.trans e) (r.mono h hT hs)
  | .dK e r => .dK (ha.trans e) (r.mono h hT hs)
theorem Own.here (o : Own K H S a d) : Mut (H a) := by
  cases o with
  | lst e => rw [e]; trivial
  | dK e => rw [e]; trivial
theorem Own.grow (o : Own K H S a d) (m : Same H H') (hT : ∀ b, S b → Mut (H b)) : Own K H' S a d := by
  have e : H' a = H a := by
    have z := o.here
    cases q : H a with
    | none => rw [q] at z; exact z.elim
    | some u => exact m a u q
  exact o.mono (fun b u q _ => m b u q) hT (fun b q => .inl q) e
theorem mut_grow (m : Same H H') (hT : ∀ b, S b → Mut (H b)) : ∀ b, S b → Mut (H' b) := fun b q => by
  have z := hT b q
  cases e : H b with
  | none => rw [e] at z; exact z.elim
  | some u => rw [m b u e]; rw [e] at z; exact z
theorem Rep.grow (r : Rep K H S v d) (m : Same H H') (hT : ∀ b, S b → Mut (H b)) : Rep K H' S v d := r.mono (fun b u q _ => m b u q) hT fun b q => .inl q
theorem RepAll.grow {vs : List V} {ds : List D} (r : RepAll K H S vs ds) (m : Same H H') (hT : ∀ b, S b → Mut (H b)) : RepAll K H' S vs ds := r.mono (fun b u q _ => m b u q) hT fun b q => .inl q
theorem Own.frz (o : Own K H (fun b => S b ∨ b = a) a d) (hT : ∀ b, S b → Mut (H b)) (hn : ¬ S a) : Rep K H S (.ref a) d := by
  have hT' : ∀ b, (S b ∨ b = a) → Mut (H b) := fun b q => by
    rcases q with q | q
    · exact hT b q
    · rw [q]; exact o.here
  cases o with
  | lst e r => exact .lst (.trk (.inl e) hn) (r.mono (fun b u q _ => q) hT' fun b q => .inl (.inl q))
  | dK e r => exact .dct (.dK e hn (r.mono (fun b u q _ => q) hT' fun b q => .inl (.inl q)))
theorem SR.grow (r : SR K S env σ H) (m : Same H H') : SR K S env σ H' where
  len := r.len
  trk := mut_grow m r.trk
  slot := fun i sl o e1 e2 => by
    cases r.slot i sl o e1 e2 with
    | emp => exact .emp
    | val q => exact .val (q.grow m r.trk)
    | own q o => exact .own q (o.grow m r.trk)
/-- more is kept apart, and only that changes -/
theorem SR.more {Dd : Addr} (r : SR K S env σ H) (h : ∀ b o, H b = some o → H' b = some o) (hn : H Dd = none) (hd : Mut (H' Dd)) : SR K (fun b => S b ∨ b = Dd) env σ H' := by
  have hs : ∀ b, (S b ∨ b = Dd) → S b ∨ H b = none := fun b q => by
    rcases q with q | q
    · exact .inl q
    · exact .inr (by rw [q]; exact hn)
  refine ⟨r.len, fun b q => ?_, fun i sl o e1 e2 => ?_⟩
  · rcases q with q | q
    · exact mut_grow h r.trk b q
    · rw [q]; exact hd
  · cases r.slot i sl o e1 e2 with
    | emp => exact .emp
    | val q => exact .val (q.mono (fun b o e _ => h b o e) r.trk hs)
    | @own a d q o =>
      refine .own (.inl q) (o.mono (fun b o e _ => h b o e) r.trk hs ?_)
      have z := o.here
      cases e : H a with
      | none => rw [e] at z; exact z.elim
      | some u => exact h a u e
theorem not_of_none (hT : ∀ b, S b → Mut (H b)) (h : H a = none) : ¬ S a := fun q => by
  have z := hT a q
  rw [h] at z
  exact z
theorem Res.frz (r : Res K H H' S fr v d) (m : Same H H') (hT : ∀ b, S b → Mut (H b)) (nb : fr.nb = true) : Rep K H' S v d := by
  cases r with
  | old r => exact r
  | new hn o => exact o.frz (mut_grow m hT) (not_of_none hT hn)
  | bor _ _ => cases nb
theorem Own.less (o : Own K H (fun b => S b ∨ b = a) a d) (hT : ∀ b, S b → Mut (H b)) : Own K H S a d := o.mono (fun b u q _ => q) (fun b q => by
    rcases q with q | q
    · exact hT b q
    · rw [q]; exact o.here) (fun b q => .inl (.inl q)) rfl
theorem Res.brep (r : Res K H H' S fr v d) (m : Same H H') (hT : ∀ b, S b → Mut (H b)) : BRep K H' S v d := by
  cases r with
  | old r => exact .rep r
  | new hn o => exact .own (o.less (mut_grow m hT))
  | bor _ o => exact .own o
/-- from an older heap, in a later one -/
theorem Res.wide (r : Res K H H' S fr v d) (m0 : Same H'' H) : Res K H'' H' S fr v d := by
  cases r with
  | old r => exact .old r
  | new hn o => exact .new (m0.free hn) o
  | bor hs o => exact .bor hs o
theorem Res.grow (r : Res K H H' S fr v d) (m : Same H H') (hT : ∀ b, S b → Mut (H b)) (m2 : Same H' H'') : Res K H H'' S fr v d := by
  cases r with
  | old r => exact .old (r.grow m2 (mut_grow m hT))
  | new hn o =>
    refine .new hn (o.grow m2 fun b q => ?_)
    rcases q with q | q
    · exact mut_grow m hT b q
    · rw [q]; exact o.here
  | bor hs o => exact .bor hs (o.grow m2 (mut_grow m hT))
theorem BRep.grow (r : BRep K H S v d) (m : Same H H') (hT : ∀ b, S b → Mut (H b)) : BRep K H' S v d := by
  cases r with
  | rep r => exact .rep (r.grow m hT)
  | own o => exact .own (o.grow m hT)
theorem ResAll.wide {vs : List V} {ds : List (Kd × D)} (r : ResAll K H' H S vs ds) (m0 : Same H'' H) : ResAll K H' H'' S vs ds := by
  cases r with
  | nil => exact .nil
  | cons m1 a m2 b => exact .cons (m0.trans m1) (a.wide m0) m2 b
theorem addS_mut (r : Res K H H' S fr v d) (m : Same H H') (hT : ∀ b, S b → Mut (H b)) : ∀ b, addS S fr v b → Mut (H' b) := fun b q => by
  cases r with
  | old r => exact mut_grow m hT b q
  | new hn o =>
    rcases q with q | q
    · exact mut_grow m hT b q
    · cases q; exact o.here
  | bor hs o => exact mut_grow m hT b q
theorem addS_sub {b : Addr} (h : S b) : addS S fr v b := by
  cases fr with
  | new => exact .inl h
  | old => exact h
  | bor => exact h
theorem RepAll.lessS {vs : List V} {ds : List D} (r : RepAll K H S vs ds) (hT : ∀ b, S b → Mut (H b)) (hs : ∀ b, S' b → S b) : RepAll K H S' vs ds := r.mono (fun b u e _ => e) hT fun b q => .inl (hs b q)
theorem Rep.lessS (r : Rep K H S v d) (hT : ∀ b, S b → Mut (H b)) (hs : ∀ b, S' b → S b) : Rep K H S' v d := r.mono (fun b u e _ => e) hT fun b q => .inl (hs b q)
theorem Own.lessS (r : Own K H S a d) (hT : ∀ b, S b → Mut (H b)) (hs : ∀ b, S' b → S b) : Own K H S' a d := r.mono (fun b u e _ => e) hT (fun b q => .inl (hs b q)) rfl
theorem BRep.lessS (r : BRep K H S v d) (hT : ∀ b, S b → Mut (H b)) (hs : ∀ b, S' b → S b) : BRep K H S' v d := by
  cases r with
  | rep r => exact .rep (r.lessS hT hs)
  | own o => exact .own (o.lessS hT hs)
theorem BAll.lessS {vs : List V} {ds : List D} (r : BAll K H S vs ds) (hT : ∀ b, S b → Mut (H b)) (hs : ∀ b, S' b → S b) : BAll K H S' vs ds := by
  induction r with
  | nil => exact .nil
  | cons a b ih => exact .cons (a.lessS hT hs) ih
theorem Res.lessS (r : Res K H H' S fr v d) (m : Same H H') (hT : ∀ b, S b → Mut (H b)) (hs : ∀ b, S' b → S b) (nb : fr.nb = true) : Res K H H' S' fr v d := by
  cases r with
  | old r => exact .old (r.lessS (mut_grow m hT) hs)
  | new hn o => exact .new hn (o.lessS (fun b q => addS_mut (fr := .new) (v := .ref _) (.new hn o) m hT b (q.imp id fun z => by rw [z])) fun b q => q.imp (hs b) id)
  | bor _ _ => cases nb
theorem ResAll.frz {vs : List V} {ds : List (Kd × D)} (r : ResAll K H' H S vs ds) (hT : ∀ b, S b → Mut (H b)) (nb : (ds.all fun p => p.1.nb) = true) : RepAll K H' S vs (ds.map (·.2)) := by
  induction r with
  | nil => exact .nil
  | cons m1 a m2 b ih =>
    simp only [List.all_cons, Bool.and_eq_true] at nb
    have h1 := addS_mut a m1 hT
    have hb : RepAll K H' _ _ _ := ih h1 nb.2
    exact .cons ((a.frz m1 hT nb.1).grow m2 (mut_grow m1 hT)) (hb.lessS (mut_grow m2 h1) fun b q => addS_sub q)
theorem ResAll.brep {vs : List V} {ds : List (Kd × D)} (r : ResAll K H' H S vs ds) (hT : ∀ b, S b → Mut (H b)) : BAll K H' S vs (ds.map (·.2)) := by
  induction r with
  | nil => exact .nil
  | cons m1 a m2 b ih =>
    have h1 := addS_mut a m1 hT
    exact .cons ((a.brep m1 hT).grow m2 (mut_grow m1 hT)) ((ih h1).lessS (mut_grow m2 h1) fun b q => addS_sub q)
theorem BRep.int {i : Int} (r : BRep K H S v (.int i)) : v = .int i := by
  cases r with
  | rep r => cases r; rfl
  | own o => cases o
theorem BRep.bl {b : Bool} (r : BRep K H S v (.bool b)) : v = .bl b := by
  cases r with
  | rep r => cases r; rfl
  | own o => cases o
theorem BRep.str {x : Str} (r : BRep K H S v (.str x)) : v = .str x := by
  cases r with
  | rep r => cases r; rfl
  | own o => cases o
theorem BRep.non (r : BRep K H S v .none) : v = .non := by
  cases r with
  | rep r => cases r; rfl
  | own o => cases o
theorem BRep.lst {ds : List D} (r : BRep K H S v (.list ds)) : ∃ a xs, v = .ref a ∧ Rd H a (.lst xs) ∧ RepAll K H S xs ds := by
  cases r with
  | rep r => cases r with
    | lst l r => cases l with
      | trk t _ => exact ⟨_, _, rfl, t, r⟩
  | own o => cases o with
    | lst e r => exact ⟨_, _, rfl, .inl e, r⟩
theorem BRep.tup {ds : List D} (r : BRep K H S v (.tuple ds)) : ∃ a xs, v = .ref a ∧ SqT K H a xs ∧ RepAll K H S xs ds := by
  cases r with
  | rep r => cases r with
    | tup l r => exact ⟨_, _, rfl, l, r⟩
  | own o => cases o
/-- what is flat or a tuple is never lent -/
theorem BRep.tupR {ds : List D} (r : BRep K H S v (.tuple ds)) : Rep K H S v (.tuple ds) := by
  cases r with
  | rep r => exact r
  | own o => cases o
end

/-! ### what is wanted of the model, by values -/
def wE (X : Cx) (e : Expr) (σ : St) (H : Hp) (Q : VK) : Prop := ∀ (pins : List (Addr × Obj)) (s : Shared), Inv X pins σ H s → wpAny (model X.prog X.w) X.A (eval e X.env) (EP X pins σ Q) X.xe s
def wT (X : Cx) (e : Expr) (σ : St) (H : Hp) (Q : Bool → Hp → Prop) : Prop := ∀ (pins : List (Addr × Obj)) (s : Shared), Inv X pins σ H s → wpAny (model X.prog X.w) X.A (isTrue e X.env (eval e X.env)) (TP X pins σ Q) X.xe s
def wW (X : Cx) (e : Expr) (σ : St) (H : Hp) (Q : Bool → Hp → Prop) : Prop := ∀ (whole : Sem Value) (pins : List (Addr × Obj)) (s : Shared), Inv X pins σ H s → wpAny (model X.prog X.w) X.A (isTrue e X.env whole) (TP X pins σ Q) X.xe s
def wA (X : Cx) (es : List Expr) (σ : St) (H : Hp) (Q : List V → Hp → Prop) : Prop := ∀ (pos : Pos) (pins : List (Addr × Obj)) (s : Shared), Inv X pins σ H s → wpAny (model X.prog X.w) X.A (spliced (backTo pos (starEach es X.env))) (AP X pins σ Q) X.xe s
def wS (X : Cx) (st : Stmt) (D : Ends) (σ : St) (H : Hp) : Prop := ∀ (pins : List (Addr × Obj)) (s : Shared), Inv X pins σ H s → wpAny (model X.prog X.w) X.A (exec st X.env) (SP X pins D) X.xe s
def wSs (X : Cx) (st : List Stmt) (D : Ends) (σ : St) (H : Hp) : Prop := ∀ (pins : List (Addr × Obj)) (s : Shared), Inv X pins σ H s → wpAny (model X.prog X.w) X.A (execs st X.env) (SP X pins D) X.xe s
section
variable {X : Cx} {e : Expr} {es : List Expr} {st : Stmt} {sts : List Stmt}
theorem w_pe : PE X e (fun σ H Q => wE X e σ H Q) := ⟨fun pins s σ H Q I h => h pins s I⟩
theorem w_pt : PT X e (fun σ H Q => wT X e σ H Q) := ⟨fun pins s σ H Q I h => h pins s I⟩
theorem w_pw : PW X e (fun σ H Q => wW X e σ H Q) := ⟨fun wh pins s σ H Q I h => h wh pins s I⟩
theorem w_pa : PA X es (fun σ H Q => wA X es σ H Q) := ⟨fun pos pins s σ H Q I h => h pos pins s I⟩
theorem w_ps : PS X st (fun D σ H => wS X st D σ H) := ⟨fun pins s σ H D I h => h pins s I⟩
theorem w_pss : PSs X sts (fun D σ H => wSs X sts D σ H) := ⟨fun pins s σ H D I h => h pins s I⟩
theorem wE.of {t : TE} {σ : St} {H : Hp} {Q : VK} (h : PE X e t) (q : t σ H Q) : wE X e σ H Q := fun pins s I => h.run pins s σ H Q I q
theorem wT.of {t : TT} {σ : St} {H : Hp} {Q : Bool → Hp → Prop} (h : PT X e t) (q : t σ H Q) : wT X e σ H Q := fun pins s I => h.run pins s σ H Q I q
theorem wW.of {t : TT} {σ : St} {H : Hp} {Q : Bool → Hp → Prop} (h : PW X e t) (q : t σ H Q) : wW X e σ H Q := fun wh pins s I => h.run wh pins s σ H Q I q
theorem wA.of {t : TA} {σ : St} {H : Hp} {Q : List V → Hp → Prop} (h : PA X es t) (q : t σ H Q) : wA X es σ H Q := fun pos pins s I => h.run pos pins s σ H Q I q
theorem wS.of {t : TS} {σ : St} {H : Hp} {D : Ends} (h : PS X st t) (q : t D σ H) : wS X st D σ H := fun pins s I => h.run pins s σ H D I q
theorem wSs.of {t : TS} {σ : St} {H : Hp} {D : Ends} (h : PSs X sts t) (q : t D σ H) : wSs X sts D σ H := fun pins s I => h.run pins s σ H D I q
end

/-- what is wanted behind an expression that gives r; exc: where the exception classes stand -/
def Post (X : Cx) (exc : Nat → Addr) (S : Addr → Prop) (σ : St) (H : Hp) (r : R (Kd × D)) (Q : VK) : Prop :=
  match r with
  | .ok (fr, d) => ∀ v H', Same H H' → Res X.K H H' S fr v d → Q v H'
  | .ex c => ∃ W, Takes X W ∧ ∀ H', Same H H' → W (.ref (exc c)) none σ H'
  | .no => False
def PostT (X : Cx) (exc : Nat → Addr) (S : Addr → Prop) (σ : St) (H : Hp) (r : R Bool) (Q : Bool → Hp → Prop) : Prop :=
  match r with
  | .ok b => ∀ H', Same H H' → Q b H'
  | .ex c => ∃ W, Takes X W ∧ ∀ H', Same H H' → W (.ref (exc c)) none σ H'
  | .no => False
def PostA (X : Cx) (exc : Nat → Addr) (S : Addr → Prop) (σ : St) (H : Hp) (r : R (List (Kd × D))) (Q : List V → Hp → Prop) : Prop :=
  match r with
  | .ok ds => ∀ vs H', Same H H' → ResAll X.K H' H S vs ds → Q vs H'
  | .ex c => ∃ W, Takes X W ∧ ∀ H', Same H H' → W (.ref (exc c)) none σ H'
  | .no => False
/-- an expression is f -/
def SE (X : Cx) (exc : Nat → Addr) (e : Expr) (f : Env → R (Kd × D)) : Prop :=
  ∀ (S : Addr → Prop) (env : Env) (σ : St) (H : Hp) (Q : VK), SR X.K S env σ H → Post X exc S σ H (f env) Q → wE X e σ H Q
def ST (X : Cx) (exc : Nat → Addr) (e : Expr) (f : Env → R Bool) : Prop :=
  ∀ (S : Addr → Prop) (env : Env) (σ : St) (H : Hp) (Q : Bool → Hp → Prop), SR X.K S env σ H → PostT X exc S σ H (f env) Q → wT X e σ H Q
def SW (X : Cx) (exc : Nat → Addr) (e : Expr) (f : Env → R Bool) : Prop :=
  ∀ (S : Addr → Prop) (env : Env) (σ : St) (H : Hp) (Q : Bool → Hp → Prop), SR X.K S env σ H → PostT X exc S σ H (f env) Q → wW X e σ H Q
def SA (X : Cx) (exc : Nat → Addr) (es : List Expr) (f : Env → R (List (Kd × D))) : Prop :=
  ∀ (S : Addr → Prop) (env : Env) (σ : St) (H : Hp) (Q : List V → Hp → Prop), SR X.K S env σ H → PostA X exc S σ H (f env) Q → wA X es σ H Q

section
variable {X : Cx} {exc : Nat → Addr} {S : Addr → Prop} {σ : St} {H H1 : Hp} {env : Env} {e : Expr} {es : List Expr} {Q Q1 : VK}
theorem Post.grow {r : R (Kd × D)} (h : Post X exc S σ H r Q) (m : Same H H1) : Post X exc S σ H1 r Q := by
  cases r with
  | ok p => exact fun v H' m' rs => h v H' (m.trans m') (rs.wide m)
  | ex c => obtain ⟨W, t, k⟩ := h; exact ⟨W, t, fun H' m' => k H' (m.trans m')⟩
  | no => exact h
theorem PostT.grow {r : R Bool} {Q : Bool → Hp → Prop} (h : PostT X exc S σ H r Q) (m : Same H H1) : PostT X exc S σ H1 r Q := by
  cases r with
  | ok p => exact fun H' m' => h H' (m.trans m')
  | ex c => obtain ⟨W, t, k⟩ := h; exact ⟨W, t, fun H' m' => k H' (m.trans m')⟩
  | no => exact h
theorem PostA.grow {r : R (List (Kd × D))} {Q : List V → Hp → Prop} (h : PostA X exc S σ H r Q) (m : Same H H1) : PostA X exc S σ H1 r Q := by
  cases r with
  | ok p => exact fun v H' m' rs => h v H' (m.trans m') (rs.wide m)
  | ex c => obtain ⟨W, t, k⟩ := h; exact ⟨W, t, fun H' m' => k H' (m.trans m')⟩
  | no => exact h

/-- an expression, then what follows (any of the three ends) -/
theorem SE.seq {f : Env → R (Kd × D)} {k : Kd × D → R (Kd × D)} (ha : SE X exc e f) (r : SR X.K S env σ H) (h : Post X exc S σ H ((f env).bind k) Q)
    (hk : ∀ fr d v H1, f env = .ok (fr, d) → Same H H1 → Res X.K H H1 S fr v d → SR X.K S env σ H1 → Post X exc S σ H1 (k (fr, d)) Q → Q1 v H1) : wE X e σ H Q1 := by
  refine ha S env σ H Q1 r ?_
  cases q : f env with
  | ok p => rw [q] at h; exact fun v H1 m rs => hk p.1 p.2 v H1 q m rs (r.grow m) (Post.grow (r := k p) h m)
  | ex c => rw [q] at h; exact h
  | no => rw [q] at h; exact h
theorem SE.seqT {f : Env → R (Kd × D)} {k : Kd × D → R Bool} {Q : Bool → Hp → Prop} (ha : SE X exc e f) (r : SR X.K S env σ H) (h : PostT X exc S σ H ((f env).bind k) Q)
    (hk : ∀ fr d v H1, f env = .ok (fr, d) → Same H H1 → Res X.K H H1 S fr v d → SR X.K S env σ H1 → PostT X exc S σ H1 (k (fr, d)) Q → Q1 v H1) : wE X e σ H Q1 := by
  refine ha S env σ H Q1 r ?_
  cases q : f env with
  | ok p => rw [q] at h; exact fun v H1 m rs => hk p.1 p.2 v H1 q m rs (r.grow m) (PostT.grow (r := k p) h m)
  | ex c => rw [q] at h; exact h
  | no => rw [q] at h; exact h
theorem SE.seqA {f : Env → R (Kd × D)} {k : Kd × D → R (List (Kd × D))} {Q : List V → Hp → Prop} (ha : SE X exc e f) (r : SR X.K S env σ H) (h : PostA X exc S σ H ((f env).bind k) Q)
    (hk : ∀ fr d v H1, f env = .ok (fr, d) → Same H H1 → Res X.K H H1 S fr v d → SR X.K S env σ H1 → PostA X exc S σ H1 (k (fr, d)) Q → Q1 v H1) : wE X e σ H Q1 := by
  refine ha S env σ H Q1 r ?_
  cases q : f env with
  | ok p => rw [q] at h; exact fun v H1 m rs => hk p.1 p.2 v H1 q m rs (r.grow m) (PostA.grow (r := k p) h m)
  | ex c => rw [q] at h; exact h
  | no => rw [q] at h; exact h
theorem SA.seq {f : Env → R (List (Kd × D))} {k : List (Kd × D) → R (Kd × D)} {Q1 : List V → Hp → Prop} (ha : SA X exc es f) (r : SR X.K S env σ H) (h : Post X exc S σ H ((f env).bind k) Q)
    (hk : ∀ ds vs H1, f env = .ok ds → Same H H1 → ResAll X.K H1 H S vs ds → SR X.K S env σ H1 → Post X exc S σ H1 (k ds) Q → Q1 vs H1) : wA X es σ H Q1 := by
  refine ha S env σ H Q1 r ?_
  cases q : f env with
  | ok p => rw [q] at h; exact fun v H1 m rs => hk p v H1 q m rs (r.grow m) (Post.grow (r := k p) h m)
  | ex c => rw [q] at h; exact h
  | no => rw [q] at h; exact h
theorem ST.seq {f : Env → R Bool} {k : Bool → R (Kd × D)} {Q1 : Bool → Hp → Prop} (ha : ST X exc e f) (r : SR X.K S env σ H) (h : Post X exc S σ H ((f env).bind k) Q)
    (hk : ∀ b H1, f env = .ok b → Same H H1 → SR X.K S env σ H1 → Post X exc S σ H1 (k b) Q → Q1 b H1) : wT X e σ H Q1 := by
  refine ha S env σ H Q1 r ?_
  cases q : f env with
  | ok p => rw [q] at h; exact fun H1 m => hk p H1 q m (r.grow m) (Post.grow (r := k p) h m)
  | ex c => rw [q] at h; exact h
  | no => rw [q] at h; exact h
theorem ST.seqT {f : Env → R Bool} {k : Bool → R Bool} {Q : Bool → Hp → Prop} {Q1 : Bool → Hp → Prop} (ha : ST X exc e f) (r : SR X.K S env σ H) (h : PostT X exc S σ H ((f env).bind k) Q)
    (hk : ∀ b H1, f env = .ok b → Same H H1 → SR X.K S env σ H1 → PostT X exc S σ H1 (k b) Q → Q1 b H1) : wT X e σ H Q1 := by
  refine ha S env σ H Q1 r ?_
  cases q : f env with
  | ok p => rw [q] at h; exact fun H1 m => hk p H1 q m (r.grow m) (PostT.grow (r := k p) h m)
  | ex c => rw [q] at h; exact h
  | no => rw [q] at h; exact h
end
end Rf

namespace Rf
open PySem PySem.Spec L2
open PyProof.Rows hiding St

abbrev RV := R (Kd × D)
/-- without an exception -/
def PostV (K : PySem.W.Frag) (S : Addr → Prop) (H : Hp) (r : RV) (Q : VK) : Prop :=
  match r with
  | .ok (fr, d) => ∀ v H', Same H H' → Res K H H' S fr v d → Q v H'
  | _ => False
def r2 (K : PySem.W.Frag) (op : D → D → RV) : R2 := fun x y H Q => ∃ (S : Addr → Prop) (d e : D), (∀ b, S b → Mut (H b)) ∧ BRep K H S x d ∧ BRep K H S y e ∧ PostV K S H (op d e) Q
def r1 (K : PySem.W.Frag) (op : D → RV) : V → Hp → VK → Prop := fun x H Q => ∃ (S : Addr → Prop) (d : D), (∀ b, S b → Mut (H b)) ∧ BRep K H S x d ∧ PostV K S H (op d) Q
def rs (K : PySem.W.Frag) (op : List D → RV) : List V → Hp → VK → Prop := fun xs H Q => ∃ (S : Addr → Prop) (ds : List D), (∀ b, S b → Mut (H b)) ∧ BAll K H S xs ds ∧ PostV K S H (op ds) Q

section
variable {K : PySem.W.Frag} {H H' : Hp} {S : Addr → Prop} {Q : VK} {a : Addr} {d : D}
theorem PostV.val {v : V} (p : PostV K S H (.ok (.old, d)) Q) (r : Rep K H S v d) : Q v H := p v H (Same.refl H) (.old r)
theorem same_upd {p : Addr} {o : HO} (hp : H p = none) : Same H (upd H p o) := fun b u e => by rw [upd_ne (ne_of_none e hp)]; exact e
theorem PostV.newL {ds : List D} {xs : List V} {p : Addr} (h : PostV K S H (.ok (.new, .list ds)) Q) (t : ∀ b, S b → Mut (H b)) (hp : H p = none) (r : RepAll K H S xs ds) : Q (.ref p) (upd H p (.lst xs)) := by
  have m : Same H (upd H p (.lst xs)) := same_upd hp
  refine h _ _ m (.new hp (.lst upd_same (r.mono (fun b u e _ => m b u e) t fun b q => ?_)))
  rcases q with q | q
  · exact .inl q
  · exact .inr (by rw [q]; exact hp)
theorem PostV.newT {ds : List D} {xs : List V} {p : Addr} (h : PostV K S H (.ok (.old, .tuple ds)) Q) (t : ∀ b, S b → Mut (H b)) (hp : H p = none) (r : RepAll K H S xs ds) : Q (.ref p) (upd H p (.tup xs)) := by
  have m : Same H (upd H p (.tup xs)) := same_upd hp
  exact h _ _ m (.old (.tup (SqT.of upd_same) (r.grow m t)))
theorem RepAll.append {xs ys : List V} {ds es : List D} (r : RepAll K H S xs ds) (q : RepAll K H S ys es) : RepAll K H S (xs ++ ys) (ds ++ es) := by
  induction xs generalizing ds with
  | nil => cases r; exact q
  | cons x xs ih => cases r with
    | cons r1 r2 => exact .cons r1 (ih r2)
theorem RepAll.length {xs : List V} {ds : List D} (r : RepAll K H S xs ds) : xs.length = ds.length := by
  induction xs generalizing ds with
  | nil => cases r; rfl
  | cons x xs ih => cases r with
    | cons r1 r2 => simp [ih r2]
theorem RepAll.get {xs : List V} {ds : List D} (r : RepAll K H S xs ds) {i : Nat} {d : D} (h : ds[i]? = some d) : ∃ v, xs[i]? = some v ∧ Rep K H S v d := by
  induction xs generalizing ds i with
  | nil => cases r; simp at h
  | cons x xs ih => cases r with
    | cons r1 r2 => cases i with
      | zero => simp at h; subst h; exact ⟨_, by simp, r1⟩
      | succ i => exact (ih r2 (by simpa using h)).imp fun v q => ⟨by simpa using q.1, q.2⟩
theorem RepAll.get' {xs : List V} {ds : List D} (r : RepAll K H S xs ds) {i : Nat} {v : V} (h : xs[i]? = some v) : ∃ d, ds[i]? = some d ∧ Rep K H S v d := by
  induction xs generalizing ds i with
  | nil => simp at h
  | cons x xs ih => cases r with
    | cons r1 r2 => cases i with
      | zero => simp at h; subst h; exact ⟨_, by simp, r1⟩
      | succ i => exact (ih r2 (by simpa using h)).imp fun v q => ⟨by simpa using q.1, q.2⟩
theorem RepAll.drop {xs : List V} {ds : List D} (r : RepAll K H S xs ds) (n : Nat) : RepAll K H S (xs.drop n) (ds.drop n) := by
  induction n generalizing xs ds with
  | zero => exact r
  | succ n ih => cases r with
    | nil => exact .nil
    | cons r1 r2 => exact ih r2
theorem RepAll.take {xs : List V} {ds : List D} (r : RepAll K H S xs ds) (n : Nat) : RepAll K H S (xs.take n) (ds.take n) := by
  induction n generalizing xs ds with
  | zero => exact .nil
  | succ n ih => cases r with
    | nil => exact .nil
    | cons r1 r2 => exact .cons r1 (ih r2)
theorem RepAll.set {xs : List V} {ds : List D} (r : RepAll K H S xs ds) (n : Nat) {v : V} {d : D} (q : Rep K H S v d) : RepAll K H S (xs.set n v) (ds.set n d) := by
  induction n generalizing xs ds with
  | zero => cases r with
    | nil => exact .nil
    | cons r1 r2 => exact .cons q r2
  | succ n ih => cases r with
    | nil => exact .nil
    | cons r1 r2 => exact .cons r1 (ih r2)
theorem RepAll.rep {xs : List V} {ds : List D} (r : RepAll K H S xs ds) (n : Nat) : RepAll K H S (List.replicate n xs).flatten (List.replicate n ds).flatten := by
  induction n with
  | zero => exact .nil
  | succ n ih => rw [List.replicate_succ, List.replicate_succ, List.flatten_cons, List.flatten_cons]; exact r.append ih
theorem RepAll.ints {xs : List V} {ns : List Int} (r : RepAll K H S xs (ns.map PyData.int)) : xs = ns.map V.int := by
  induction ns generalizing xs with
  | nil => cases r; rfl
  | cons n ns ih => cases r with
    | cons r1 r2 => cases r1; rw [ih r2]; rfl
theorem RepAll.ofInts {ns : List Int} : RepAll K H S (ns.map V.int) (ns.map PyData.int) := by
  induction ns with
  | nil => exact .nil
  | cons n ns ih => exact .cons (.int n) ih
theorem LAt.sq {xs : List V} (l : LAt K H S a xs) : SqL K H a xs := by
  cases l with
  | trk t _ => exact .inl t
theorem LAt.rd {xs : List V} (l : LAt K H S a xs) : Rd H a (.lst xs) := by
  cases l with
  | trk t _ => exact t
mutual
theorem Rep.dp : ∀ {v : V} {d : D}, Rep K H S v d → d.canLay0 = true → Dp K H v d
  | _, _, .non, _ => .non
  | _, _, .bl b, _ => .bl b
  | _, _, .int i, _ => .int i
  | _, _, .str x, _ => .str x
  | _, _, .lst l r, h => .lst l.sq (r.dp (by simpa [PyData.canLay0] using h))
  | _, _, .tup t r, h => .tup t (r.dp (by simpa [PyData.canLay0] using h))
  | _, _, .dct _, h => by simp [PyData.canLay0] at h
theorem RepAll.dp : ∀ {vs : List V} {ds : List D}, RepAll K H S vs ds → PyData.canLayAll0 ds = true → DpAll K H vs ds
  | _, _, .nil, _ => .nil
  | _, _, .cons r t, h => by
    simp only [PyData.canLayAll0, Bool.and_eq_true] at h
    exact .cons (r.dp h.1) (t.dp h.2)
end
theorem shaped_lay {d : D} (h : SeqAt.shaped d = true) : d.canLay0 = true := by
  unfold SeqAt.shaped at h
  exact (Bool.and_eq_true_iff.mp h).1
end

/-! ### two-place operations -/
def okv (d : D) : RV := .ok (.old, d)
def okn (d : D) : RV := .ok (.new, d)
def chk (b : Bool) (r : RV) : RV := match b with
  | true => r
  | false => .no
def addD : D → D → RV
  | .int i, .int j => okv (.int (i + j))
  | .list xs, .list ys => chk (Nat.ble (xs.length + ys.length) 16777216) (okn (.list (xs ++ ys)))
  | .tuple xs, .tuple ys => chk (Nat.ble (xs.length + ys.length) 16777216) (okv (.tuple (xs ++ ys)))
  | .str a, .str b => chk (Nat.ble (a.length + b.length) 16777216) (okv (.str (a ++ b)))
  | _, _ => .no
def subD : D → D → RV
  | .int i, .int j => okv (.int (i - j))
  | _, _ => .no
def mulD : D → D → RV
  | .int i, .int j => chk (Nat.ble (Nat.log2 i.natAbs) 20000 && Nat.ble (Nat.log2 j.natAbs) 20000) (okv (.int (i * j)))
  | .list xs, .int k => chk (decide (-(2 ^ 63) ≤ k) && decide (k < 2 ^ 63) && Nat.ble (xs.length * k.toNat) 16777216) (okn (.list (List.replicate k.toNat xs).flatten))
  | _, _ => .no
def modD : D → D → RV
  | .int i, .int j => chk (decide (0 < j)) (okv (.int (i % j)))
  | _, _ => .no
def fdivD : D → D → RV
  | .int i, .int j => chk (decide (0 < j) && decide (j < 1073741824)) (okv (.int (i / j)))
  | _, _ => .no
def powD : D → D → RV
  | .int i, .int j => chk (decide (0 ≤ j) && decide (j ≤ 1000000) && Nat.ble i.natAbs 18446744073709551615) (okv (.int (i ^ j.toNat)))
  | _, _ => .no

theorem chk_ok {K : PySem.W.Frag} {S : Addr → Prop} {H : Hp} {Q : VK} {b : Bool} {r : RV} (h : PostV K S H (chk b r) Q) : b = true ∧ PostV K S H r Q := by
  cases b with
  | true => exact ⟨rfl, h⟩
  | false => exact (show False from h).elim
section
variable {X : Cx}
theorem rd_obj {pins : List (Addr × Obj)} {σ : L2.St} {H : Hp} {s : Shared} {l : Addr} {xs : List V} (I : Inv X pins σ H s) (h : Rd H l (.lst xs)) :
    xs.length ≤ sizeLine ∧ ∃ (its : List Value) (n : Nat), Vals xs its ∧ xs.length = its.length ∧ s.heap.get? l = some { cls := .type "list", data := .seq its.toArray n } := by
  obtain ⟨z, its, n, r, e⟩ := h.ok I.hok
  exact ⟨z, its, n, r, r.length, e⟩
/-- list + list, each tracked or locked -/
def rCatR : R2 := fun x y H Q => ∃ l b xs zs, x = .ref l ∧ y = .ref b ∧ Rd H l (.lst xs) ∧ Rd H b (.lst zs) ∧ xs.length + zs.length ≤ sizeLine ∧ ∀ p, H p = none → Q (.ref p) (upd H p (.lst (xs ++ zs)))
theorem op_catR : OpR X (binaryOp .Add) rCatR := by
  intro pins s σ H x y v u Q I rx ry h
  obtain ⟨l, b, xs, zs, rfl, rfl, hH, hB, hz, q⟩ := h
  cases rx
  cases ry
  obtain ⟨z, its, n, r, hl, e⟩ := rd_obj I hH
  obtain ⟨z2, its2, n2, r2, hl2, e2⟩ := rd_obj I hB
  refine PySem.P.add_list e e2 ?_ (by rw [List.size_toArray, List.size_toArray]; omega)
  have ea : its.toArray ++ its2.toArray = (its ++ its2).toArray := by simp
  rw [ea]
  exact ⟨.ref _, _, I.lnew (t' := s.toks) (r.append r2) (by rw [List.length_append]; omega), rfl, q _ I.fresh⟩
theorem many_eq (ws : List Value) (m : Nat) : List.foldl (fun p q => p ++ q) #[] (List.replicate (if ws.toArray.isEmpty = true then 0 else m) ws.toArray) = (List.replicate m ws).flatten.toArray := by
  cases ws with
  | nil => simp
  | cons b bs =>
    rw [if_neg (by simp)]
    have z := foldl_rep (b :: bs) m []
    rw [List.nil_append] at z
    exact z
/-- list * int, the list tracked or locked -/
def rRepR : R2 := fun x y H Q => ∃ l k xs, x = .ref l ∧ y = .int k ∧ Rd H l (.lst xs) ∧ -(2 ^ 63) ≤ k ∧ k < 2 ^ 63 ∧ xs.length * k.toNat ≤ sizeLine ∧ ∀ p, H p = none → Q (.ref p) (upd H p (.lst (List.replicate k.toNat xs).flatten))
theorem op_repR : OpR X (binaryOp .Mult) rRepR := by
  intro pins s σ H x y v u Q I rx ry ⟨l, k, xs, e1, e2, hH, lo, hi, hz, q⟩
  subst e1 e2
  obtain rfl : v = Value.ref l := rx
  obtain ⟨tk, rfl⟩ := ry
  obtain ⟨z, ws, c, r, hl, e⟩ := rd_obj I hH
  have small : ws.toArray.size * k.toNat ≤ sizeLine := by rw [List.size_toArray, ← hl]; exact hz
  have nocap : ¬ ws.toArray.size * k.toNat > (2 ^ 63 - 1) / 8 := by
    rw [sizeLine_eq] at small
    have : (16777216 : Nat) ≤ (2 ^ 63 - 1) / 8 := by decide
    omega
  have fits : ¬ (!Builtin.List.listFitsIndex k) = true := by rw [fitsIndex_both lo hi]; simp
  have long : ¬ Builtin.List.listTooLong (ws.toArray.size * k.toNat) = true := by rw [notLongL small]; simp
  refine wpAny_binaryOp_repeat_ref (T := "list") (U := "int") (by decide) ⟨_, e, rfl⟩ (fun s' => typeIs_int s' k tk) noFill_list_mul F.fills_int_mul F.slot_int_rmul repeat_list F.slot_int_index.lookup
    (call_meets F.slot_int_rmul (typeIs_int s k tk) F.entry_int_rmul (F.args_int_rmul_2 _ _) (int___rmul___int_list k tk l ws.toArray c) ⟨e, rfl, ⟨_, e, rfl⟩, call_meets F.slot_list_mul ⟨_, e, rfl⟩ F.entry_list_mul (F.args_list_mul_2 _ _) (AutoListH.list___mul___list_int_3 l ws.toArray c k tk fits nocap long) ⟨e, ?_⟩⟩)
  rw [many_eq]
  exact ⟨.ref _, _, I.lnew (t' := s.toks) (r.rep k.toNat) (by rw [PyProof.Rows.lm_len_rep_flat, Nat.mul_comm]; exact hz), rfl, q _ I.fresh⟩
theorem op_addD : OpR X (binaryOp .Add) (r2 X.K addD) := by
  intro pins s σ H x y v u Q I rx ry ⟨S, d, e, t, rd, re, p⟩
  unfold addD at p
  split at p
  · obtain rfl := rd.int; obtain rfl := re.int
    exact op_add pins s σ H _ _ v u Q I rx ry ⟨_, _, rfl, rfl, p.val (.int _)⟩
  · obtain ⟨h, p⟩ := chk_ok p
    have h' := Nat.le_of_ble_eq_true h
    obtain ⟨a1, x1, rfl, l1, r1⟩ := rd.lst
    obtain ⟨a2, x2, rfl, l2, r2⟩ := re.lst
    refine op_catR pins s σ H _ _ v u Q I rx ry ⟨_, _, _, _, rfl, rfl, l1, l2, ?_, fun q hq => p.newL t hq (r1.append r2)⟩
    rw [r1.length, r2.length, sizeLine_eq]; exact h'
  · obtain ⟨h, p⟩ := chk_ok p
    have h' := Nat.le_of_ble_eq_true h
    obtain ⟨a1, x1, rfl, l1, r1⟩ := rd.tup
    obtain ⟨a2, x2, rfl, l2, r2⟩ := re.tup
    refine op_catA pins s σ H _ _ v u Q I rx ry ⟨_, _, _, _, rfl, rfl, l1, l2, ?_, fun e => ?_, fun _ e => ?_, fun _ _ q hq => p.newT t hq (r1.append r2)⟩
    · rw [r1.length, r2.length, sizeLine_eq]; exact h'
    · subst e; cases r1; exact p.val (.tup l2 r2)
    · subst e; cases r2; exact p.val (.tup l1 (by rw [List.append_nil]; exact r1))
  · obtain ⟨h, p⟩ := chk_ok p
    have h' := Nat.le_of_ble_eq_true h
    obtain rfl := rd.str; obtain rfl := re.str
    exact op_add_str pins s σ H _ _ v u Q I rx ry ⟨_, _, rfl, rfl, by rw [sizeLine_eq]; exact h', p.val (.str _)⟩
  · exact p.elim
theorem op_subD : OpR X (binaryOp .Sub) (r2 X.K subD) := by
  intro pins s σ H x y v u Q I rx ry ⟨S, d, e, t, rd, re, p⟩
  unfold subD at p
  split at p
  · obtain rfl := rd.int; obtain rfl := re.int
    exact op_sub pins s σ H _ _ v u Q I rx ry ⟨_, _, rfl, rfl, p.val (.int _)⟩
  · exact p.elim
theorem lt_of_log2 {n k : Nat} (h : Nat.log2 n ≤ k) : n < 2 ^ (k + 1) := Nat.lt_of_lt_of_le Nat.lt_log2_self (Nat.pow_le_pow_right (by decide) (Nat.succ_le_succ h))
theorem op_mulD : OpR X (binaryOp .Mult) (r2 X.K mulD) := by
  intro pins s σ H x y v u Q I rx ry ⟨S, d, e, t, rd, re, p⟩
  unfold mulD at p
  split at p
  · obtain ⟨h, p⟩ := chk_ok p
    obtain ⟨h1, h2⟩ := Bool.and_eq_true_iff.mp h
    obtain rfl := rd.int; obtain rfl := re.int
    exact op_mulW pins s σ H _ _ v u Q I rx ry ⟨_, _, rfl, rfl, wide_mul (lt_of_log2 (Nat.le_of_ble_eq_true h1)) (lt_of_log2 (Nat.le_of_ble_eq_true h2)) (by decide) (by decide) (by decide), p.val (.int _)⟩
  · obtain ⟨h, p⟩ := chk_ok p
    simp only [Bool.and_eq_true, decide_eq_true_eq] at h
    obtain ⟨⟨h1, h2⟩, h3⟩ := h
    obtain rfl := re.int
    obtain ⟨a1, x1, rfl, l, r⟩ := rd.lst
    exact op_repR pins s σ H _ _ v u Q I rx ry ⟨_, _, _, rfl, rfl, l, h1, h2, by rw [r.length, sizeLine_eq]; exact Nat.le_of_ble_eq_true h3, fun q hq => p.newL t hq (r.rep _)⟩
  · exact p.elim
theorem op_modD : OpR X (binaryOp .Mod) (r2 X.K modD) := by
  intro pins s σ H x y v u Q I rx ry ⟨S, d, e, t, rd, re, p⟩
  unfold modD at p
  split at p
  · obtain ⟨h, p⟩ := chk_ok p
    obtain rfl := rd.int; obtain rfl := re.int
    exact op_mod pins s σ H _ _ v u Q I rx ry ⟨_, _, rfl, rfl, of_decide_eq_true h, p.val (.int _)⟩
  · exact p.elim
theorem op_fdivD : OpR X (binaryOp .FloorDiv) (r2 X.K fdivD) := by
  intro pins s σ H x y v u Q I rx ry ⟨S, d, e, t, rd, re, p⟩
  unfold fdivD at p
  split at p
  · obtain ⟨h, p⟩ := chk_ok p
    obtain ⟨h1, h2⟩ := Bool.and_eq_true_iff.mp h
    obtain rfl := rd.int; obtain rfl := re.int
    exact op_fdiv pins s σ H _ _ v u Q I rx ry ⟨_, _, rfl, rfl, ⟨of_decide_eq_true h1, of_decide_eq_true h2⟩, p.val (.int _)⟩
  · exact p.elim
theorem op_powD : OpR X (binaryOp .Pow) (r2 X.K powD) := by
  intro pins s σ H x y v u Q I rx ry ⟨S, d, e, t, rd, re, p⟩
  unfold powD at p
  split at p
  · obtain ⟨h, p⟩ := chk_ok p
    simp only [Bool.and_eq_true, decide_eq_true_eq] at h
    obtain ⟨⟨h1, h2⟩, h3⟩ := h
    obtain rfl := rd.int; obtain rfl := re.int
    exact op_pow pins s σ H _ _ v u Q I rx ry ⟨_, _, rfl, rfl, ⟨h1, h2, Nat.lt_of_le_of_lt (Nat.le_of_ble_eq_true h3) (by decide)⟩, p.val (.int _)⟩
  · exact p.elim
end
end Rf

namespace Rf
open PySem PySem.Spec L2
open PyProof.Rows hiding St

section
variable {K : PySem.W.Frag} {H : Hp} {S : Addr → Prop} {Q : VK} {v : V} {d : D}
theorem BRep.dp (r : BRep K H S v d) (h : d.canLay0 = true) : Dp K H v d := by
  cases r with
  | rep r => exact r.dp h
  | own o => cases o with
    | lst e r => exact .lst (SqL.of e) (r.dp (by simpa [PyData.canLay0] using h))
    | dK e r => simp [PyData.canLay0] at h
end

/-! ### comparisons -/
def flatD : D → Bool
  | .none | .bool _ | .int _ | .str _ => true
  | _ => false
def isNoneD : D → Bool
  | .none => true
  | _ => false
inductive Co where
  | eq | ne | lt | le | gt | ge | inn | nin | is | isn
def Co.op : Co → CmpOp
  | .eq => .Eq | .ne => .NotEq | .lt => .Lt | .le => .LtE | .gt => .Gt | .ge => .GtE | .inn => .In | .nin => .NotIn | .is => .Is | .isn => .IsNot
def anyEq (d : D) : List D → Bool
  | [] => false
  | z :: zs => match PyData.eqv z d with
    | true => true
    | false => anyEq d zs
theorem anyEq_eq (d : D) (zs : List D) : anyEq d zs = zs.any fun z => PyData.eqv z d := by
  induction zs with
  | nil => rfl
  | cons z zs ih => unfold anyEq; rw [List.any_cons, ← ih]; cases PyData.eqv z d <;> rfl
def inD (neg : Bool) (d : D) : D → RV
  | .list ds => chk (SeqAt.shaped d && SeqAt.shaped (.list ds)) (okv (.bool (xor neg (anyEq d ds))))
  | .tuple ds => chk (flatD d && ds.all flatD) (okv (.bool (xor neg (anyEq d ds))))
  | _ => .no
def cmpD : Co → D → D → RV
  | .eq, d, e => chk (SeqAt.shaped d && SeqAt.shaped e) (okv (.bool (PyData.eqv d e)))
  | .ne, d, e => chk (SeqAt.shaped d && SeqAt.shaped e) (okv (.bool (!PyData.eqv d e)))
  | .lt, .int i, .int j => okv (.bool (decide (i < j)))
  | .le, .int i, .int j => okv (.bool (decide (i ≤ j)))
  | .gt, .int i, .int j => okv (.bool (decide (j < i)))
  | .ge, .int i, .int j => okv (.bool (decide (j ≤ i)))
  | .inn, d, e => inD false d e
  | .nin, d, e => inD true d e
  | .is, d, .none => okv (.bool (isNoneD d))
  | .isn, d, .none => okv (.bool (!isNoneD d))
  | _, _, _ => .no
section
variable {K : PySem.W.Frag} {H : Hp} {S : Addr → Prop}
theorem Rep.flat {v : V} {d : D} (r : Rep K H S v d) (h : flatD d = true) : flatV v = true := by
  cases r <;> first | rfl | exact absurd h (by simp [flatD])
theorem BRep.flat {v : V} {d : D} (r : BRep K H S v d) (h : flatD d = true) : flatV v = true := by
  cases r with
  | rep r => exact r.flat h
  | own o => cases o <;> exact absurd h (by simp [flatD])
theorem RepAll.flat {vs : List V} {ds : List D} (r : RepAll K H S vs ds) (h : ds.all flatD = true) : vs.all flatV = true := by
  induction vs generalizing ds with
  | nil => rfl
  | cons v vs ih => cases r with
    | cons r1 r2 =>
      simp only [List.all_cons, Bool.and_eq_true] at h ⊢
      exact ⟨r1.flat h.1, ih r2 h.2⟩
theorem eqV_eqv {v u : V} {d e : D} (r : BRep K H S v d) (q : Rep K H S u e) (hd : flatD d = true) (he : flatD e = true) : eqV u v = PyData.eqv e d := by
  cases r with
  | own o => cases o <;> exact absurd hd (by simp [flatD])
  | rep r =>
    cases r <;> cases q <;> first
      | rfl
      | exact absurd hd (by simp [flatD])
      | exact absurd he (by simp [flatD])
      | (simp [eqV, PyData.eqv]; done)
      | (simp only [eqV, PyData.eqv])
theorem inV_any {v : V} {d : D} (r : BRep K H S v d) (hd : flatD d = true) {us : List V} {es : List D} (q : RepAll K H S us es) (he : es.all flatD = true) : inV v us = anyEq d es := by
  rw [anyEq_eq]
  unfold inV
  induction us generalizing es with
  | nil => cases q; rfl
  | cons u us ih => cases q with
    | cons q1 q2 =>
      simp only [List.all_cons, Bool.and_eq_true] at he
      rw [List.any_cons, List.any_cons, ih q2 he.2, eqV_eqv r q1 hd he.1]
theorem BRep.isN {v : V} {d : D} (r : BRep K H S v d) : decide (v = .non) = isNoneD d := by
  cases r with
  | rep r => cases r <;> rfl
  | own o => cases o <;> rfl
end
section
variable {X : Cx} {k : Nat}
theorem op_cmpD (hr : Room k X.A) (c : Co) : OpR X (compareOp c.op) (r2 X.K (cmpD c)) := by
  have hu := hr.units
  have hu2 : X.A.units + 65 < cLine := by have := hr.un; omega
  intro pins s σ H x y v u Q I rx ry ⟨S, d, e, t, rd, re, p⟩
  have inn : ∀ {neg : Bool} {op : CmpOp}, (op = (if neg then .NotIn else .In)) → PostV X.K S H (inD neg d e) Q → wpAny (model X.prog X.w) X.A (compareOp op v u) (EP X pins σ Q) X.xe s := by
    intro neg op ho p
    unfold inD at p
    split at p
    · obtain ⟨h, p⟩ := chk_ok p
      obtain ⟨h1, h2⟩ := Bool.and_eq_true_iff.mp h
      have l2 := shaped_lay h2
      cases neg with
      | false =>
        rw [if_neg (by simp)] at ho; subst ho
        refine op_inD hu2 pins s σ H _ _ v u Q I rx ry ⟨_, _, rd.dp (shaped_lay h1), re.dp l2, h1, h2, ?_⟩
        rw [← anyEq_eq]
        simpa using p.val (.bl _)
      | true =>
        rw [if_pos rfl] at ho; subst ho
        refine op_notInD hu2 pins s σ H _ _ v u Q I rx ry ⟨_, _, rd.dp (shaped_lay h1), re.dp l2, h1, h2, ?_⟩
        rw [← anyEq_eq]
        simpa using p.val (.bl _)
    · obtain ⟨h, p⟩ := chk_ok p
      obtain ⟨h1, h2⟩ := Bool.and_eq_true_iff.mp h
      obtain ⟨a, xs, rfl, l, r⟩ := re.tup
      have e1 := inV_any rd h1 r h2
      cases neg with
      | false =>
        rw [if_neg (by simp)] at ho; subst ho
        refine op_in_seq pins s σ H _ _ v u Q I rx ry ⟨_, _, rfl, .inr l, rd.flat h1, r.flat h2, ?_⟩
        rw [e1]
        simpa using p.val (.bl _)
      | true =>
        rw [if_pos rfl] at ho; subst ho
        refine op_notIn_seq pins s σ H _ _ v u Q I rx ry ⟨_, _, rfl, .inr l, rd.flat h1, r.flat h2, ?_⟩
        rw [e1]
        simpa using p.val (.bl _)
    · exact p.elim
  unfold cmpD at p
  split at p
  · obtain ⟨h, p⟩ := chk_ok p
    obtain ⟨h1, h2⟩ := Bool.and_eq_true_iff.mp h
    exact op_eqD hu pins s σ H _ _ v u Q I rx ry ⟨_, _, rd.dp (shaped_lay h1), re.dp (shaped_lay h2), h1, h2, p.val (.bl _)⟩
  · obtain ⟨h, p⟩ := chk_ok p
    obtain ⟨h1, h2⟩ := Bool.and_eq_true_iff.mp h
    exact op_neD hu pins s σ H _ _ v u Q I rx ry ⟨_, _, rd.dp (shaped_lay h1), re.dp (shaped_lay h2), h1, h2, p.val (.bl _)⟩
  · obtain rfl := rd.int; obtain rfl := re.int
    exact op_lt pins s σ H _ _ v u Q I rx ry ⟨_, _, rfl, rfl, p.val (.bl _)⟩
  · obtain rfl := rd.int; obtain rfl := re.int
    exact op_le pins s σ H _ _ v u Q I rx ry ⟨_, _, rfl, rfl, p.val (.bl _)⟩
  · obtain rfl := rd.int; obtain rfl := re.int
    exact op_gt pins s σ H _ _ v u Q I rx ry ⟨_, _, rfl, rfl, p.val (.bl _)⟩
  · obtain rfl := rd.int; obtain rfl := re.int
    exact op_ge pins s σ H _ _ v u Q I rx ry ⟨_, _, rfl, rfl, p.val (.bl _)⟩
  · exact inn rfl p
  · exact inn rfl p
  · obtain rfl := re.non
    exact op_isN pins s σ H _ _ v u Q I rx ry ⟨rfl, by rw [rd.isN]; exact p.val (.bl _)⟩
  · obtain rfl := re.non
    exact op_notN pins s σ H _ _ v u Q I rx ry ⟨rfl, by rw [rd.isN]; exact p.val (.bl _)⟩
  · exact p.elim
end

/-! ### dicts of ints and texts -/
def eqKD : D → D → Bool
  | .int i, .int j => decide (i = j)
  | .str x, .str y => decide (x = y)
  | _, _ => false
def dgetD : List (D × D) → D → Option D
  | [], _ => none
  | p :: r, k => match eqKD p.1 k with
    | true => some p.2
    | false => dgetD r k
def dputD (kvs : List (D × D)) (k v : D) : List (D × D) := match kvs.any fun p => eqKD p.1 k with
  | true => kvs.map fun p => match eqKD p.1 k with
    | true => (p.1, v)
    | false => p
  | false => kvs ++ [(k, v)]
def isKD : D → Bool
  | .int _ => true
  | .str _ => true
  | _ => false
/-- no key is a tuple -/
def kKD : List (D × D) → Bool
  | [] => true
  | p :: _ => isKD p.1
def kD : Key → D
  | .inl i => .int i
  | .inr x => .str x
theorem isKD_key {d : D} (h : isKD d = true) : ∃ k, d = kD k := by
  cases d with
  | int i => exact ⟨.inl i, rfl⟩
  | str x => exact ⟨.inr x, rfl⟩
  | _ => cases h
theorem eqKD_key (a b : Key) : eqKD (kD a) (kD b) = decide (a = b) := by
  cases a <;> cases b <;> simp [kD, eqKD]
section
variable {K : PySem.W.Frag} {H : Hp} {S : Addr → Prop}
theorem RepK.uncons {kv : Key × V} {es : List (Key × V)} {kvs : List (D × D)} (r : RepK K H S (kv :: es) kvs) : ∃ d kvs', kvs = (kD kv.1, d) :: kvs' ∧ Rep K H S kv.2 d ∧ RepK K H S es kvs' := by
  cases r with
  | int a b => exact ⟨_, _, rfl, a, b⟩
  | str a b => exact ⟨_, _, rfl, a, b⟩
theorem RepK.cons {k : Key} {v : V} {es : List (Key × V)} {d : D} {kvs : List (D × D)} (a : Rep K H S v d) (b : RepK K H S es kvs) : RepK K H S ((k, v) :: es) ((kD k, d) :: kvs) := by
  cases k with
  | inl i => exact .int a b
  | inr x => exact .str a b
theorem RepK.length {es : List (Key × V)} {kvs : List (D × D)} (r : RepK K H S es kvs) : es.length = kvs.length := by
  induction es generalizing kvs with
  | nil => cases r; rfl
  | cons kv es ih => obtain ⟨d, kvs', rfl, _, r'⟩ := r.uncons; simp [ih r']
theorem RepK.get {es : List (Key × V)} {kvs : List (D × D)} (r : RepK K H S es kvs) (k : Key) : (∀ d, dgetD kvs (kD k) = some d → ∃ v, valV es k = some v ∧ Rep K H S v d) ∧ (dgetD kvs (kD k) = none → valV es k = none) := by
  induction es generalizing kvs with
  | nil => cases r; exact ⟨fun d h => (by cases h), fun _ => rfl⟩
  | cons kv es ih =>
    obtain ⟨d, kvs', rfl, a, r'⟩ := r.uncons
    unfold dgetD
    rw [show (kD kv.1, d).1 = kD kv.1 from rfl, eqKD_key]
    by_cases e : kv.1 = k
    · rw [decide_eq_true e, valV_pos e]
      exact ⟨fun d2 h => by cases h; exact ⟨_, rfl, a⟩, fun h => by cases h⟩
    · rw [decide_eq_false e, valV_neg e]
      exact ih r'
theorem RepK.any {es : List (Key × V)} {kvs : List (D × D)} (r : RepK K H S es kvs) (k : Key) : (kvs.any fun p => eqKD p.1 (kD k)) = (es.any fun kv => decide (kv.1 = k)) := by
  induction es generalizing kvs with
  | nil => cases r; rfl
  | cons kv es ih =>
    obtain ⟨d, kvs', rfl, a, r'⟩ := r.uncons
    rw [List.any_cons, List.any_cons, ih r', eqKD_key]
theorem RepK.mapP {es : List (Key × V)} {kvs : List (D × D)} (r : RepK K H S es kvs) (k : Key) {v : V} {d : D} (q : Rep K H S v d) : RepK K H S (es.map fun kv => if kv.1 = k then (kv.1, v) else kv) (kvs.map fun p => match eqKD p.1 (kD k) with | true => (p.1, d) | false => p) := by
  induction es generalizing kvs with
  | nil => cases r; exact .nil
  | cons kv es ih =>
    obtain ⟨d0, kvs', rfl, a, r'⟩ := r.uncons
    rw [List.map_cons, List.map_cons]
    dsimp only
    rw [eqKD_key]
    by_cases e : kv.1 = k
    · rw [if_pos e, decide_eq_true e]; exact .cons q (ih r')
    · rw [if_neg e, decide_eq_false e]; exact .cons a (ih r')
theorem RepK.app {es es' : List (Key × V)} {kvs kvs' : List (D × D)} (r : RepK K H S es kvs) (r2 : RepK K H S es' kvs') : RepK K H S (es ++ es') (kvs ++ kvs') := by
  induction es generalizing kvs with
  | nil => cases r; exact r2
  | cons kv es ih => obtain ⟨d0, kvs0, rfl, a, r'⟩ := r.uncons; exact .cons a (ih r')
theorem RepK.put {es : List (Key × V)} {kvs : List (D × D)} (r : RepK K H S es kvs) (k : Key) {v : V} {d : D} (q : Rep K H S v d) : RepK K H S (putK es k v) (dputD kvs (kD k) d) := by
  unfold putK dputD
  rw [r.any k]
  cases e : es.any fun kv => decide (kv.1 = k) with
  | true => rw [if_pos rfl]; exact r.mapP k q
  | false => rw [if_neg (by simp)]; exact r.app (.cons q .nil)
theorem Rep.key {v : V} {k : Key} (r : Rep K H S v (kD k)) : v = kV k := by
  cases k with
  | inl i => cases r; rfl
  | inr x => cases r; rfl
theorem BRep.key {v : V} {k : Key} (r : BRep K H S v (kD k)) : v = kV k := by
  cases r with
  | rep r => exact r.key
  | own o => cases k <;> cases o
theorem BRep.dct {v : V} {kvs : List (D × D)} (r : BRep K H S v (.dict kvs)) (hk : kKD kvs = true) (hn : kvs ≠ []) : ∃ a es, v = .ref a ∧ H a = some (.dK es) ∧ RepK K H S es kvs := by
  cases r with
  | rep r => cases r with
    | dct t => cases t with
      | dK e n r => exact ⟨_, _, rfl, e, r⟩
      | dT e n r => cases r with
        | nil => exact absurd rfl hn
        | cons a b => cases hk
  | own o => cases o with
    | dK e r => exact ⟨_, _, rfl, e, r⟩
theorem DGet.ofK {a : Addr} {es : List (Key × V)} (e : H a = some (.dK es)) (k : Key) : DGet H a (kV k) (valV es k) := .inl ⟨es, k, .inl e, rfl, rfl⟩
end
section
variable {X : Cx}
theorem ix_dict (hu : X.A.units + 1 < cLine) : IxR X (fun x y H Q => ∃ a v, x = .ref a ∧ DGet H a y (some v) ∧ Q v H) := by
  intro value slice pins s σ H x y v u Q I rx ry h hs
  obtain ⟨a, z, rfl, g, q⟩ := h
  obtain rfl : v = Value.ref a := rx
  exact tail_any (dict_typeIs I g) PySem.F.slot_dict_getitem.lookup (d_getItem hu I g ry fun w' s3 I3 rw' => ⟨z, H, I3, rw', q⟩) hs
end

/-! ### items, slices -/
def ixD : D → D → RV
  | .list ds, .int i => match atI ds i with
    | some d => okv d
    | none => .no
  | .tuple ds, .int i => match atI ds i with
    | some d => okv d
    | none => .no
  | .dict kvs, k => match isKD k && kKD kvs with
    | true => match dgetD kvs k with
      | some d => okv d
      | none => .no
    | false => .no
  | _, _ => .no
def cutD (ds : List D) (lo hi : Option Int) : List D := (ds.drop (HT.sIx ds.length 0 lo)).take (HT.sIx ds.length ds.length hi - HT.sIx ds.length 0 lo)
def slD : D → Option Int → Option Int → RV
  | .list ds, lo, hi => okn (.list (cutD ds lo hi))
  | .tuple ds, lo, hi => okv (.tuple (cutD ds lo hi))
  | _, _, _ => .no
section
variable {K : PySem.W.Frag} {H : Hp} {S : Addr → Prop}
theorem RepAll.atI {xs : List V} {ds : List D} (r : RepAll K H S xs ds) {i : Int} {d : D} (h : L2.atI ds i = some d) : ∃ v, L2.atI xs i = some v ∧ Rep K H S v d := by
  unfold L2.atI at h ⊢
  rw [r.length]
  cases e : ixN ds.length i with
  | none => rw [e] at h; cases h
  | some j =>
    rw [e] at h
    exact r.get h
theorem RepAll.cut {xs : List V} {ds : List D} (r : RepAll K H S xs ds) (lo hi : Option Int) : RepAll K H S (cutV xs lo hi) (cutD ds lo hi) := by
  unfold cutV cutD
  rw [r.length]
  exact (r.drop _).take _
end
section
variable {X : Cx}
theorem ix_D (hu : X.A.units + 1 < cLine) : IxR X (r2 X.K ixD) := by
  intro value slice pins s σ H x y v u Q I rx ry ⟨S, d, e, t, rd, re, p⟩
  unfold ixD at p
  split at p
  · split at p
    · rename_i h
      obtain rfl := re.int
      obtain ⟨a, xs, rfl, l, r⟩ := rd.lst
      obtain ⟨w, hw, rw'⟩ := r.atI h
      exact ix_list value slice pins s σ H _ _ v u Q I rx ry ⟨_, _, _, _, rfl, rfl, .inl l, hw, p.val rw'⟩
    · exact p.elim
  · split at p
    · rename_i h
      obtain rfl := re.int
      obtain ⟨a, xs, rfl, l, r⟩ := rd.tup
      obtain ⟨w, hw, rw'⟩ := r.atI h
      exact ix_tup value slice pins s σ H _ _ v u Q I rx ry ⟨_, _, _, _, rfl, rfl, l, hw, p.val rw'⟩
    · exact p.elim
  · split at p
    · rename_i hb
      obtain ⟨h1, h2⟩ := Bool.and_eq_true_iff.mp hb
      obtain ⟨k, rfl⟩ := isKD_key h1
      split at p
      · rename_i d h
        obtain ⟨a, es, rfl, e, r⟩ := rd.dct h2 (fun z => by subst z; cases h)
        obtain ⟨w, hw, rw'⟩ := (r.get k).1 d h
        obtain rfl := re.key
        exact ix_dict hu value slice pins s σ H _ _ v u Q I rx ry ⟨a, w, rfl, by rw [← hw]; exact DGet.ofK e k, p.val rw'⟩
      · exact p.elim
    · exact p.elim
  · exact p.elim
def rsl (K : PySem.W.Frag) : V → Option Int → Option Int → Hp → VK → Prop := fun x lo hi H Q => ∃ (S : Addr → Prop) (d : D), (∀ b, S b → Mut (H b)) ∧ BRep K H S x d ∧ PostV K S H (slD d lo hi) Q
theorem sl_D : L2.SlR X (rsl X.K) := by
  intro pins s σ H x v vl vu lo hi sl Q I rx hs pl pu ⟨S, d, t, rd, p⟩
  unfold slD at p
  split at p
  · obtain ⟨a, xs, rfl, l, r⟩ := rd.lst
    exact sl_list pins s σ H _ v vl vu _ _ sl Q I rx hs pl pu ⟨_, _, rfl, .inl l, fun q hq => p.newL t hq (r.cut _ _)⟩
  · obtain ⟨a, xs, rfl, l, r⟩ := rd.tup
    refine sl_tupA pins s σ H _ v vl vu _ _ sl Q I rx hs pl pu ⟨_, _, rfl, l, fun h => ?_, fun h q hq => p.newT t hq (r.cut _ _)⟩
    refine p.val (.tup l ?_)
    have e : cutV xs lo hi = xs := by unfold cutV; rw [h.1, h.2]; simp
    have := r.cut lo hi
    rwa [e] at this
  · exact p.elim
end

/-! ### built-ins by values -/
def lenD : List D → RV
  | [.list ds] => okv (.int (ds.length : Nat))
  | [.tuple ds] => okv (.int (ds.length : Nat))
  | _ => .no
def tupleD : List D → RV
  | [.list ds] => okv (.tuple ds)
  | [.tuple ds] => okv (.tuple ds)
  | _ => .no
def listD : List D → RV
  | [.list ds] => okn (.list ds)
  | [.tuple ds] => okn (.list ds)
  | _ => .no
def bools : List D → Option (List Bool)
  | [] => some []
  | .bool b :: r => match bools r with
    | some bs => some (b :: bs)
    | none => none
  | _ => none
def intsD : List D → Option (List Int)
  | [] => some []
  | .int b :: r => match intsD r with
    | some bs => some (b :: bs)
    | none => none
  | _ => none
def andAll : List Bool → Bool
  | [] => true
  | true :: r => andAll r
  | false :: _ => false
def orAny : List Bool → Bool
  | [] => false
  | false :: r => orAny r
  | true :: _ => true
def sumI : List Int → Int
  | [] => 0
  | i :: r => i + sumI r
def allD : List D → RV
  | [.list ds] => match bools ds with
    | some bs => okv (.bool (andAll bs))
    | none => .no
  | _ => .no
def anyD : List D → RV
  | [.list ds] => match bools ds with
    | some bs => okv (.bool (orAny bs))
    | none => .no
  | _ => .no
def sumD : List D → RV
  | [.list ds] => match intsD ds with
    | some bs => okv (.int (sumI bs))
    | none => .no
  | _ => .no
def insI (x : Int) : List Int → List Int
  | [] => [x]
  | y :: r => match decide (x ≤ y) with
    | true => x :: y :: r
    | false => y :: insI x r
def sortI : List Int → List Int
  | [] => []
  | x :: r => insI x (sortI r)
def sortedD : List D → RV
  | [.list ds] => match intsD ds with
    | some bs => okn (.list ((sortI bs).map PyData.int))
    | none => .no
  | _ => .no
def absD : List D → RV
  | [.int i] => okv (.int (if i < 0 then -i else i))
  | _ => .no
def intD : List D → RV
  | [.int i] => okv (.int i)
  | [.bool b] => okv (.int (if b then 1 else 0))
  | _ => .no
def maxD : List D → RV
  | [.int i, .int j] => okv (.int (if j > i then j else i))
  | _ => .no
def minD : List D → RV
  | [.int i, .int j] => okv (.int (if j < i then j else i))
  | _ => .no
section
variable {K : PySem.W.Frag} {H : Hp} {S : Addr → Prop}
theorem BAll.one {vs : List V} {d : D} (r : BAll K H S vs [d]) : ∃ v, vs = [v] ∧ BRep K H S v d := by
  cases r with
  | cons r1 r2 => cases r2; exact ⟨_, rfl, r1⟩
theorem BAll.two {vs : List V} {d e : D} (r : BAll K H S vs [d, e]) : ∃ v u, vs = [v, u] ∧ BRep K H S v d ∧ BRep K H S u e := by
  cases r with
  | cons r1 r2 => cases r2 with
    | cons r2 r3 => cases r3; exact ⟨_, _, rfl, r1, r2⟩
theorem bools_rep : ∀ {ds : List D} {bs : List Bool} {xs : List V}, bools ds = some bs → RepAll K H S xs ds → xs = bs.map V.bl
  | [], _, _, h, r => by cases r; cases h; rfl
  | d :: ds, bs, xs, h, r => by
    cases r with
    | cons r1 r2 =>
      cases d <;> simp only [bools] at h <;> try cases h
      split at h
      · rename_i e
        cases h
        cases r1
        rw [bools_rep e r2]; rfl
      · cases h
theorem intsD_eq : ∀ {ds : List D} {bs : List Int}, intsD ds = some bs → ds = bs.map PyData.int
  | [], _, h => by cases h; rfl
  | d :: ds, bs, h => by
    cases d <;> simp only [intsD] at h <;> try cases h
    split at h
    · rename_i e
      cases h
      rw [intsD_eq e]; rfl
    · cases h
theorem intsD_map (bs : List Int) : intsD (bs.map PyData.int) = some bs := by
  induction bs with
  | nil => rfl
  | cons b bs ih => simp only [List.map_cons, intsD, ih]
end
theorem andAll_eq (bs : List Bool) : andAll bs = bs.all id := by
  induction bs with
  | nil => rfl
  | cons b bs ih => cases b <;> simp [andAll, ih]
theorem orAny_eq (bs : List Bool) : orAny bs = bs.any id := by
  induction bs with
  | nil => rfl
  | cons b bs ih => cases b <;> simp [orAny, ih]
theorem sumI_eq (bs : List Int) : sumI bs = bs.sum := by
  induction bs with
  | nil => rfl
  | cons b bs ih => simp [sumI, ih]
theorem insI_perm (x : Int) (l : List Int) : (insI x l).Perm (x :: l) := by
  induction l with
  | nil => exact .refl _
  | cons y r ih =>
    unfold insI
    cases decide (x ≤ y) with
    | true => exact .refl _
    | false => exact (List.Perm.cons y ih).trans (List.Perm.swap x y r)
theorem sortI_perm (l : List Int) : (sortI l).Perm l := by
  induction l with
  | nil => exact .refl _
  | cons x r ih => exact (insI_perm x _).trans (ih.cons x)
theorem insI_sorted (x : Int) (l : List Int) (h : l.Pairwise (· ≤ ·)) : (insI x l).Pairwise (· ≤ ·) := by
  induction l with
  | nil => simp [insI]
  | cons y r ih =>
    unfold insI
    cases q : decide (x ≤ y) with
    | true =>
      have q' := of_decide_eq_true q
      refine List.pairwise_cons.mpr ⟨fun z hz => ?_, h⟩
      rcases List.mem_cons.mp hz with rfl | hz
      · exact q'
      · exact Int.le_trans q' ((List.pairwise_cons.mp h).1 z hz)
    | false =>
      have q' := of_decide_eq_false q
      refine List.pairwise_cons.mpr ⟨fun z hz => ?_, ih (List.pairwise_cons.mp h).2⟩
      rcases List.mem_cons.mp ((insI_perm x r).mem_iff.mp hz) with rfl | hz
      · omega
      · exact (List.pairwise_cons.mp h).1 z hz
theorem sortI_sorted (l : List Int) : (sortI l).Pairwise (· ≤ ·) := by
  induction l with
  | nil => exact .nil
  | cons x r ih => exact insI_sorted x _ ih
theorem sort_unique {l l' : List Int} (p : l.Perm l') (h : l.Pairwise (· ≤ ·)) (h' : l'.Pairwise (· ≤ ·)) : l = l' :=
  p.eq_of_pairwise (fun a b _ _ h1 h2 => Int.le_antisymm h1 h2) h h'
section
variable {X : Cx}
theorem cr_len : CallR X (.builtin "len") (rs X.K lenD) := by
  intro pins s σ H xs us Q I r ⟨S, ds, t, rd, p⟩
  unfold lenD at p
  split at p
  · obtain ⟨v, rfl, rv⟩ := rd.one
    obtain ⟨a, ys, rfl, l, ra⟩ := rv.lst
    exact call_len pins s σ H _ us Q I r ⟨_, _, rfl, .inl ⟨_, .inl l, rfl⟩, by rw [ra.length]; exact p.val (.int _)⟩
  · obtain ⟨v, rfl, rv⟩ := rd.one
    obtain ⟨a, ys, rfl, l, ra⟩ := rv.tup
    exact call_len pins s σ H _ us Q I r ⟨_, _, rfl, .inr ⟨_, l, rfl⟩, by rw [ra.length]; exact p.val (.int _)⟩
  · exact p.elim
theorem cr_tuple : CallR X (.type "tuple") (rs X.K tupleD) := by
  intro pins s σ H xs us Q I r ⟨S, ds, t, rd, p⟩
  unfold tupleD at p
  split at p
  · obtain ⟨v, rfl, rv⟩ := rd.one
    obtain ⟨a, ys, rfl, l, ra⟩ := rv.lst
    exact call_tuple_of pins s σ H _ us Q I r ⟨_, _, rfl, .inl ⟨.inl l, fun q hq => p.newT t hq ra⟩⟩
  · obtain ⟨v, rfl, rv⟩ := rd.one
    have rv' := rv.tupR
    obtain ⟨a, ys, rfl, l, ra⟩ := rv.tup
    exact call_tuple_of pins s σ H _ us Q I r ⟨_, _, rfl, .inr ⟨l, p.val rv'⟩⟩
  · exact p.elim
theorem cr_list : CallR X (.type "list") (rs X.K listD) := by
  intro pins s σ H xs us Q I r ⟨S, ds, t, rd, p⟩
  unfold listD at p
  split at p
  · obtain ⟨v, rfl, rv⟩ := rd.one
    obtain ⟨a, ys, rfl, l, ra⟩ := rv.lst
    exact call_list_of pins s σ H _ us Q I r ⟨_, _, rfl, .inl (.inl l), fun q hq => p.newL t hq ra⟩
  · obtain ⟨v, rfl, rv⟩ := rd.one
    obtain ⟨a, ys, rfl, l, ra⟩ := rv.tup
    exact call_list_of pins s σ H _ us Q I r ⟨_, _, rfl, .inr l, fun q hq => p.newL t hq ra⟩
  · exact p.elim
theorem cr_allD (hc : X.calm = true) : CallR X (.builtin "all") (rs X.K allD) := by
  intro pins s σ H xs us Q I r ⟨S, ds, t, rd, p⟩
  unfold allD at p
  split at p
  · split at p
    · rename_i h
      obtain ⟨v, rfl, rv⟩ := rd.one
      obtain ⟨a, ys, rfl, l, ra⟩ := rv.lst
      have e := bools_rep h ra
      subst e
      exact cr_all hc pins s σ H _ us Q I r ⟨_, _, rfl, .inl l, by rw [← andAll_eq]; exact p.val (.bl _)⟩
    · exact p.elim
  · exact p.elim
theorem cr_anyD (hc : X.calm = true) : CallR X (.builtin "any") (rs X.K anyD) := by
  intro pins s σ H xs us Q I r ⟨S, ds, t, rd, p⟩
  unfold anyD at p
  split at p
  · split at p
    · rename_i h
      obtain ⟨v, rfl, rv⟩ := rd.one
      obtain ⟨a, ys, rfl, l, ra⟩ := rv.lst
      have e := bools_rep h ra
      subst e
      exact cr_any hc pins s σ H _ us Q I r ⟨_, _, rfl, .inl l, by rw [← orAny_eq]; exact p.val (.bl _)⟩
    · exact p.elim
  · exact p.elim
theorem cr_sumD (hc : X.calm = true) : CallR X (.builtin "sum") (rs X.K sumD) := by
  intro pins s σ H xs us Q I r ⟨S, ds, t, rd, p⟩
  unfold sumD at p
  split at p
  · split at p
    · rename_i h
      obtain ⟨v, rfl, rv⟩ := rd.one
      obtain ⟨a, ys, rfl, l, ra⟩ := rv.lst
      obtain rfl := intsD_eq h
      obtain rfl := ra.ints
      exact cr_sum hc pins s σ H _ us Q I r ⟨_, _, rfl, .inl l, by rw [← sumI_eq]; exact p.val (.int _)⟩
    · exact p.elim
  · exact p.elim
theorem cr_sortedD : CallR X (.builtin "sorted") (rs X.K sortedD) := by
  intro pins s σ H xs us Q I r ⟨S, ds, t, rd, p⟩
  unfold sortedD at p
  split at p
  · split at p
    · rename_i bs h
      obtain ⟨v, rfl, rv⟩ := rd.one
      obtain ⟨a, ys, rfl, l, ra⟩ := rv.lst
      obtain rfl := intsD_eq h
      obtain rfl := ra.ints
      refine cr_sortedI pins s σ H _ us Q I r ⟨_, _, rfl, .inl l, fun ns' q hp hs hq => ?_⟩
      have e : ns' = sortI bs := sort_unique (hp.trans (sortI_perm bs).symm) hs (sortI_sorted bs)
      rw [e]
      exact p.newL t hq RepAll.ofInts
    · exact p.elim
  · exact p.elim
theorem cr_absD : CallR X (.builtin "abs") (rs X.K absD) := by
  intro pins s σ H xs us Q I r ⟨S, ds, t, rd, p⟩
  unfold absD at p
  split at p
  · obtain ⟨v, rfl, rv⟩ := rd.one
    obtain rfl := rv.int
    exact call_abs pins s σ H _ us Q I r ⟨_, rfl, p.val (.int _)⟩
  · exact p.elim
theorem cr_intD : CallR X (.type "int") (rs X.K intD) := by
  intro pins s σ H xs us Q I r ⟨S, ds, t, rd, p⟩
  unfold intD at p
  split at p
  · obtain ⟨v, rfl, rv⟩ := rd.one
    obtain rfl := rv.int
    exact call_int1 pins s σ H _ us Q I r (.inl ⟨_, rfl, p.val (.int _)⟩)
  · obtain ⟨v, rfl, rv⟩ := rd.one
    obtain rfl := rv.bl
    exact call_int1 pins s σ H _ us Q I r (.inr ⟨_, rfl, p.val (.int _)⟩)
  · exact p.elim
theorem cr_maxD (hc : X.calm = true) : CallR X (.builtin "max") (rs X.K maxD) := by
  intro pins s σ H xs us Q I r ⟨S, ds, t, rd, p⟩
  unfold maxD at p
  split at p
  · obtain ⟨v, u, rfl, rv, ru⟩ := rd.two
    obtain rfl := rv.int
    obtain rfl := ru.int
    exact call_max2 hc pins s σ H _ us Q I r ⟨_, _, rfl, p.val (.int _)⟩
  · exact p.elim
theorem cr_minD (hc : X.calm = true) : CallR X (.builtin "min") (rs X.K minD) := by
  intro pins s σ H xs us Q I r ⟨S, ds, t, rd, p⟩
  unfold minD at p
  split at p
  · obtain ⟨v, u, rfl, rv, ru⟩ := rd.two
    obtain rfl := rv.int
    obtain rfl := ru.int
    exact call_min2 hc pins s σ H _ us Q I r ⟨_, _, rfl, p.val (.int _)⟩
  · exact p.elim
end

/-! ### isinstance of a built-in class -/
inductive Ty where
  | int | bool | str | tuple | list | dict
def Ty.name : Ty → String
  | .int => "int" | .bool => "bool" | .str => "str" | .tuple => "tuple" | .list => "list" | .dict => "dict"
def tyD : D → String
  | .none => "NoneType" | .bool _ => "bool" | .int _ => "int" | .str _ => "str" | .list _ => "list" | .tuple _ => "tuple" | .dict _ => "dict"
def isiD (t : Ty) : D → Bool
  | .bool _ => match t with
    | .bool => true | .int => true | _ => false
  | .int _ => match t with
    | .int => true | _ => false
  | .str _ => match t with
    | .str => true | _ => false
  | .list _ => match t with
    | .list => true | _ => false
  | .tuple _ => match t with
    | .tuple => true | _ => false
  | .dict _ => match t with
    | .dict => true | _ => false
  | .none => false
theorem kit_isi (t : Ty) (d : D) : kitB (tyD d) t.name = some (isiD t d) := by
  cases d <;> cases t <;> first | rfl | decide +kernel
section
variable {K : PySem.W.Frag} {H : Hp} {S : Addr → Prop}
theorem SqT.tyx {a : Addr} {xs : List V} (h : SqT K H a xs) : TyX K H (.ref a) (.type "tuple") := by
  rcases h with (h | ⟨o, h⟩) | ⟨o, its, n, hk, hc, _⟩
  · exact .base (.tup h)
  · exact .fTuple h
  · exact .kTuple hk hc
theorem Rd.tyx {a : Addr} {xs : List V} (h : Rd H a (.lst xs)) : TyX K H (.ref a) (.type "list") := by
  rcases h with h | ⟨o, h⟩
  · exact .base (.lst h)
  · exact .base (.frz h)
theorem BRep.tyx {v : V} {d : D} (r : BRep K H S v d) : TyX K H v (.type (tyD d)) := by
  cases r with
  | rep r => cases r with
    | non => exact .base .non
    | bl b => exact .base (.bl b)
    | int i => exact .base (.int i)
    | str x => exact .base (.str x)
    | lst l r => cases l with
      | trk t _ => exact Rd.tyx t
    | tup l r => exact SqT.tyx l
    | dct t => cases t with
      | dK e _ _ => exact .base (.dK e)
      | dT e _ _ => exact .base (.dT e)
  | own o => cases o with
    | lst e r => exact .base (.lst e)
    | dK e r => exact .base (.dK e)
end
end Rf

namespace Rf
open PySem PySem.Spec L2
open PyProof.Rows hiding St

/-- a context that the codes may be run in: k calls deep, the names N by slot, the scope sc as the text has it -/
structure CxOk (k : Nat) (N : List Str) (sc : Scope) (X : Cx) : Prop where
  room : Room k X.A
  calm : X.calm = true
  nd : N.Nodup
  nm : X.N = N
  kind : X.env.scope.kind = .function
  sco : ∀ x kd, sc.names.lookup x = some kd → X.env.scope.names.lookup x = some kd ∨ (kd = .free ∧ X.env.scope.names.lookup x = some .cell)
  fnc : ∀ x, sc.names.lookup x = some .cell → X.fn x = true

def visB (sc : Scope) (x : Str) : Bool := match sc.names.lookup x with
  | some .local => true
  | some .cell => true
  | some .free => true
  | _ => false
def glB (sc : Scope) (x : Str) : Bool := match sc.names.lookup x with
  | some .globalImplicit => true
  | _ => false
section
variable {k : Nat} {N : List Str} {sc : Scope} {X : Cx} {x : Str}
theorem CxOk.vis (c : CxOk k N sc X) (h : visB sc x = true) : Vis X.env.scope x := by
  unfold visB at h
  split at h
  · rename_i e; rcases c.sco x _ e with q | ⟨q, _⟩
    · exact .inl q
    · cases q
  · rename_i e; rcases c.sco x _ e with q | ⟨q, _⟩
    · exact .inr (.inl q)
    · cases q
  · rename_i e; rcases c.sco x _ e with q | ⟨_, q⟩
    · exact .inr (.inr q)
    · exact .inr (.inl q)
  · cases h
theorem CxOk.gl (c : CxOk k N sc X) (h : glB sc x = true) : Gl X x := by
  unfold glB at h
  split at h
  · rename_i e; rcases c.sco x _ e with q | ⟨q, _⟩
    · exact q
    · cases q
  · cases h
end

/-! ### the pieces, as functions of the slots -/
def fV (i : Nat) (env : Env) : RV := match env[i]? with
  | some (.val d) => .ok (.old, d)
  | some (.own d) => .ok (.bor, d)
  | _ => .no
inductive Bo where
  | add | sub | mul | mod | fdiv | pow
def Bo.op : Bo → Operator
  | .add => .Add | .sub => .Sub | .mul => .Mult | .mod => .Mod | .fdiv => .FloorDiv | .pow => .Pow
def Bo.fn : Bo → D → D → RV
  | .add => addD | .sub => subD | .mul => mulD | .mod => modD | .fdiv => fdivD | .pow => powD
def negD : D → RV
  | .int i => okv (.int (-i))
  | _ => .no
def truth : D → R Bool
  | .bool b => .ok b
  | _ => .no
def fOp (op : D → D → RV) (fa fb : Env → RV) (env : Env) : RV := (fa env).bind fun x => (fb env).bind fun y => op x.2 y.2
def fUn (op : D → RV) (fa : Env → RV) (env : Env) : RV := (fa env).bind fun x => op x.2
def fCh (o o' : D → D → RV) (fa fb fc : Env → RV) (env : Env) : RV := (fa env).bind fun x => (fb env).bind fun y => (o x.2 y.2).bind fun z => match z.2 with
  | .bool true => (fc env).bind fun u => o' y.2 u.2
  | .bool false => okv (.bool false)
  | _ => .no
def fAnd (fa fb : Env → RV) (env : Env) : RV := (fa env).bind fun x => match x.2 with
  | .bool true => fb env
  | .bool false => okv (.bool false)
  | _ => .no
def fOr (fa fb : Env → RV) (env : Env) : RV := (fa env).bind fun x => match x.2 with
  | .bool true => okv (.bool true)
  | .bool false => fb env
  | _ => .no
def notD : D → RV
  | .bool b => okv (.bool (!b))
  | _ => .no
def fIf (ft : Env → R Bool) (fa fb : Env → RV) (env : Env) : RV := (ft env).bind fun b => match b with
  | true => fa env
  | false => fb env
def fTst (fa : Env → RV) (env : Env) : R Bool := (fa env).bind fun x => truth x.2
def fAndT (fa fb : Env → R Bool) (env : Env) : R Bool := (fa env).bind fun b => match b with
  | true => fb env
  | false => .ok false
def fOrT (fa fb : Env → R Bool) (env : Env) : R Bool := (fa env).bind fun b => match b with
  | true => .ok true
  | false => fb env
def fNotT (fa : Env → R Bool) (env : Env) : R Bool := (fa env).bind fun b => .ok (!b)
def fNil (_ : Env) : R (List (Kd × D)) := .ok []
def fCons (fa : Env → RV) (fr : Env → R (List (Kd × D))) (env : Env) : R (List (Kd × D)) := (fa env).bind fun x => (fr env).bind fun r => .ok (x :: r)
def nbs (l : List (Kd × D)) : Bool := l.all fun p => p.1.nb
def fTup (fs : Env → R (List (Kd × D))) (env : Env) : RV := (fs env).bind fun l => chk (nbs l && Nat.ble l.length 16777216) (okv (.tuple (l.map (·.2))))
def fLst (fs : Env → R (List (Kd × D))) (env : Env) : RV := (fs env).bind fun l => chk (nbs l && Nat.ble l.length 16777216) (okn (.list (l.map (·.2))))
def fBi (op : List D → RV) (fs : Env → R (List (Kd × D))) (env : Env) : RV := (fs env).bind fun l => op (l.map (·.2))
def fCall (g : List D → RV) (fs : Env → R (List (Kd × D))) (env : Env) : RV := (fs env).bind fun l => chk (nbs l) ((g (l.map (·.2))).bind fun z => chk z.1.nb (.ok z))
def fIsi (t : Ty) (fa : Env → RV) (env : Env) : RV := (fa env).bind fun x => okv (.bool (isiD t x.2))
def part : D → Option (Option Int)
  | .int i => some (some i)
  | _ => none
def fSl0 (fa : Env → RV) (env : Env) : RV := (fa env).bind fun x => slD x.2 none none
def fSlL (fa fl : Env → RV) (env : Env) : RV := (fa env).bind fun x => (fl env).bind fun l => match l.2 with
  | .int i => slD x.2 (some i) none
  | _ => .no
def fSlH (fa fh : Env → RV) (env : Env) : RV := (fa env).bind fun x => (fh env).bind fun h => match h.2 with
  | .int j => slD x.2 none (some j)
  | _ => .no
def fSlB (fa fl fh : Env → RV) (env : Env) : RV := (fa env).bind fun x => (fl env).bind fun l => match l.2 with
  | .int i => (fh env).bind fun h => match h.2 with
    | .int j => slD x.2 (some i) (some j)
    | _ => .no
  | _ => .no

/-! ### an expression is what its pieces make -/
section
variable {k : Nat} {N : List Str} {sc : Scope} {X : Cx} {exc : Nat → Addr} {x : Str} {pos : Pos} {a b e : Expr} {fa fb fc : Env → RV} {ft fu : Env → R Bool}

theorem SE.val {S : Addr → Prop} {σ : St} {H : Hp} {r : RV} {Q : VK} (p : PostV X.K S H r Q) : Post X exc S σ H r Q := by
  cases r with
  | ok q => exact p
  | ex c => exact p.elim
  | no => exact p.elim
/-- what an operation gives is never an exception -/
def NoEx (r : RV) : Prop := ∀ c, r ≠ .ex c
theorem NoEx.post {S : Addr → Prop} {σ : St} {H : Hp} {r : RV} {Q : VK} (n : NoEx r) (p : Post X exc S σ H r Q) : PostV X.K S H r Q := by
  cases r with
  | ok q => exact p
  | ex c => exact (n c rfl).elim
  | no => exact p.elim

theorem se_v (c : CxOk k N sc X) {i : Nat} (hN : N[i]? = some x) (hv : visB sc x = true) (hd : (x == ("__debug__" : Str)) = false) (hcd : (x == ("__classdict__" : Str)) = false) : SE X exc (.Name x pos) (fV i) := by
  intro S env σ H Q r p
  have pe := pe_var (X := X) (pos := pos) (by rw [c.nm]; exact hN) (c.vis hv) hd hcd
  unfold fV at p
  have hl := r.len
  cases e : env[i]? with
  | none => rw [e] at p; exact p.elim
  | some sl =>
    rw [e] at p
    have hi : i < env.length := (List.getElem?_eq_some_iff.mp e).1
    obtain ⟨o, ho⟩ : ∃ o, σ[i]? = some o := ⟨_, List.getElem?_eq_getElem (by omega)⟩
    have q := r.slot i sl o e ho
    cases q with
    | emp => exact p.elim
    | val rp => exact wE.of pe ⟨_, ho, p _ H (Same.refl H) (.old rp)⟩
    | own hs ow => exact wE.of pe ⟨_, ho, p _ H (Same.refl H) (.bor hs ow)⟩
theorem se_none {j : Nat} : SE X exc (.Constant .none j pos) (fun _ => okv .none) := fun S env σ H Q r p => wE.of pe_non (p _ H (Same.refl H) (.old .non))
theorem se_int {i : Int} {j : Nat} : SE X exc (.Constant (.int i) j pos) (fun _ => okv (.int i)) := fun S env σ H Q r p => wE.of pe_int (p _ H (Same.refl H) (.old (.int i)))
theorem se_bl {i : Bool} {j : Nat} : SE X exc (.Constant (.bool i) j pos) (fun _ => okv (.bool i)) := fun S env σ H Q r p => wE.of pe_bl (p _ H (Same.refl H) (.old (.bl i)))
theorem se_str {i : Str} {j : Nat} : SE X exc (.Constant (.str i) j pos) (fun _ => okv (.str i)) := fun S env σ H Q r p => wE.of pe_str (p _ H (Same.refl H) (.old (.str i)))
/-- a constant of the module -/
theorem se_glob (c : CxOk k N sc X) {d : D} {u : Value} {v : V} (hg : glB sc x = true) (hm : X.mg x = some u) (rl : RelV v u) (hr : ∀ H S, Rep X.K H S v d) (hd : (x == ("__debug__" : Str)) = false) : SE X exc (.Name x pos) (fun _ => okv d) :=
  fun S env σ H Q r p => wE.of (pe_glob (c.gl hg) hm rl hd) (p _ H (Same.refl H) (.old (hr H S)))

theorem wE.op {o : Operator} {r : R2} {σ : St} {H : Hp} {Q : VK} (ho : OpR X (binaryOp o) r) (h : wE X a σ H fun x H1 => wE X b σ H1 fun y H2 => r x y H2 Q) : wE X (.BinOp a o b pos) σ H Q := wE.of (pe_op ho w_pe w_pe) h
theorem wE.cmp {o : CmpOp} {r : R2} {σ : St} {H : Hp} {Q : VK} (ho : OpR X (compareOp o) r) (hm : behindInMarks o b = false) (h : wE X a σ H fun x H1 => wE X b σ H1 fun y H2 => r x y H2 Q) : wE X (.Compare a [o] [b] pos) σ H Q := wE.of (pe_cmpR ho w_pe w_pe hm) h

theorem two_of {op : D → D → RV} (ne : ∀ d e, NoEx (op d e)) (ha : SE X exc a fa) (hb : SE X exc b fb) {S : Addr → Prop} {env : Env} {σ : St} {H : Hp} {Q : VK} (r : SR X.K S env σ H) (p : Post X exc S σ H (fOp op fa fb env) Q) :
    wE X a σ H fun x H1 => wE X b σ H1 fun y H2 => r2 X.K op x y H2 Q :=
  ha.seq r p fun fr d v H1 _ m1 rs1 sr1 p1 => hb.seq sr1 p1 fun fr2 d2 u H2 _ m2 rs2 sr2 p2 =>
    ⟨S, d, d2, sr2.trk, (rs1.brep m1 r.trk).grow m2 sr1.trk, rs2.brep m2 sr1.trk, (ne d d2).post p2⟩
theorem one_of {op : D → RV} (ne : ∀ d, NoEx (op d)) (ha : SE X exc a fa) {S : Addr → Prop} {env : Env} {σ : St} {H : Hp} {Q : VK} (r : SR X.K S env σ H) (p : Post X exc S σ H (fUn op fa env) Q) :
    wE X a σ H fun x H1 => r1 X.K op x H1 Q :=
  ha.seq r p fun fr d v H1 _ m1 rs1 sr1 p1 => ⟨S, d, sr1.trk, rs1.brep m1 r.trk, (ne d).post p1⟩
theorem noEx_okv (d : D) : NoEx (okv d) := fun c h => by cases h
theorem noEx_okn (d : D) : NoEx (okn d) := fun c h => by cases h
theorem noEx_no : NoEx .no := fun c h => by cases h
theorem noEx_chk {b : Bool} {r : RV} (h : NoEx r) : NoEx (chk b r) := by cases b <;> first | exact h | exact noEx_no
theorem Bo.ne (o : Bo) (d e : D) : NoEx (o.fn d e) := by
  cases o
  · show NoEx (addD d e); unfold addD; split <;> first | exact noEx_okv _ | exact noEx_no | exact noEx_chk (noEx_okv _) | exact noEx_chk (noEx_okn _)
  · show NoEx (subD d e); unfold subD; split <;> first | exact noEx_okv _ | exact noEx_no
  · show NoEx (mulD d e); unfold mulD; split <;> first | exact noEx_no | exact noEx_chk (noEx_okv _) | exact noEx_chk (noEx_okn _)
  · show NoEx (modD d e); unfold modD; split <;> first | exact noEx_no | exact noEx_chk (noEx_okv _)
  · show NoEx (fdivD d e); unfold fdivD; split <;> first | exact noEx_no | exact noEx_chk (noEx_okv _)
  · show NoEx (powD d e); unfold powD; split <;> first | exact noEx_no | exact noEx_chk (noEx_okv _)
theorem inD_ne (neg : Bool) (d e : D) : NoEx (inD neg d e) := by
  unfold inD; split <;> first | exact noEx_chk (noEx_okv _) | exact noEx_no
theorem cmpD_ne (c : Co) (d e : D) : NoEx (cmpD c d e) := by
  unfold cmpD; split <;> first | exact noEx_okv _ | exact noEx_no | exact noEx_chk (noEx_okv _) | exact inD_ne _ _ _
theorem Bo.ok (o : Bo) : OpR X (binaryOp o.op) (r2 X.K o.fn) := by
  cases o
  · exact op_addD
  · exact op_subD
  · exact op_mulD
  · exact op_modD
  · exact op_fdivD
  · exact op_powD
theorem se_op (o : Bo) (ha : SE X exc a fa) (hb : SE X exc b fb) : SE X exc (.BinOp a o.op b pos) (fOp o.fn fa fb) :=
  fun S env σ H Q r p => wE.op o.ok (two_of o.ne ha hb r p)
theorem se_cmp (c : CxOk k N sc X) (o : Co) (hm : behindInMarks o.op b = false) (ha : SE X exc a fa) (hb : SE X exc b fb) : SE X exc (.Compare a [o.op] [b] pos) (fOp (cmpD o) fa fb) :=
  fun S env σ H Q r p => wE.cmp (op_cmpD c.room o) hm (two_of (cmpD_ne o) ha hb r p)
theorem un_negD : UnR X (unaryOp .USub) (r1 X.K negD) := by
  intro pins s σ H x v Q I rx ⟨S, d, t, rd, p⟩
  unfold negD at p
  split at p
  · obtain rfl := rd.int
    exact un_neg pins s σ H _ v Q I rx ⟨_, rfl, p.val (.int _)⟩
  · exact p.elim
theorem negD_ne (d : D) : NoEx (negD d) := by unfold negD; split <;> first | exact noEx_okv _ | exact noEx_no
theorem se_neg (ha : SE X exc a fa) : SE X exc (.UnaryOp .USub a pos) (fUn negD fa) := fun S env σ H Q r p => wE.of (pe_un un_negD w_pe) (one_of negD_ne ha r p)

theorem cmp_bool {c : Co} {d e : D} {q : Kd × D} (h : cmpD c d e = .ok q) : ∃ b, q = (.old, .bool b) := by
  have chkb : ∀ {b : Bool} {z : Bool}, chk b (okv (.bool z)) = .ok q → ∃ b, q = (.old, .bool b) := fun {b z} h => by
    cases b with
    | true => cases h; exact ⟨_, rfl⟩
    | false => cases h
  have inb : ∀ {neg : Bool}, inD neg d e = .ok q → ∃ b, q = (.old, .bool b) := fun {neg} h => by
    unfold inD at h
    split at h
    · exact chkb h
    · exact chkb h
    · cases h
  unfold cmpD at h
  split at h <;> first | exact chkb h | exact inb h | (cases h; exact ⟨_, rfl⟩) | cases h
/-- a < b < c -/
theorem se_ch (c : CxOk k N sc X) (o o' : Co) (hm : lastMarks [o.op, o'.op] [b, e] = false) (ha : SE X exc a fa) (hb : SE X exc b fb) (hc : SE X exc e fc) :
    SE X exc (.Compare a [o.op, o'.op] [b, e] pos) (fCh (cmpD o) (cmpD o') fa fb fc) := by
  intro S env σ H Q r p
  refine wE.of (pe_chain (op_cmpD c.room o) (op_cmpD c.room o') w_pe w_pe w_pe hm) ?_
  refine ha.seq r p fun fr d v H1 _ m1 rs1 sr1 p1 => hb.seq sr1 p1 fun fr2 d2 u H2 _ m2 rs2 sr2 p2 => ?_
  have b1 := (rs1.brep m1 r.trk).grow m2 sr1.trk
  have b2 := rs2.brep m2 sr1.trk
  refine ⟨S, d, d2, sr2.trk, b1, b2, ?_⟩
  cases q : cmpD o d d2 with
  | no => rw [q] at p2; exact p2.elim
  | ex z => exact (cmpD_ne o d d2 z q).elim
  | ok z =>
    obtain ⟨bb, rfl⟩ := cmp_bool q
    rw [q] at p2
    intro w H3 m3 rs3
    have b3 := rs3.brep m3 sr2.trk
    obtain rfl := b3.bl
    refine ⟨bb, rfl, ?_⟩
    have sr3 := sr2.grow m3
    cases bb with
    | false => exact Post.grow (r := okv (.bool false)) p2 m3 _ H3 (Same.refl H3) (.old (.bl false))
    | true =>
      rw [if_pos rfl]
      have p3 : Post X exc S σ H3 ((fc env).bind fun u => cmpD o' d2 u.2) Q := Post.grow p2 m3
      exact hc.seq sr3 p3 fun fr4 d4 w4 H4 _ m4 rs4 sr4 p4 => ⟨S, d2, d4, sr4.trk, ((b2.grow m3 sr2.trk).grow m4 sr3.trk), rs4.brep m4 sr3.trk, (cmpD_ne o' d2 d4).post p4⟩

theorem se_not (ha : SE X exc a fa) : SE X exc (.UnaryOp .Not a pos) (fUn notD fa) := by
  intro S env σ H Q r p
  refine wE.of (pe_not w_pe) (ha.seq r p fun fr d v H1 _ m1 rs1 sr1 p1 => ?_)
  dsimp only at p1
  unfold notD at p1
  split at p1
  · obtain rfl := (rs1.brep m1 r.trk).bl
    exact ⟨_, rfl, p1 _ H1 (Same.refl H1) (.old (.bl _))⟩
  · exact p1.elim
theorem se_and {rest : List Expr} {pos' : Pos} (ha : SE X exc a fa) (hb : SE X exc (.BoolOp .And (b :: rest) pos) fb) : SE X exc (.BoolOp .And (a :: b :: rest) pos) (fAnd fa fb) := by
  intro S env σ H Q r p
  refine wE.of (pe_and w_pe w_pe) (ha.seq r p fun fr d v H1 _ m1 rs1 sr1 p1 => ?_)
  dsimp only at p1
  have b1 := rs1.brep m1 r.trk
  split at p1
  · obtain rfl := b1.bl
    refine ⟨_, rfl, ?_⟩
    rw [if_pos rfl]
    exact hb S env σ H1 Q sr1 p1
  · obtain rfl := b1.bl
    refine ⟨_, rfl, ?_⟩
    rw [if_neg (by simp)]
    exact p1 _ H1 (Same.refl H1) (.old (.bl _))
  · exact p1.elim
theorem se_or {rest : List Expr} {pos' : Pos} (ha : SE X exc a fa) (hb : SE X exc (.BoolOp .Or (b :: rest) pos) fb) : SE X exc (.BoolOp .Or (a :: b :: rest) pos) (fOr fa fb) := by
  intro S env σ H Q r p
  refine wE.of (pe_or w_pe w_pe) (ha.seq r p fun fr d v H1 _ m1 rs1 sr1 p1 => ?_)
  dsimp only at p1
  have b1 := rs1.brep m1 r.trk
  split at p1
  · obtain rfl := b1.bl
    refine ⟨_, rfl, ?_⟩
    rw [if_pos rfl]
    exact p1 _ H1 (Same.refl H1) (.old (.bl _))
  · obtain rfl := b1.bl
    refine ⟨_, rfl, ?_⟩
    rw [if_neg (by simp)]
    exact hb S env σ H1 Q sr1 p1
  · exact p1.elim
theorem se_one {op : BoolOp} (ha : SE X exc a fa) : SE X exc (.BoolOp op [a] pos) fa := fun S env σ H Q r p => wE.of (pe_one w_pe) (ha S env σ H Q r p)
theorem se_if (hc : ST X exc e ft) (ha : SE X exc a fa) (hb : SE X exc b fb) : SE X exc (.IfExp e a b pos) (fIf ft fa fb) := by
  intro S env σ H Q r p
  refine wE.of (pe_ifExp w_pt w_pe w_pe) (hc.seq r p fun bb H1 _ m1 sr1 p1 => ?_)
  cases bb with
  | true => rw [if_pos rfl]; exact ha S env σ H1 Q sr1 p1
  | false => rw [if_neg (by simp)]; exact hb S env σ H1 Q sr1 p1

/-! tests -/
theorem st_val (he : ∀ whole, isTrue a X.env whole = (do let v ← whole; standAt a.pos; holding [v] (truthy v))) (ha : SE X exc a fa) : ST X exc a (fTst fa) := by
  intro S env σ H Q r p
  refine wT.of (pt_truth w_pe he) (ha.seqT r p fun fr d v H1 _ m1 rs1 sr1 p1 => ?_)
  dsimp only at p1
  unfold truth at p1
  split at p1
  · obtain rfl := (rs1.brep m1 r.trk).bl
    exact ⟨_, rfl, p1 H1 (Same.refl H1)⟩
  · exact p1.elim
theorem st_cmp (c : CxOk k N sc X) (o : Co) (hm : behindInMarks o.op b = false) (ha : SE X exc a fa) (hb : SE X exc b fb) : ST X exc (.Compare a [o.op] [b] pos) (fTst (fOp (cmpD o) fa fb)) := by
  intro S env σ H Q r p
  refine wT.of (pt_cmpR (op_cmpD c.room o) w_pe w_pe hm) ?_
  have p' : Post X exc S σ H (fOp (cmpD o) fa fb env) (fun x H' => ∃ k, x = .bl k ∧ Q k H') := by
    unfold fTst at p
    cases q : fOp (cmpD o) fa fb env with
    | no => rw [q] at p; exact p.elim
    | ex z => rw [q] at p; exact p
    | ok z =>
      rw [q] at p
      intro v H' m rs
      have p2 : PostT X exc S σ H (truth z.2) Q := p
      unfold truth at p2
      obtain ⟨zk, zd⟩ := z
      dsimp only at p2
      split at p2
      · obtain rfl := (rs.brep m r.trk).bl
        exact ⟨_, rfl, p2 H' m⟩
      · exact p2.elim
  exact two_of (cmpD_ne o) ha hb r p'
theorem st_ch (c : CxOk k N sc X) (o o' : Co) (hm : lastMarks [o.op, o'.op] [b, e] = false) (ha : SE X exc a fa) (hb : SE X exc b fb) (hc : SE X exc e fc) :
    ST X exc (.Compare a [o.op, o'.op] [b, e] pos) (fTst (fCh (cmpD o) (cmpD o') fa fb fc)) := by
  intro S env σ H Q r p
  refine wT.of (pt_chain (op_cmpD c.room o) (op_cmpD c.room o') w_pe w_pe w_pe hm) ?_
  have p' : Post X exc S σ H (fCh (cmpD o) (cmpD o') fa fb fc env) (fun x H' => ∃ k, x = .bl k ∧ Q k H') := by
    unfold fTst at p
    cases q : fCh (cmpD o) (cmpD o') fa fb fc env with
    | no => rw [q] at p; exact p.elim
    | ex z => rw [q] at p; exact p
    | ok z =>
      rw [q] at p
      intro v H' m rs
      have p2 : PostT X exc S σ H (truth z.2) Q := p
      unfold truth at p2
      obtain ⟨zk, zd⟩ := z
      dsimp only at p2
      split at p2
      · obtain rfl := (rs.brep m r.trk).bl
        exact ⟨_, rfl, p2 H' m⟩
      · exact p2.elim
  show tTest _ _ _ _
  refine ha.seq r p' fun fr d v H1 _ m1 rs1 sr1 p1 => hb.seq sr1 p1 fun fr2 d2 u H2 _ m2 rs2 sr2 p2 => ?_
  have b1 := (rs1.brep m1 r.trk).grow m2 sr1.trk
  have b2 := rs2.brep m2 sr1.trk
  refine ⟨S, d, d2, sr2.trk, b1, b2, ?_⟩
  cases q : cmpD o d d2 with
  | no => rw [q] at p2; exact p2.elim
  | ex z => exact (cmpD_ne o d d2 z q).elim
  | ok z =>
    obtain ⟨bb, rfl⟩ := cmp_bool q
    rw [q] at p2
    intro w H3 m3 rs3
    have b3 := rs3.brep m3 sr2.trk
    obtain rfl := b3.bl
    refine ⟨bb, rfl, ?_⟩
    have sr3 := sr2.grow m3
    cases bb with
    | false => exact Post.grow (r := okv (.bool false)) p2 m3 _ H3 (Same.refl H3) (.old (.bl false))
    | true =>
      rw [if_pos rfl]
      have p3 : Post X exc S σ H3 ((fc env).bind fun u => cmpD o' d2 u.2) (fun x H' => ∃ k, x = .bl k ∧ Q k H') := Post.grow p2 m3
      exact hc.seq sr3 p3 fun fr4 d4 w4 H4 _ m4 rs4 sr4 p4 => ⟨S, d2, d4, sr4.trk, ((b2.grow m3 sr2.trk).grow m4 sr3.trk), rs4.brep m4 sr3.trk, (cmpD_ne o' d2 d4).post p4⟩
theorem SW.st (h : SW X exc e ft) : ST X exc e ft := fun S env σ H Q r p pins s I => h S env σ H Q r p _ pins s I
theorem sw_and1 (ha : ST X exc a ft) : SW X exc (.BoolOp .And [a] pos) ft := fun S env σ H Q r p => wW.of (pw_and1 w_pt) (ha S env σ H Q r p)
theorem sw_or1 (ha : ST X exc a ft) : SW X exc (.BoolOp .Or [a] pos) ft := fun S env σ H Q r p => wW.of (pw_or1 w_pt) (ha S env σ H Q r p)
theorem sw_and {rest : List Expr} (ha : ST X exc a ft) (hb : SW X exc (.BoolOp .And (b :: rest) pos) fu) : SW X exc (.BoolOp .And (a :: b :: rest) pos) (fAndT ft fu) := by
  intro S env σ H Q r p
  refine wW.of (pw_and w_pt w_pw) (ha.seqT r p fun bb H1 _ m1 sr1 p1 => ?_)
  cases bb with
  | true => rw [if_pos rfl]; exact hb S env σ H1 Q sr1 p1
  | false => rw [if_neg (by simp)]; exact p1 H1 (Same.refl H1)
theorem sw_or {rest : List Expr} (ha : ST X exc a ft) (hb : SW X exc (.BoolOp .Or (b :: rest) pos) fu) : SW X exc (.BoolOp .Or (a :: b :: rest) pos) (fOrT ft fu) := by
  intro S env σ H Q r p
  refine wW.of (pw_or w_pt w_pw) (ha.seqT r p fun bb H1 _ m1 sr1 p1 => ?_)
  cases bb with
  | true => rw [if_pos rfl]; exact p1 H1 (Same.refl H1)
  | false => rw [if_neg (by simp)]; exact hb S env σ H1 Q sr1 p1
theorem st_not (ha : ST X exc a ft) : ST X exc (.UnaryOp .Not a pos) (fNotT ft) := by
  intro S env σ H Q r p
  exact wT.of (pt_not w_pt) (ha.seqT r p fun bb H1 _ m1 sr1 p1 => p1 H1 (Same.refl H1))

/-! arguments -/
theorem sa_nil : SA X exc [] fNil := fun S env σ H Q r p => wA.of pa_nil (p _ H (Same.refl H) .nil)
theorem sa_cons {es : List Expr} {fr : Env → R (List (Kd × D))} (hs : starEach (e :: es) X.env = (false, eval e X.env) :: starEach es X.env) (ha : SE X exc e fa) (hr : SA X exc es fr) : SA X exc (e :: es) (fCons fa fr) := by
  intro S env σ H Q r p
  refine wA.of (pa_cons w_pe w_pa hs) (ha S env σ H _ r ?_)
  unfold fCons at p
  cases q1 : fa env with
  | no => rw [q1] at p; exact p.elim
  | ex z => rw [q1] at p; exact p
  | ok y =>
    rw [q1] at p
    intro v H1 m1 rs1
    obtain ⟨yk, yd⟩ := y
    have sr1 : SR X.K (addS S yk v) env σ H1 := by
      cases rs1 with
      | old _ => exact r.grow m1
      | bor _ _ => exact r.grow m1
      | @new a _ hn o =>
        have e : addS S .new (.ref a) = fun b => S b ∨ b = a := by
          funext b
          simp only [addS, V.ref.injEq, eq_iff_iff]
          exact or_congr Iff.rfl eq_comm
        rw [e]
        exact r.more m1 hn o.here
    refine hr _ env σ H1 _ sr1 ?_
    cases q : fr env with
    | no => simp only [R.bind, q] at p; exact p.elim
    | ex z =>
      simp only [R.bind, q] at p
      exact PostA.grow (S := S) (r := .ex z) p m1
    | ok l =>
      simp only [R.bind, q] at p
      intro vs H2 m2 rs2
      exact p _ H2 (m1.trans m2) (.cons m1 rs1 m2 rs2)
end
end Rf

namespace Rf
open PySem PySem.Spec L2
open PyProof.Rows hiding St

/-- no star, no set, no slice -/
def plainE : Expr → Bool
  | .Starred .. => false
  | .Set .. => false
  | .Slice .. => false
  | _ => true
section
variable {e : Expr} {es : List Expr} {env : PySem.Env}
theorem star_cons (h : plainE e = true) : starEach (e :: es) env = (false, eval e env) :: starEach es env := by
  cases e <;> first | rfl | cases h
theorem star_any (h : es.all plainE = true) (pos : Pos) : (backTo pos (starEach es env)).any (·.1) = false := by
  induction es with
  | nil => rfl
  | cons e es ih =>
    simp only [List.all_cons, Bool.and_eq_true] at h
    rw [star_cons h.1]
    show (false || (backTo pos (starEach es env)).any (·.1)) = false
    rw [ih h.2]; rfl
theorem plain_marks (h : plainE e = true) (op : CmpOp) : behindInMarks op e = false := by
  cases e <;> first | rfl | cases h
theorem plain_last {b : Expr} (h : plainE e = true) (o o' : CmpOp) : lastMarks [o, o'] [b, e] = false := plain_marks h o'
theorem plain_ix (h : plainE e = true) : PlainIx e := by
  intro o i
  cases e <;> first | rfl | cases h
theorem plain_set (h : plainE e = true) (x : Value) : foldedSetIterable e env x = pure x := by
  cases e <;> first | rfl | cases h
end

inductive Bi where
  | len | tuple | list | all | any | sum | sorted | abs | int | max | min
def Bi.id : Bi → String
  | .len => "len" | .tuple => "tuple" | .list => "list" | .all => "all" | .any => "any" | .sum => "sum" | .sorted => "sorted" | .abs => "abs" | .int => "int" | .max => "max" | .min => "min"
def Bi.isT : Bi → Bool
  | .tuple => true | .list => true | .int => true | _ => false
def Bi.fn : Bi → List D → RV
  | .len => lenD | .tuple => tupleD | .list => listD | .all => allD | .any => anyD | .sum => sumD | .sorted => sortedD | .abs => absD | .int => intD | .max => maxD | .min => minD
theorem Bi.ne (b : Bi) (ds : List D) : NoEx (b.fn ds) := by
  cases b
  · show NoEx (lenD ds); unfold lenD; split <;> first | exact noEx_okv _ | exact noEx_no
  · show NoEx (tupleD ds); unfold tupleD; split <;> first | exact noEx_okv _ | exact noEx_no
  · show NoEx (listD ds); unfold listD; split <;> first | exact noEx_okn _ | exact noEx_no
  · show NoEx (allD ds); unfold allD; (repeat' split) <;> first | exact noEx_okv _ | exact noEx_no
  · show NoEx (anyD ds); unfold anyD; (repeat' split) <;> first | exact noEx_okv _ | exact noEx_no
  · show NoEx (sumD ds); unfold sumD; (repeat' split) <;> first | exact noEx_okv _ | exact noEx_no
  · show NoEx (sortedD ds); unfold sortedD; (repeat' split) <;> first | exact noEx_okn _ | exact noEx_no
  · show NoEx (absD ds); unfold absD; split <;> first | exact noEx_okv _ | exact noEx_no
  · show NoEx (intD ds); unfold intD; split <;> first | exact noEx_okv _ | exact noEx_no
  · show NoEx (maxD ds); unfold maxD; split <;> first | exact noEx_okv _ | exact noEx_no
  · show NoEx (minD ds); unfold minD; split <;> first | exact noEx_okv _ | exact noEx_no
theorem Bi.boot (b : Bi) : bootBuiltins (Str.ofString b.id) = some (if b.isT then .type b.id else .builtin b.id) := by
  cases b <;> first | exact PySem.boot_len | decide +kernel
theorem Bi.named (b : Bi) : Str.ofString b.id ≠ "__name__" := by cases b <;> decide +kernel
theorem Bi.ndb (b : Bi) : (Str.ofString b.id == ("__debug__" : Str)) = false := by cases b <;> decide +kernel
theorem Bi.okF {X : Cx} (hc : X.calm = true) (b : Bi) (h : b.isT = false) : CallR X (.builtin b.id) (rs X.K b.fn) := by
  cases b with
  | len => exact cr_len
  | all => exact cr_allD hc
  | any => exact cr_anyD hc
  | sum => exact cr_sumD hc
  | sorted => exact cr_sortedD
  | abs => exact cr_absD
  | max => exact cr_maxD hc
  | min => exact cr_minD hc
  | tuple => cases h
  | list => cases h
  | int => cases h
theorem Bi.okT {X : Cx} (b : Bi) (h : b.isT = true) : CallR X (.type b.id) (rs X.K b.fn) := by
  cases b with
  | tuple => exact cr_tuple
  | list => exact cr_list
  | int => exact cr_intD
  | _ => cases h

/-- what is said of a def of the text that is called -/
def PostF (K : PySem.W.Frag) (exc : Nat → Addr) (S : Addr → Prop) (H : Hp) (r : RV) (Q : VK) (E : XK) : Prop :=
  match r with
  | .ok (k, d) => k.nb = true ∧ ∀ v H', Same H H' → Res K H H' S k v d → Q v H'
  | .ex c => ∀ H', Same H H' → E (.ref (exc c)) none H'
  | .no => False
def spF (K : PySem.W.Frag) (exc : Nat → Addr) (n : Nat) (g : List D → RV) : Sp := fun vs H Q E => vs.length = n ∧ ∃ (S : Addr → Prop) (ds : List D), (∀ b, S b → Mut (H b)) ∧ RepAll K H S vs ds ∧ PostF K exc S H (g ds) Q E
structure FnAt (k : Nat) (exc : Nat → Addr) (X : Cx) (x : Str) (n : Nat) (g : List D → RV) : Prop where
  ex : ∃ (f : Addr) (fd : FuncData) (ps : List Str), FnOk X.prog X.w X.K X.mg X.base (L2.CX X.prog X.w) k f fd ps (spF X.K exc n g) ∧ X.mg x = some (.ref f) ∧ PySem.W.keepIn X.K (.ref f) = true ∧ Binds X.K fd ps []

section
variable {k : Nat} {N : List Str} {sc : Scope} {X : Cx} {exc : Nat → Addr} {x : Str} {p2 p3 pos : Pos} {a b e lo hi : Expr} {es : List Expr} {fa fb fc fl fh : Env → RV} {fs : Env → R (List (Kd × D))}
theorem se_tup {j : Nat} (ha : SA X exc es fs) : SE X exc (.Tuple es j pos) (fTup fs) := by
  intro S env σ H Q r p
  refine wE.of (pe_tup w_pa) (ha.seq r p fun ds vs H1 _ m1 rs1 sr1 p1 => ?_)
  obtain ⟨h, p1⟩ := chk_ok ((noEx_chk (noEx_okv _)).post p1)
  obtain ⟨h1, h2⟩ := Bool.and_eq_true_iff.mp h
  have ra := rs1.frz r.trk h1
  refine ⟨?_, fun q hq => p1.newT sr1.trk hq ra⟩
  rw [ra.length, List.length_map, sizeLine_eq]; exact Nat.le_of_ble_eq_true h2
theorem se_lst (ha : SA X exc es fs) : SE X exc (.List es pos) (fLst fs) := by
  intro S env σ H Q r p
  refine wE.of (pe_lst w_pa) (ha.seq r p fun ds vs H1 _ m1 rs1 sr1 p1 => ?_)
  obtain ⟨h, p1⟩ := chk_ok ((noEx_chk (noEx_okn _)).post p1)
  obtain ⟨h1, h2⟩ := Bool.and_eq_true_iff.mp h
  have ra := rs1.frz r.trk h1
  refine ⟨?_, fun q hq => p1.newL sr1.trk hq ra⟩
  rw [ra.length, List.length_map, sizeLine_eq]; exact Nat.le_of_ble_eq_true h2
theorem ixD_ne (d e : D) : NoEx (ixD d e) := by
  unfold ixD; (repeat' split) <;> first | exact noEx_okv _ | exact noEx_no
theorem slD_ne (d : D) (l h : Option Int) : NoEx (slD d l h) := by
  unfold slD; split <;> first | exact noEx_okv _ | exact noEx_okn _ | exact noEx_no
theorem se_ix (c : CxOk k N sc X) (hb' : plainE b = true) (ha : SE X exc a fa) (hb : SE X exc b fb) : SE X exc (.Subscript a b pos) (fOp ixD fa fb) :=
  fun S env σ H Q r p => wE.of (pe_ix (ix_D (by have := c.room.un; omega)) w_pe w_pe (plain_ix hb')) (two_of ixD_ne ha hb r p)
theorem se_sl0 (ha : SE X exc a fa) : SE X exc (.Subscript a (.Slice none none none p2) pos) (fSl0 fa) := by
  intro S env σ H Q r p
  refine wE.of (pe_slice sl_D w_pe po_none po_none) (ha.seq r p fun kd d v H1 _ m1 rs1 sr1 p1 => ?_)
  exact ⟨S, d, sr1.trk, rs1.brep m1 r.trk, (slD_ne _ _ _).post p1⟩
theorem se_slL (ha : SE X exc a fa) (hl : SE X exc lo fl) : SE X exc (.Subscript a (.Slice (some lo) none none p2) pos) (fSlL fa fl) := by
  intro S env σ H Q r p
  refine wE.of (pe_slice sl_D w_pe (po_some w_pe) po_none) (ha.seq r p fun kd d v H1 _ m1 rs1 sr1 p1 => hl.seq sr1 p1 fun kd2 d2 v2 H2 _ m2 rs2 sr2 p2 => ?_)
  dsimp only at p2
  split at p2
  · exact ⟨_, (rs2.brep m2 sr1.trk).int, S, d, sr2.trk, (rs1.brep m1 r.trk).grow m2 sr1.trk, (slD_ne _ _ _).post p2⟩
  · exact p2.elim
theorem se_slH (ha : SE X exc a fa) (hl : SE X exc lo fl) : SE X exc (.Subscript a (.Slice none (some lo) none p2) pos) (fSlH fa fl) := by
  intro S env σ H Q r p
  refine wE.of (pe_slice sl_D w_pe po_none (po_some w_pe)) (ha.seq r p fun kd d v H1 _ m1 rs1 sr1 p1 => hl.seq sr1 p1 fun kd2 d2 v2 H2 _ m2 rs2 sr2 p2 => ?_)
  dsimp only at p2
  split at p2
  · exact ⟨_, (rs2.brep m2 sr1.trk).int, S, d, sr2.trk, (rs1.brep m1 r.trk).grow m2 sr1.trk, (slD_ne _ _ _).post p2⟩
  · exact p2.elim
theorem se_slB (ha : SE X exc a fa) (hl : SE X exc lo fl) (hh : SE X exc hi fh) : SE X exc (.Subscript a (.Slice (some lo) (some hi) none p2) pos) (fSlB fa fl fh) := by
  intro S env σ H Q r p
  refine wE.of (pe_slice sl_D w_pe (po_some w_pe) (po_some w_pe)) (ha.seq r p fun kd d v H1 _ m1 rs1 sr1 p1 => hl.seq sr1 p1 fun kd2 d2 v2 H2 _ m2 rs2 sr2 p2 => ?_)
  have b1 := (rs1.brep m1 r.trk).grow m2 sr1.trk
  have b2 := rs2.brep m2 sr1.trk
  dsimp only at p2
  split at p2
  · refine ⟨_, b2.int, hh.seq sr2 p2 fun kd3 d3 v3 H3 _ m3 rs3 sr3 p3 => ?_⟩
    dsimp only at p3
    split at p3
    · exact ⟨_, (rs3.brep m3 sr2.trk).int, S, d, sr3.trk, b1.grow m3 sr2.trk, (slD_ne _ _ _).post p3⟩
    · exact p3.elim
  · exact p2.elim
theorem se_bi (c : CxOk k N sc X) (bi : Bi) (hg : glB sc (Str.ofString bi.id) = true) (hm : X.mg (Str.ofString bi.id) = none) (hp : (e :: es).all plainE = true) (ha : SA X exc (e :: es) fs) : SE X exc (.Call (.Name (Str.ofString bi.id) p2) (e :: es) [] pos) (fBi bi.fn fs) := by
  simp only [List.all_cons, Bool.and_eq_true] at hp
  intro S env σ H Q r p
  have bt := bi.boot
  have main : wA X (e :: es) σ H fun vs H1 => rs X.K bi.fn vs H1 Q := ha.seq r p fun ds vs H1 _ m1 rs1 sr1 p1 => ⟨S, _, sr1.trk, rs1.brep r.trk, (bi.ne _).post p1⟩
  cases h : bi.isT with
  | true =>
    rw [h, if_pos rfl] at bt
    exact wE.of (pe_callTy (bi.okT h) (c.gl hg) hm bt w_pa bi.named bi.ndb (star_cons hp.1) (star_any hp.2 _)) main
  | false =>
    rw [h, if_neg (by simp)] at bt
    exact wE.of (pe_callB (bi.okF c.calm h) (c.gl hg) hm bt w_pa bi.named bi.ndb (star_cons hp.1) (star_any hp.2 _)) main
theorem se_call (c : CxOk k N sc X) {n : Nat} {g : List D → RV} (F : FnAt k exc X x n g) (hg : glB sc x = true) (hdb : (x == ("__debug__" : Str)) = false) (hn : (e :: es).length = n) (hp : (e :: es).all plainE = true) (ha : SA X exc (e :: es) fs)
    (hl : ∀ env l, fs env = .ok l → l.length = (e :: es).length) : SE X exc (.Call (.Name x p2) (e :: es) [] pos) (fCall g fs) := by
  simp only [List.all_cons, Bool.and_eq_true] at hp
  obtain ⟨f, fd, ps, F, hm, hk, hb⟩ := F.ex
  intro S env σ H Q r p
  -- whatever it gives, a wish for exceptions
  have go : ∀ (W : WX), Takes X W → (wA X (e :: es) σ H fun vs H1 => spF X.K exc n g vs H1 Q (WE W σ)) → wE X (.Call (.Name x p2) (e :: es) [] pos) σ H Q := fun W tk h =>
    wE.of (pe_callS F c.room (c.gl hg) hm hk hb (fun σ => passAt tk σ) w_pa hdb (star_cons hp.1) (star_any hp.2 _)) h
  unfold fCall at p
  cases q : fs env with
  | no => rw [q] at p; exact p.elim
  | ex z =>
    rw [q] at p
    obtain ⟨W, tk, hW⟩ := id p
    refine go W tk (ha S env σ H _ r ?_)
    rw [q]; exact p
  | ok l =>
    rw [q] at p
    have hlen := hl env l q
    have p' : Post X exc S σ H (chk (nbs l) ((g (l.map (·.2))).bind fun z => chk z.1.nb (.ok z))) Q := p
    cases hb2 : nbs l with
    | false => rw [hb2] at p'; exact p'.elim
    | true =>
      rw [hb2] at p'
      have p3 : Post X exc S σ H ((g (l.map (·.2))).bind fun z => chk z.1.nb (.ok z)) Q := p'
      cases hr : g (l.map (·.2)) with
      | no => rw [hr] at p3; exact p3.elim
      | ex z =>
        rw [hr] at p3
        obtain ⟨W, tk, hW⟩ := id p3
        refine go W tk (ha S env σ H _ r ?_)
        rw [q]
        intro vs H1 m1 rs1
        have ra := rs1.frz r.trk hb2
        refine ⟨?_, S, _, mut_grow m1 r.trk, ra, ?_⟩
        · rw [ra.length, List.length_map, hlen]; exact hn
        · rw [hr]; exact fun H' m' => hW H' (m1.trans m')
      | ok z =>
        rw [hr] at p3
        obtain ⟨zk, zd⟩ := z
        have p4 : Post X exc S σ H (chk zk.nb (.ok (zk, zd))) Q := p3
        refine go (fun _ _ _ _ => False) takes0 (ha S env σ H _ r ?_)
        rw [q]
        intro vs H1 m1 rs1
        have ra := rs1.frz r.trk hb2
        refine ⟨?_, S, _, mut_grow m1 r.trk, ra, ?_⟩
        · rw [ra.length, List.length_map, hlen]; exact hn
        · rw [hr]
          cases hz : zk.nb with
          | false => rw [hz] at p4; exact p4.elim
          | true =>
            rw [hz] at p4
            exact ⟨hz, fun v H' m' rs => p4 v H' (m1.trans m') (rs.wide m1)⟩
end
end Rf

namespace Rf
open PySem PySem.Spec L2
open PyProof.Rows hiding St

section
variable {k : Nat} {N : List Str} {sc : Scope} {X : Cx} {exc : Nat → Addr} {x : Str} {p2 p3 p4 pos : Pos} {a b e lo hi : Expr} {es : List Expr} {fa fb fc fl fh : Env → RV} {fs : Env → R (List (Kd × D))}
theorem Ty.boot (t : Ty) : bootBuiltins (Str.ofString t.name) = some (.type t.name) := by cases t <;> decide +kernel
theorem Ty.named (t : Ty) : Str.ofString t.name ≠ "__name__" := by cases t <;> decide +kernel
theorem Ty.ndb (t : Ty) : (Str.ofString t.name == ("__debug__" : Str)) = false := by cases t <;> decide +kernel
theorem se_isi (c : CxOk k N sc X) (t : Ty) (hg : glB sc "isinstance" = true) (hm : X.mg "isinstance" = none) (hg2 : glB sc (Str.ofString t.name) = true) (hm2 : X.mg (Str.ofString t.name) = none) (hp : plainE a = true) (ha : SE X exc a fa) :
    SE X exc (.Call (.Name "isinstance" p2) [a, .Name (Str.ofString t.name) p3] [] pos) (fIsi t fa) := by
  intro S env σ H Q r p
  have pt : PE X (.Name (Str.ofString t.name) p3) (tC (.ty t.name)) := pe_bltn (c.gl hg2) hm2 t.boot rfl t.named t.ndb
  refine wE.of (pe_callB call_isi (c.gl hg) hm PyProof.Rows.boot_isinstance (pa_cons w_pe (pa_cons pt pa_nil (star_cons rfl)) (star_cons hp)) (by decide) (by decide) (star_cons hp) (star_any (by rfl) _)) ?_
  refine ha.seq r p fun kd d v H1 _ m1 rs1 sr1 p1 => ?_
  exact ⟨_, _, _, _, _, rfl, .ty _, (rs1.brep m1 r.trk).tyx, kit_ty (kit_isi t d), p1 _ H1 (Same.refl H1) (.old (.bl _))⟩
end

/-! ### range as a list -/
def rgL : Nat → Int → List Int
  | 0, _ => []
  | n + 1, a => a :: rgL n (a + 1)
theorem rgL_eq (n : Nat) (a : Int) : rgL n a = (List.range n).map fun i => a + (i : Nat) := by
  induction n generalizing a with
  | zero => rfl
  | succ n ih =>
    rw [rgL, ih, List.range_succ_eq_map, List.map_cons, List.map_map]
    congr 1
    · simp
    · refine List.map_congr_left fun i _ => ?_
      show a + 1 + (i : Nat) = a + ((i + 1 : Nat) : Int)
      omega
theorem rgL_length (n : Nat) (a : Int) : (rgL n a).length = n := by rw [rgL_eq]; simp
theorem rgL_get (n : Nat) (a : Int) (i : Nat) (h : i < n) : (rgL n a)[i]? = some (a + (i : Nat)) := by rw [rgL_eq]; simp [h]
theorem rgV_rgL (a b : Int) : rgV a b = (rgL (b - a).toNat a).map V.int := by
  unfold rgV; rw [rgL_eq, List.map_map]; rfl
def rgB (a b : Int) : Bool := decide (-(2 ^ 62) ≤ a) && decide (a < 2 ^ 62) && decide (-(2 ^ 62) ≤ b) && decide (b < 2 ^ 62) && Nat.ble (b - a).toNat 16777216
theorem rgB_ok {a b : Int} (h : rgB a b = true) : RgOk a b := by
  unfold rgB at h
  simp only [Bool.and_eq_true, decide_eq_true_eq] at h
  obtain ⟨⟨⟨⟨h1, h2⟩, h3⟩, h4⟩, h5⟩ := h
  exact ⟨h1, h2, h3, h4, Nat.le_of_ble_eq_true h5⟩
def rgD (tup : Bool) (a b : Int) : RV := chk (rgB a b) (if tup then okv (.tuple ((rgL (b - a).toNat a).map .int)) else okn (.list ((rgL (b - a).toNat a).map .int)))
def rgD1 (tup : Bool) : D → RV
  | .int n => rgD tup 0 n
  | _ => .no
def rgD2 (tup : Bool) : D → D → RV
  | .int i, .int j => rgD tup i j
  | _, _ => .no
theorem rgD_ne (t : Bool) (a b : Int) : NoEx (rgD t a b) := by
  unfold rgD; cases t <;> first | exact noEx_chk (noEx_okn _) | exact noEx_chk (noEx_okv _)
section
variable {k : Nat} {N : List Str} {sc : Scope} {X : Cx} {exc : Nat → Addr} {x : Str} {p2 p3 p4 pos : Pos} {a b e lo hi : Expr} {es : List Expr} {fa fb fc fl fh : Env → RV} {fs : Env → R (List (Kd × D))}
theorem rgD_post {S : Addr → Prop} {t : Bool} {i j : Int} {σ : L2.St} {H : Hp} {Q : VK} (hT : ∀ b, S b → Mut (H b)) (p : Post X exc S σ H (rgD t i j) Q) :
    RgOk i j ∧ (t = false → ∀ q, H q = none → Q (.ref q) (upd H q (.lst (rgV i j)))) ∧ (t = true → ∀ q, H q = none → Q (.ref q) (upd H q (.tup (rgV i j)))) := by
  have p := (rgD_ne t i j).post p
  unfold rgD at p
  obtain ⟨h, p⟩ := chk_ok p
  refine ⟨rgB_ok h, fun e q hq => ?_, fun e q hq => ?_⟩
  · subst e
    rw [rgV_rgL]
    exact PostV.newL p hT hq RepAll.ofInts
  · subst e
    rw [rgV_rgL]
    exact PostV.newT p hT hq RepAll.ofInts
theorem se_lrg1 (c : CxOk k N sc X) (hg : glB sc "list" = true) (hm : X.mg "list" = none) (hg2 : glB sc "range" = true) (hm2 : X.mg "range" = none) (hp : plainE a = true) (ha : SE X exc a fa) :
    SE X exc (.Call (.Name "list" p2) [.Call (.Name "range" p3) [a] [] p4] [] pos) (fUn (rgD1 false) fa) := by
  intro S env σ H Q r p
  refine wE.of (pe_listRg c.calm (c.gl hg) hm (prg_1 (c.gl hg2) hm2 w_pe (star_cons hp)) (star_cons rfl)) (ha.seq r p fun kd d v H1 _ m1 rs1 sr1 p1 => ?_)
  dsimp only at p1
  unfold rgD1 at p1
  split at p1
  · obtain ⟨q1, q2, _⟩ := rgD_post sr1.trk p1
    exact ⟨_, (rs1.brep m1 r.trk).int, q1, q2 rfl⟩
  · exact p1.elim
theorem se_trg1 (c : CxOk k N sc X) (hg : glB sc "tuple" = true) (hm : X.mg "tuple" = none) (hg2 : glB sc "range" = true) (hm2 : X.mg "range" = none) (hp : plainE a = true) (ha : SE X exc a fa) :
    SE X exc (.Call (.Name "tuple" p2) [.Call (.Name "range" p3) [a] [] p4] [] pos) (fUn (rgD1 true) fa) := by
  intro S env σ H Q r p
  refine wE.of (pe_tupRg c.calm (c.gl hg) hm (prg_1 (c.gl hg2) hm2 w_pe (star_cons hp)) (star_cons rfl)) (ha.seq r p fun kd d v H1 _ m1 rs1 sr1 p1 => ?_)
  dsimp only at p1
  unfold rgD1 at p1
  split at p1
  · obtain ⟨q1, _, q2⟩ := rgD_post sr1.trk p1
    exact ⟨_, (rs1.brep m1 r.trk).int, q1, q2 rfl⟩
  · exact p1.elim
theorem se_lrg2 (c : CxOk k N sc X) (hg : glB sc "list" = true) (hm : X.mg "list" = none) (hg2 : glB sc "range" = true) (hm2 : X.mg "range" = none) (hp : plainE a = true) (hp' : plainE b = true) (ha : SE X exc a fa) (hb : SE X exc b fb) :
    SE X exc (.Call (.Name "list" p2) [.Call (.Name "range" p3) [a, b] [] p4] [] pos) (fOp (rgD2 false) fa fb) := by
  intro S env σ H Q r p
  refine wE.of (pe_listRg c.calm (c.gl hg) hm (prg_2 (c.gl hg2) hm2 w_pe w_pe (star_cons hp) (star_cons hp') (star_any (by simp [hp']) _)) (star_cons rfl)) (ha.seq r p fun kd d v H1 _ m1 rs1 sr1 p1 => hb.seq sr1 p1 fun kd2 d2 v2 H2 _ m2 rs2 sr2 p2 => ?_)
  dsimp only at p2
  unfold rgD2 at p2
  split at p2
  · obtain ⟨q1, q2, _⟩ := rgD_post sr2.trk p2
    exact ⟨_, _, (rs1.brep m1 r.trk).int, (rs2.brep m2 sr1.trk).int, q1, q2 rfl⟩
  · exact p2.elim
theorem se_trg2 (c : CxOk k N sc X) (hg : glB sc "tuple" = true) (hm : X.mg "tuple" = none) (hg2 : glB sc "range" = true) (hm2 : X.mg "range" = none) (hp : plainE a = true) (hp' : plainE b = true) (ha : SE X exc a fa) (hb : SE X exc b fb) :
    SE X exc (.Call (.Name "tuple" p2) [.Call (.Name "range" p3) [a, b] [] p4] [] pos) (fOp (rgD2 true) fa fb) := by
  intro S env σ H Q r p
  refine wE.of (pe_tupRg c.calm (c.gl hg) hm (prg_2 (c.gl hg2) hm2 w_pe w_pe (star_cons hp) (star_cons hp') (star_any (by simp [hp']) _)) (star_cons rfl)) (ha.seq r p fun kd d v H1 _ m1 rs1 sr1 p1 => hb.seq sr1 p1 fun kd2 d2 v2 H2 _ m2 rs2 sr2 p2 => ?_)
  dsimp only at p2
  unfold rgD2 at p2
  split at p2
  · obtain ⟨q1, _, q2⟩ := rgD_post sr2.trk p2
    exact ⟨_, _, (rs1.brep m1 r.trk).int, (rs2.brep m2 sr1.trk).int, q1, q2 rfl⟩
  · exact p2.elim
end

/-! ### targets -/
mutual
inductive Tg where
  | n (i : Nat) | t (ts : Tgs)
inductive Tgs where
  | nil | cons (t : Tg) (r : Tgs)
end
mutual
def setT : Tg → D → Env → R Env
  | .n i, d, env => match Nat.ble env.length i with
    | true => .no
    | false => .ok (env.set i (.val d))
  | .t ts, d, env => match d with
    | .tuple ds => setTs ts ds env
    | .list ds => setTs ts ds env
    | _ => .no
def setTs : Tgs → List D → Env → R Env
  | .nil, [], env => .ok env
  | .cons t r, d :: ds, env => (setT t d env).bind fun env' => setTs r ds env'
  | _, _, _ => .no
end
mutual
def Tg.slots : Tg → List Nat
  | .n i => [i]
  | .t ts => ts.slots
def Tgs.slots : Tgs → List Nat
  | .nil => []
  | .cons t r => t.slots ++ r.slots
end
def Tgs.len : Tgs → Nat
  | .nil => 0
  | .cons _ r => r.len + 1
def wG (X : Cx) (tg : Expr) (v : V) (σ : L2.St) (H : Hp) (Q : L2.St → Hp → Prop) : Prop := ∀ (pins : List (Addr × Obj)) (s : Shared) (u : Value), Inv X pins σ H s → RelV v u →
  wpAny (model X.prog X.w) X.A (assign tg X.env u) (fun _ s' => ∃ σ' H', Inv X pins σ' H' s' ∧ Q σ' H') X.xe s
def wGs (X : Cx) (ts : List Expr) (vs : List V) (σ : L2.St) (H : Hp) (Q : L2.St → Hp → Prop) : Prop := ∀ (pins : List (Addr × Obj)) (s : Shared) (us : List Value), Inv X pins σ H s → Vals vs us →
  wpAny (model X.prog X.w) X.A (assignInOrder ((assignEach ts X.env).map (·.2)) us) (fun _ s' => ∃ σ' H', Inv X pins σ' H' s' ∧ Q σ' H') X.xe s
section
variable {X : Cx} {tg : Expr} {ts : List Expr}
theorem w_pg : PG X tg (fun v σ H Q => wG X tg v σ H Q) := ⟨fun pins s σ H v u Q I r h => h pins s u I r⟩
theorem w_pgs : PGs X ts (fun v σ H Q => wGs X ts v σ H Q) := ⟨fun pins s σ H v u Q I r h => h pins s u I r⟩
theorem wG.of {t : TG} {v : V} {σ : L2.St} {H : Hp} {Q : L2.St → Hp → Prop} (h : PG X tg t) (q : t v σ H Q) : wG X tg v σ H Q := fun pins s u I r => h.run pins s σ H v u Q I r q
theorem wGs.of {t : TGs} {v : List V} {σ : L2.St} {H : Hp} {Q : L2.St → Hp → Prop} (h : PGs X ts t) (q : t v σ H Q) : wGs X ts v σ H Q := fun pins s u I r => h.run pins s σ H v u Q I r q
/-- a target is T -/
def SG (X : Cx) (tg : Expr) (T : Tg) : Prop := ∀ (S : Addr → Prop) (env env' : Env) (σ : L2.St) (H : Hp) (v : V) (d : D) (Q : L2.St → Hp → Prop), SR X.K S env σ H → Rep X.K H S v d → setT T d env = .ok env' →
  (∀ σ' : L2.St, σ'.length = σ.length → (∀ j : Nat, j ∉ T.slots → σ'[j]? = σ[j]?) → SR X.K S env' σ' H → Q σ' H) → wG X tg v σ H Q
def SGs (X : Cx) (ts : List Expr) (T : Tgs) : Prop := ∀ (S : Addr → Prop) (env env' : Env) (σ : L2.St) (H : Hp) (vs : List V) (ds : List D) (Q : L2.St → Hp → Prop), SR X.K S env σ H → RepAll X.K H S vs ds → setTs T ds env = .ok env' →
  (∀ σ' : L2.St, σ'.length = σ.length → (∀ j : Nat, j ∉ T.slots → σ'[j]? = σ[j]?) → SR X.K S env' σ' H → Q σ' H) → wGs X ts vs σ H Q
end
def locB (sc : Scope) (x : Str) : Bool := match sc.names.lookup x with
  | some .local => true
  | some .cell => true
  | _ => false
section
variable {k : Nat} {N : List Str} {sc : Scope} {X : Cx} {x : Str} {pos : Pos} {ts : List Expr}
theorem CxOk.loc (c : CxOk k N sc X) (h : locB sc x = true) : Loc X.env.scope x ∧ (X.fn x = true ∨ X.env.scope.names.lookup x = some .local) := by
  unfold locB at h
  split at h
  · rename_i e; rcases c.sco x _ e with q | ⟨q, _⟩
    · exact ⟨.inl q, .inr q⟩
    · cases q
  · rename_i e; rcases c.sco x _ e with q | ⟨q, _⟩
    · exact ⟨.inr q, .inl (c.fnc x e)⟩
    · cases q
  · cases h
theorem SR.set {K : PySem.W.Frag} {S : Addr → Prop} {env : Env} {σ : L2.St} {H : Hp} {v : V} {d : D} (r : SR K S env σ H) (q : Rep K H S v d) (i : Nat) : SR K S (env.set i (.val d)) (σ.set i (some v)) H where
  len := by simp [r.len]
  trk := r.trk
  slot := fun j sl o e1 e2 => by
    by_cases hj : j = i
    · subst hj
      have h1 : j < env.length := by
        have := (List.getElem?_eq_some_iff.mp e1).1
        simpa using this
      have h2 : j < σ.length := by rw [← r.len]; exact h1
      rw [List.getElem?_set_self h1] at e1
      rw [List.getElem?_set_self h2] at e2
      cases e1; cases e2
      exact .val q
    · rw [List.getElem?_set_ne (Ne.symm hj)] at e1 e2
      exact r.slot j sl o e1 e2
theorem sg_name (c : CxOk k N sc X) {i : Nat} (hi : N[i]? = some x) (hx : locB sc x = true) : SG X (.Name x pos) (.n i) := by
  intro S env env' σ H v d Q r q e h
  obtain ⟨h1, h2⟩ := c.loc hx
  unfold setT at e
  split at e
  · cases e
  · cases e
    refine wG.of (pg_name (by rw [c.nm]; exact c.nd) (by rw [c.nm]; exact hi) h1 h2) (h _ (by simp) (fun j hj => ?_) (r.set q i))
    rw [List.getElem?_set_ne]
    intro z; exact hj (by rw [z]; simp [Tg.slots])
theorem asg_len (h : ts.all plainE = true) : (assignEach ts X.env).length = ts.length ∧ (assignEach ts X.env).findIdx? (·.1) = none := by
  induction ts with
  | nil => exact ⟨rfl, rfl⟩
  | cons e es ih =>
    simp only [List.all_cons, Bool.and_eq_true] at h
    obtain ⟨i1, i2⟩ := ih h.2
    have q : assignEach (e :: es) X.env = (false, assign e X.env) :: assignEach es X.env := by
      have h1 := h.1
      cases e <;> first | rfl | cases h1
    rw [q]
    refine ⟨by simp [i1], ?_⟩
    rw [List.findIdx?_cons, i2]
    rfl
theorem sgs_nil : SGs X [] .nil := by
  intro S env env' σ H vs ds Q r q e h
  cases q with
  | nil =>
    unfold setTs at e
    cases e
    exact wGs.of pgs_nil ⟨rfl, h σ rfl (fun _ _ => rfl) r⟩
  | cons _ _ => cases e
theorem sgs_cons {e : Expr} {T : Tg} {Ts : Tgs} (he : plainE e = true) (h1 : SG X e T) (h2 : SGs X ts Ts) : SGs X (e :: ts) (.cons T Ts) := by
  intro S env env' σ H vs ds Q r q er h
  have q1 : (assignEach (e :: ts) X.env).map (·.2) = assign e X.env :: (assignEach ts X.env).map (·.2) := by cases e <;> first | rfl | cases he
  cases q with
  | nil => cases er
  | cons a b =>
    unfold setTs at er
    rename_i v vs d ds
    cases z : setT T d env with
    | no => rw [z] at er; cases er
    | ex _ => rw [z] at er; cases er
    | ok env1 =>
      rw [z] at er
      refine wGs.of (pgs_cons w_pg w_pgs q1) ⟨_, _, rfl, h1 S env env1 σ H _ _ _ r a z fun σ1 l1 k1 r1 => h2 S env1 env' σ1 H _ _ _ r1 b er fun σ2 l2 k2 r2 => h σ2 (l2.trans l1) (fun j hj => ?_) r2⟩
      simp only [Tgs.slots, List.mem_append, not_or] at hj
      rw [k2 j hj.2, k1 j hj.1]
theorem sg_tup (c : CxOk k N sc X) {j : Nat} {Ts : Tgs} (hp : ts.all plainE = true) (hl : Ts.len = ts.length) (h : SGs X ts Ts) : SG X (.Tuple ts j pos) (.t Ts) := by
  intro S env env' σ H v d Q r q e hq
  obtain ⟨a1, a2⟩ := asg_len (X := X) hp
  have lens : ∀ {Ts : Tgs} {ds : List D} {env env' : Env}, setTs Ts ds env = .ok env' → ds.length = Ts.len := by
    intro Ts
    induction Ts using Tgs.rec (motive_1 := fun _ => True) with
    | n => trivial
    | t => trivial
    | nil => intro ds env env' e; cases ds with
      | nil => rfl
      | cons => cases e
    | cons t r _ ih => intro ds env env' e; cases ds with
      | nil => cases e
      | cons d ds =>
        unfold setTs at e
        cases z : setT t d env with
        | no => rw [z] at e; cases e
        | ex _ => rw [z] at e; cases e
        | ok env1 => rw [z] at e; simp [Tgs.len, ih e]
  cases q with
  | tup l ra =>
    have e' := e
    unfold setT at e'
    dsimp only at e'
    refine wG.of (pg_tup c.calm w_pgs a1 a2) ⟨_, _, rfl, l, ?_, h S env env' σ H _ _ Q r ra e' hq⟩
    rw [ra.length, lens e', hl]
  | lst l ra =>
    have e' := e
    unfold setT at e'
    dsimp only at e'
    refine wG.of (pg_lst c.calm w_pgs a1 a2) ⟨_, _, rfl, l.sq, ?_, h S env env' σ H _ _ Q r ra e' hq⟩
    rw [ra.length, lens e', hl]
  | _ => unfold setT at e; cases e
end
end Rf

namespace Rf
open PySem PySem.Spec L2
open PyProof.Rows hiding St

/-- what is kept while something is gone through: all, if it is lent; else all but S -/
def Kp (kd : Kd) (S : Addr → Prop) (H H' : Hp) : Prop := match kd with
  | .bor => Same H H'
  | _ => ∀ b o, H b = some o → ¬ S b → H' b = some o
theorem Kp.keep {kd : Kd} {S : Addr → Prop} {H H' : Hp} (h : Kp kd S H H') : ∀ b o, H b = some o → ¬ S b → H' b = some o := by
  cases kd with
  | bor => exact fun b o e _ => h b o e
  | old => exact h
  | new => exact h
theorem Kp.of {kd : Kd} {S : Addr → Prop} {H H' : Hp} (h : Same H H') : Kp kd S H H' := by
  cases kd with
  | bor => exact h
  | old => exact fun b o e _ => h b o e
  | new => exact fun b o e _ => h b o e
/-- what is gone through gives these -/
def Src (K : PySem.W.Frag) (S : Addr → Prop) (H1 : Hp) (J : It) (items : List D) (kd : Kd) : Prop :=
  ∃ (Y : Nat → Hp → V → Hp → Prop) (G : Hp → Prop), Walk J items.length G Y ∧ (∀ H', Kp kd S H1 H' → G H') ∧
    ∀ (i : Nat) (H' : Hp) (x : V) (H'' : Hp) (S' : Addr → Prop), Kp kd S H1 H' → (∀ a, S' a → S a ∨ H1 a = none) → (∀ a, S' a → Mut (H' a)) → i < items.length → Y i H' x H'' → Same H' H'' ∧ ∃ d, items[i]? = some d ∧ Rep K H'' S' x d
def wI (X : Cx) (tg iter : Expr) (σ : L2.St) (H : Hp) (Rr : It → Hp → Prop) : Prop := ∀ (pins : List (Addr × Obj)) (s : Shared), Inv X pins σ H s →
  wpAny (model X.prog X.w) X.A (eval iter X.env) (fun v s1 => wpAny (model X.prog X.w) X.A (pyIter v) (PIE X pins σ tg Rr) X.xe s1) X.xe s
def PostI (X : Cx) (exc : Nat → Addr) (S : Addr → Prop) (σ : L2.St) (H : Hp) (r : R (Kd × List D)) (Rr : It → Hp → Prop) : Prop :=
  match r with
  | .ok (kd, items) => ∀ J H1, Same H H1 → Src X.K S H1 J items kd → Rr J H1
  | .ex c => ∃ W, Takes X W ∧ ∀ H', Same H H' → W (.ref (exc c)) none σ H'
  | .no => False
def SI (X : Cx) (exc : Nat → Addr) (tg iter : Expr) (f : Env → R (Kd × List D)) : Prop :=
  ∀ (S : Addr → Prop) (env : Env) (σ : L2.St) (H : Hp) (Rr : It → Hp → Prop), SR X.K S env σ H → PostI X exc S σ H (f env) Rr → wI X tg iter σ H Rr
section
variable {X : Cx} {exc : Nat → Addr} {S : Addr → Prop} {σ : L2.St} {H H1 : Hp} {env : Env} {tg iter a b e : Expr} {es : List Expr}
theorem w_pi : PI X tg iter (fun σ H Rr => wI X tg iter σ H Rr) := ⟨fun pins s σ H Rr I h => h pins s I⟩
theorem wI.of {t : TI} {Rr : It → Hp → Prop} (h : PI X tg iter t) (q : t σ H Rr) : wI X tg iter σ H Rr := fun pins s I => h.run pins s σ H Rr I q
theorem SE.seqI {f : Env → RV} {k : Kd × D → R (Kd × List D)} {Rr : It → Hp → Prop} {Q1 : VK} (ha : SE X exc e f) (r : SR X.K S env σ H) (h : PostI X exc S σ H ((f env).bind k) Rr)
    (hk : ∀ fr d v H1, f env = .ok (fr, d) → Same H H1 → Res X.K H H1 S fr v d → SR X.K S env σ H1 → PostI X exc S σ H1 (k (fr, d)) Rr → Q1 v H1) : wE X e σ H Q1 := by
  refine ha S env σ H Q1 r ?_
  cases q : f env with
  | ok p =>
    rw [q] at h
    refine fun v H1 m rs => hk p.1 p.2 v H1 q m rs (r.grow m) ?_
    have h' : PostI X exc S σ H (k p) Rr := h
    show PostI X exc S σ H1 (k p) Rr
    cases z : k p with
    | ok y => rw [z] at h'; exact fun J H2 m2 sr => h' J H2 (m.trans m2) sr
    | ex c => rw [z] at h'; obtain ⟨W, t, kk⟩ := h'; exact ⟨W, t, fun H' m' => kk H' (m.trans m')⟩
    | no => rw [z] at h'; exact h'
  | ex c => rw [q] at h; exact h
  | no => rw [q] at h; exact h

def seqD (x : Kd × D) : R (Kd × List D) := match x.2 with
  | .list ds => .ok (x.1, ds)
  | .tuple ds => .ok (.old, ds)
  | _ => .no
def iSeq (fa : Env → RV) (env : Env) : R (Kd × List D) := (fa env).bind seqD
def rgItems (a b : Int) : R (Kd × List D) := match rgB a b with
  | true => .ok (.old, (rgL (b - a).toNat a).map .int)
  | false => .no
def iRng1 (fa : Env → RV) (env : Env) : R (Kd × List D) := (fa env).bind fun x => match x.2 with
  | .int n => rgItems 0 n
  | _ => .no
def iRng2 (fa fb : Env → RV) (env : Env) : R (Kd × List D) := (fa env).bind fun x => (fb env).bind fun y => match x.2, y.2 with
  | .int i, .int j => rgItems i j
  | _, _ => .no
/-- a list that is gone through -/
theorem src_list {a : Addr} {kd : Kd} {ds : List D} {H0 : Hp} (hT : ∀ b, S b → Mut (H1 b)) (m : Same H0 H1) (hT0 : ∀ b, S b → Mut (H0 b)) (rs : Res X.K H0 H1 S kd (.ref a) (.list ds)) : Src X.K S H1 (Itl X.K a) ds kd := by
  obtain ⟨xs, ra, hg⟩ : ∃ xs, RepAll X.K H1 S xs ds ∧ ∀ H', Kp kd S H1 H' → SqL X.K H' a xs := by
    cases rs with
    | old r => cases r with
      | lst l r => cases l with
        | trk t n =>
          refine ⟨_, r, fun H' k => ?_⟩
          rcases t with t | ⟨ob, t⟩
          · exact .inl (.inl (k.keep a _ t n))
          · exact .inl (.inr ⟨ob, k.keep a _ t n⟩)
    | new hn o =>
      have ns := not_of_none hT0 hn
      cases o.less hT with
      | lst e r => exact ⟨_, r, fun H' k => .inl (.inl (k.keep a _ e ns))⟩
    | bor hs o => cases o with
      | lst e r => exact ⟨_, r, fun H' k => .inl (.inl (k a _ e))⟩
  refine ⟨_, _, (by rw [← ra.length]; exact walk_list), hg, fun i H' x H'' S' k hs' hm hi y => ?_⟩
  obtain ⟨e1, e2⟩ := y
  subst e1
  obtain ⟨d, hd, rd⟩ := ra.get' e2
  exact ⟨Same.refl _, d, hd, rd.mono k.keep hT hs'⟩
theorem src_tup {a : Addr} {xs : List V} {ds : List D} (hT : ∀ b, S b → Mut (H1 b)) (l : SqT X.K H1 a xs) (ra : RepAll X.K H1 S xs ds) : Src X.K S H1 (Itt X.K a) ds .old := by
  refine ⟨_, _, (by rw [← ra.length]; exact walk_tup), fun H' k => ?_, fun i H' x H'' S' k hs' hm hi y => ?_⟩
  · rcases l with (l | ⟨ob, l⟩) | l
    · exact .inl (.inl (k a _ l fun q => by have z := hT a q; rw [l] at z; exact z))
    · exact .inl (.inr ⟨ob, k a _ l fun q => by have z := hT a q; rw [l] at z; exact z⟩)
    · exact .inr l
  · obtain ⟨e1, e2⟩ := y
    subst e1
    obtain ⟨d, hd, rd⟩ := ra.get' e2
    exact ⟨Same.refl _, d, hd, rd.mono k.keep hT hs'⟩
theorem src_rng {a b : Int} : Src X.K S H1 (Itr a (b - a).toNat) ((rgL (b - a).toNat a).map .int) .old := by
  refine ⟨_, _, (by rw [List.length_map, rgL_length]; exact walk_range), fun _ _ => trivial, fun i H' x H'' S' k hs' hm hi y => ?_⟩
  obtain ⟨e1, e2⟩ := y
  subst e1 e2
  rw [List.length_map, rgL_length] at hi
  exact ⟨Same.refl _, .int (a + i), by rw [List.getElem?_map, rgL_get _ _ _ hi]; rfl, .int _⟩
theorem si_seq {f : Env → RV} (ha : SE X exc iter f) : SI X exc tg iter (iSeq f) := by
  intro S env σ H Rr r p
  -- the list's way, the tuple's way
  unfold iSeq at p
  cases q : f env with
  | no => rw [q] at p; exact p.elim
  | ex c =>
    rw [q] at p
    have p' : ∃ W, Takes X W ∧ ∀ H', Same H H' → W (.ref (exc c)) none σ H' := p
    refine wI.of (pi_list w_pe) (ha S env σ H _ r ?_)
    rw [q]; exact p'
  | ok z =>
    obtain ⟨kd, d⟩ := z
    rw [q] at p
    have p' : PostI X exc S σ H (seqD (kd, d)) Rr := p
    unfold seqD at p'
    dsimp only at p'
    split at p'
    · refine wI.of (pi_list w_pe) (ha S env σ H _ r ?_)
      rw [q]
      intro v H1 m rs
      obtain ⟨a, xs, rfl, l, ra⟩ := (rs.brep m r.trk).lst
      exact ⟨a, rfl, ⟨xs, .inl l⟩, p' _ H1 m (src_list (mut_grow m r.trk) m r.trk rs)⟩
    · refine wI.of (pi_tup w_pe) (ha S env σ H _ r ?_)
      rw [q]
      intro v H1 m rs
      obtain ⟨a, xs, rfl, l, ra⟩ := (rs.brep m r.trk).tup
      exact ⟨a, rfl, ⟨xs, l⟩, p' _ H1 m (src_tup (mut_grow m r.trk) l ra)⟩
    · exact p'.elim
variable {k : Nat} {N : List Str} {sc : Scope} {p2 pos : Pos}
theorem si_rng1 (c : CxOk k N sc X) {f : Env → RV} (hg : glB sc "range" = true) (hm : X.mg "range" = none) (hp : plainE a = true) (ha : SE X exc a f) : SI X exc tg (.Call (.Name "range" p2) [a] [] pos) (iRng1 f) := by
  intro S env σ H Rr r p
  refine wI.of (pi_range1 (c.gl hg) hm (pa_cons w_pe pa_nil (star_cons hp)) (star_cons hp)) (ha.seqI r p fun kd d v H1 _ m1 rs1 sr1 p1 => ?_)
  dsimp only at p1
  split at p1
  · unfold rgItems at p1
    split at p1
    · rename_i h
      obtain ⟨b1, b2, b3, b4, b5⟩ := rgB_ok h
      refine ⟨_, congrArg (fun z => [z]) (rs1.brep m1 r.trk).int, b3, b4, ?_⟩
      have z := p1 _ H1 (Same.refl _) src_rng
      rw [Int.sub_zero] at z
      exact z
    · exact p1.elim
  · exact p1.elim
theorem si_rng2 (c : CxOk k N sc X) {f g : Env → RV} (hg : glB sc "range" = true) (hm : X.mg "range" = none) (hp : plainE a = true) (hp' : plainE b = true) (ha : SE X exc a f) (hb : SE X exc b g) : SI X exc tg (.Call (.Name "range" p2) [a, b] [] pos) (iRng2 f g) := by
  intro S env σ H Rr r p
  refine wI.of (pi_range2 (c.gl hg) hm (pa_cons w_pe (pa_cons w_pe pa_nil (star_cons hp')) (star_cons hp)) (by rw [star_cons hp, star_cons hp']; rfl) (star_cons hp')) (ha.seqI r p fun kd d v H1 _ m1 rs1 sr1 p1 => hb.seqI sr1 p1 fun kd2 d2 v2 H2 _ m2 rs2 sr2 p2 => ?_)
  dsimp only at p2
  split at p2
  · unfold rgItems at p2
    split at p2
    · rename_i h
      obtain ⟨b1, b2, b3, b4, b5⟩ := rgB_ok h
      refine ⟨_, _, ?_, ⟨b1, b2, b3, b4⟩, p2 _ H2 (Same.refl _) src_rng⟩
      rw [(rs1.brep m1 r.trk).int, (rs2.brep m2 sr1.trk).int]
    · exact p2.elim
  · exact p2.elim
end

/-! ### comprehensions -/
def wipeE (env : Env) : List Nat → Env
  | [] => env
  | i :: r => (wipeE env r).set i .emp
def noexV (r : RV) : RV := match r with
  | .ok p => .ok p
  | _ => .no
def noexB (r : R Bool) : R Bool := match r with
  | .ok p => .ok p
  | _ => .no
/-- one turn: what it puts in, if anything -/
def lcStep (own : List Nat) (T : Tg) (fc : Option (Env → R Bool)) (fe : Env → RV) (env : Env) (d : D) : R (Option D) :=
  (setT T d (wipeE env own)).bind fun env' => match fc with
    | none => (noexV (fe env')).bind fun z => match z.1.nb with
      | true => .ok (some z.2)
      | false => .no
    | some fc => (noexB (fc env')).bind fun b => match b with
      | true => (noexV (fe env')).bind fun z => match z.1.nb with
        | true => .ok (some z.2)
        | false => .no
      | false => .ok none
def lcL (step : D → R (Option D)) : List D → R (List D)
  | [] => .ok []
  | d :: ds => (step d).bind fun o => (lcL step ds).bind fun r => match o with
    | some x => .ok (x :: r)
    | none => .ok r
def noexS {α : Type} (r : R α) : R α := match r with
  | .ok p => .ok p
  | _ => .no
def fLc (own : List Nat) (T : Tg) (src : Env → R (Kd × List D)) (fc : Option (Env → R Bool)) (fe : Env → RV) (env : Env) : RV :=
  (src env).bind fun s => match Nat.ble s.2.length 16777216 with
    | true => (noexS (lcL (lcStep own T fc fe env) s.2)).bind fun l => okn (.list l)
    | false => .no
theorem wipe_get (σ : L2.St) (vs : List Nat) (j : Nat) : (wipe σ vs)[j]? = if j ∈ vs then (σ[j]?).map (fun _ => none) else σ[j]? := by
  induction vs with
  | nil => simp [wipe]
  | cons v vs ih =>
    unfold wipe
    by_cases h : v = j
    · subst h
      rw [if_pos List.mem_cons_self]
      by_cases hl : v < σ.length
      · rw [List.getElem?_set_self (by rw [wipe_length]; exact hl), List.getElem?_eq_getElem hl]; rfl
      · rw [List.getElem?_eq_none (by simp [wipe_length]; omega), List.getElem?_eq_none (by omega)]; rfl
    · rw [List.getElem?_set_ne h, ih]
      by_cases hm : j ∈ vs
      · rw [if_pos hm, if_pos (List.mem_cons_of_mem _ hm)]
      · rw [if_neg hm, if_neg (by simp only [List.mem_cons, not_or]; exact ⟨fun z => h z.symm, hm⟩)]
theorem wipeE_length (env : Env) (vs : List Nat) : (wipeE env vs).length = env.length := by
  induction vs with
  | nil => rfl
  | cons v vs ih => unfold wipeE; rw [List.length_set, ih]
theorem wipe_same {σ σ' : L2.St} {vs ws : List Nat} (hl : σ'.length = σ.length) (hs : ∀ j ∈ ws, j ∈ vs) (h : ∀ j : Nat, j ∉ ws → σ'[j]? = (wipe σ vs)[j]?) : wipe σ' vs = wipe σ vs := by
  apply List.ext_getElem?
  intro j
  by_cases hj : j ∈ vs
  · rw [wipe_get, wipe_get, if_pos hj, if_pos hj]
    by_cases hb : j < σ.length
    · rw [List.getElem?_eq_getElem hb, List.getElem?_eq_getElem (by omega)]; rfl
    · rw [List.getElem?_eq_none (by omega), List.getElem?_eq_none (by omega)]
  · rw [wipe_get, if_neg hj, h j (fun z => hj (hs j z))]
section
variable {K : PySem.W.Frag} {S : Addr → Prop} {env : Env} {σ : L2.St} {H H' : Hp}
theorem SR.wipe (r : SR K S env σ H) (vs : List Nat) : SR K S (wipeE env vs) (wipe σ vs) H := by
  induction vs with
  | nil => exact r
  | cons v vs ih =>
    refine ⟨by simp [wipeE, L2.wipe, ih.len], r.trk, fun i sl o e1 e2 => ?_⟩
    unfold wipeE at e1
    unfold L2.wipe at e2
    by_cases h : v = i
    · subst h
      have h1 : v < (wipeE env vs).length := by
        have := (List.getElem?_eq_some_iff.mp e1).1
        simpa using this
      rw [List.getElem?_set_self h1] at e1
      cases e1
      exact .emp
    · rw [List.getElem?_set_ne h] at e1 e2
      exact ih.slot i sl o e1 e2
/-- the new list has one more -/
theorem SR.updD {Dd : Addr} {xs : List V} (r : SR K S env σ H) (hn : ∀ (i : Nat) (d : D) (a : Addr), env[i]? = some (Sl.own d) → σ[i]? = some (some (V.ref a)) → a ≠ Dd) (hd : S Dd) : SR K S env σ (upd H Dd (.lst xs)) := by
  refine ⟨r.len, fun b q => ?_, fun i sl o e1 e2 => ?_⟩
  · by_cases e : b = Dd
    · rw [e, upd_same]; trivial
    · rw [upd_ne e]; exact r.trk b q
  · have k : ∀ b o, H b = some o → ¬ S b → upd H Dd (.lst xs) b = some o := fun b o e ns => by rw [upd_ne (fun z => ns (by rw [z]; exact hd))]; exact e
    cases r.slot i sl o e1 e2 with
    | emp => exact .emp
    | val q => exact .val (q.mono k r.trk fun b z => .inl z)
    | own q o => exact .own q (o.mono k r.trk (fun b z => .inl z) (upd_ne (hn _ _ _ e1 e2)))
end

theorem lcL_cons {step : D → R (Option D)} {d : D} {ds l : List D} (h : lcL step (d :: ds) = .ok l) : ∃ o r, step d = .ok o ∧ lcL step ds = .ok r ∧ l = (match o with | some x => x :: r | none => r) := by
  unfold lcL at h
  cases z : step d with
  | no => rw [z] at h; cases h
  | ex c => rw [z] at h; cases h
  | ok o =>
    rw [z] at h
    have h2 : (lcL step ds).bind (fun r => match o with | some x => R.ok (x :: r) | none => .ok r) = .ok l := h
    cases y : lcL step ds with
    | no => rw [y] at h2; cases h2
    | ex c => rw [y] at h2; cases h2
    | ok r =>
      rw [y] at h2
      refine ⟨o, r, rfl, rfl, ?_⟩
      cases o with
      | none => cases h2; rfl
      | some x => cases h2; rfl
theorem drop_of {α : Type} {l : List α} {i : Nat} {d : α} (h : l[i]? = some d) : l.drop i = d :: l.drop (i + 1) := by
  obtain ⟨hi, e⟩ := List.getElem?_eq_some_iff.mp h
  rw [List.drop_eq_getElem_cons hi, e]
def gBlk (X : Cx) (scope : Scope) (tg : Expr) : TG := fun v σ H Q => ∀ (s : Shared) (H0 : Hp) (C : Addr) (cl : List (Str × Addr)) (fp : List Addr), wG (X.blk s H0 scope (compEnvC scope cl C X.env) fp) tg v σ H Q
def eBlk (X : Cx) (scope : Scope) (elt : Expr) : TE := fun σ H Q => ∀ (s : Shared) (H0 : Hp) (C : Addr) (cl : List (Str × Addr)) (fp : List Addr), wE (X.blk s H0 scope (compEnvC scope cl C X.env) fp) elt σ H Q
section
variable {k : Nat} {N : List Str} {sc : Scope} {X : Cx} {exc : Nat → Addr} {pos : Pos} {tg iter elt : Expr} {ifs : List Expr} {scope : Scope}
theorem lc_read (c : CxOk k N sc X) {own : List (Str × Nat)} {T : Tg} {src : Env → R (Kd × List D)} {fc : Option (Env → R Bool)} {fe : Env → RV} (hs : SI X exc tg iter src) (ok : BlkOk X.N X.env.scope scope own) (hT : ∀ j ∈ T.slots, j ∈ own.map (·.2))
    (hg : ∀ (s : Shared) (H : Hp) (C : Addr) (cl : List (Str × Addr)) (fp : List Addr), SG (X.blk s H scope (compEnvC scope cl C X.env) fp) tg T)
    (ht : match fc with
      | none => ifs = []
      | some fc => ∃ cnd, ifs = [cnd] ∧ ∀ (s : Shared) (H : Hp) (C : Addr) (cl : List (Str × Addr)) (fp : List Addr), ST (X.blk s H scope (compEnvC scope cl C X.env) fp) exc cnd fc)
    (he : ∀ (s : Shared) (H : Hp) (C : Addr) (cl : List (Str × Addr)) (fp : List Addr), SE (X.blk s H scope (compEnvC scope cl C X.env) fp) exc elt fe) :
    ∃ tt : TT, (∀ (s : Shared) (H : Hp) (C : Addr) (cl : List (Str × Addr)) (fp : List Addr), PTs (X.blk s H scope (compEnvC scope cl C X.env) fp) ifs tt) ∧ ∀ (S : Addr → Prop) (env : Env) (σ : L2.St) (H : Hp) (Q : VK), SR X.K S env σ H → Post X exc S σ H (fLc (own.map (·.2)) T src fc fe env) Q →
      tLc (fun σ H Rr => wI X tg iter σ H Rr) (gBlk X scope tg) tt (eBlk X scope elt) (own.map (·.2)) σ H Q := by
  -- the test's reading
  obtain ⟨tt, hPT, htt⟩ : ∃ tt : TT, (∀ (s : Shared) (H : Hp) (C : Addr) (cl : List (Str × Addr)) (fp : List Addr), PTs (X.blk s H scope (compEnvC scope cl C X.env) fp) ifs tt) ∧
      ∀ (S : Addr → Prop) (env : Env) (σ : L2.St) (H : Hp) (Q : Bool → Hp → Prop), SR X.K S env σ H → (match fc with
        | none => Q true H
        | some fc => ∃ b, fc env = .ok b ∧ ∀ H', Same H H' → Q b H') → tt σ H Q := by
    cases fc with
    | none =>
      subst ht
      exact ⟨tYes, fun _ _ _ _ _ => pts_nil, fun S env σ H Q _ h => h⟩
    | some fc =>
      obtain ⟨cnd, rfl, hc⟩ := ht
      refine ⟨fun σ H Q => ∀ (s : Shared) (H0 : Hp) (C : Addr) (cl : List (Str × Addr)) (fp : List Addr), wT (X.blk s H0 scope (compEnvC scope cl C X.env) fp) cnd σ H Q, fun s H0 C cl fp => pts_one ⟨fun pins s' σ H Q I h => h s H0 C cl fp pins s' I⟩, fun S env σ H Q r h s H0 C cl fp => ?_⟩
      obtain ⟨b, e, h⟩ := h
      refine hc s H0 C cl fp S env σ H Q r ?_
      rw [e]
      exact h
  refine ⟨tt, hPT, fun S env σ H Q r p => ?_⟩
  refine hs S env σ H _ r ?_
  unfold fLc at p
  cases q : src env with
  | no => rw [q] at p; exact p.elim
  | ex z => rw [q] at p; exact p
  | ok z =>
    obtain ⟨kd, items⟩ := z
    rw [q] at p
    intro J H1 m ⟨Y, G, wk, hG, hY⟩ Dd hD
    have p2 : Post X exc S σ H (match Nat.ble items.length 16777216 with
      | true => (noexS (lcL (lcStep (own.map (·.2)) T fc fe env) items)).bind fun l => okn (.list l)
      | false => .no) Q := p
    cases hlen : Nat.ble items.length 16777216 with
    | false => rw [hlen] at p2; exact p2.elim
    | true =>
      rw [hlen] at p2
      have hlen' := Nat.le_of_ble_eq_true hlen
      have p3 : Post X exc S σ H ((noexS (lcL (lcStep (own.map (·.2)) T fc fe env) items)).bind fun l => okn (.list l)) Q := p2
      cases hl : lcL (lcStep (own.map (·.2)) T fc fe env) items with
      | no => rw [hl] at p3; exact p3.elim
      | ex z => rw [hl] at p3; exact p3.elim
      | ok l =>
        rw [hl] at p3
        have hDn : ¬ S Dd := not_of_none (mut_grow m r.trk) hD
        have hDH : H Dd = none := m.free hD
        have r1 := r.grow m
        have rw0 : SR X.K (fun b => S b ∨ b = Dd) (wipeE env (own.map (·.2))) (wipe σ (own.map (·.2))) (upd H1 Dd (.lst [])) := (r1.wipe _).more (same_upd hD) hD (by rw [upd_same]; trivial)
        have own_ne : ∀ (i : Nat) (d : D) (a : Addr), (wipeE env (own.map (·.2)))[i]? = some (Sl.own d) → (wipe σ (own.map (·.2)))[i]? = some (some (V.ref a)) → a ≠ Dd := fun i d a e1 e2 => by
          cases (r1.wipe (own.map (·.2))).slot i _ _ e1 e2 with
          | own hs _ => intro z; subst z; exact hDn hs
        refine lc_it wk (g := gBlk X scope tg) (tt := tt) (te := eBlk X scope elt) (vs := own.map (·.2)) (σ := σ) (Qd := fun H => Q (.ref Dd) H) (fun i H2 => ∃ acc ds, H2 Dd = some (.lst acc) ∧ RepAll X.K H2 (fun b => S b ∨ b = Dd) acc ds ∧ acc.length ≤ i ∧ Same H1 H2 ∧
          SR X.K (fun b => S b ∨ b = Dd) (wipeE env (own.map (·.2))) (wipe σ (own.map (·.2))) H2 ∧ ∃ rest, lcL (lcStep (own.map (·.2)) T fc fe env) (items.drop i) = .ok rest ∧ l = ds ++ rest)
          ⟨[], [], upd_same, .nil, Nat.le_refl _, same_upd hD, rw0, l, hl, rfl⟩ (fun i H2 hi ⟨acc, ds, h1, h2, h3, h4, h5, h6⟩ => hG H2 (.of h4)) ?_ ?_
        · intro i x H2 H2' hi ⟨acc, ds, h1, h2, h3, h4, h5, rest, h6, h7⟩ y s0 H0 C cl fp
          obtain ⟨ma, d, hd, rd⟩ := hY i H2 x H2' (fun b => S b ∨ b = Dd) (.of h4) (fun b z => z.elim .inl fun z => .inr (by rw [z]; exact hD)) h5.trk hi y
          rw [drop_of hd] at h6
          obtain ⟨o, r2, e1, e2, e3⟩ := lcL_cons h6
          unfold lcStep at e1
          cases hst : setT T d (wipeE env (own.map (·.2))) with
          | no => rw [hst] at e1; cases e1
          | ex z => rw [hst] at e1; cases e1
          | ok env' =>
            rw [hst] at e1
            refine hg s0 H0 C cl fp _ _ env' _ H2' x d _ (h5.grow ma) rd hst fun σ2 l2 k2 sr2 => ⟨wipe_same (by rw [l2, wipe_length]) hT k2, ?_⟩
            -- what is put in, what is kept
            have put : ∀ {H3 : Hp}, Same H2 H3 → ∀ {z : Kd × D}, fe env' = .ok z → z.1.nb = true → o = some z.2 → SR X.K (fun b => S b ∨ b = Dd) env' σ2 H3 →
                ∀ (s : Shared) (H0 : Hp) (C : Addr) (cl : List (Str × Addr)) (fp : List Addr), wE (X.blk s H0 scope (compEnvC scope cl C X.env) fp) elt σ2 H3 fun y H4 => ∃ acc, H4 Dd = some (.lst acc) ∧ acc.length < sizeLine ∧
                  ∃ acc' ds, upd H4 Dd (.lst (acc ++ [y])) Dd = some (.lst acc') ∧ RepAll X.K (upd H4 Dd (.lst (acc ++ [y]))) (fun b => S b ∨ b = Dd) acc' ds ∧ acc'.length ≤ i + 1 ∧ Same H1 (upd H4 Dd (.lst (acc ++ [y]))) ∧
                    SR X.K (fun b => S b ∨ b = Dd) (wipeE env (own.map (·.2))) (wipe σ (own.map (·.2))) (upd H4 Dd (.lst (acc ++ [y]))) ∧ ∃ rest, lcL (lcStep (own.map (·.2)) T fc fe env) (items.drop (i + 1)) = .ok rest ∧ l = ds ++ rest := by
              intro H3 m3 z ez hz ho sr3 s H0 C cl fp
              refine he s H0 C cl fp _ env' σ2 H3 _ sr3 ?_
              rw [ez]
              obtain ⟨zk, zd⟩ := z
              intro y H4 m4 rs4
              have m24 : Same H2 H4 := m3.trans m4
              have hD4 : H4 Dd = some (.lst acc) := m24 _ _ h1
              have rz : Rep X.K H4 (fun b => S b ∨ b = Dd) y zd := rs4.frz m4 sr3.trk hz
              have kp : ∀ b u, H4 b = some u → ¬ (S b ∨ b = Dd) → upd H4 Dd (.lst (acc ++ [y])) b = some u := fun b u e ns => by rw [upd_ne (fun q => ns (.inr q))]; exact e
              have t4 := mut_grow m24 h5.trk
              refine ⟨acc, hD4, by rw [sizeLine_eq]; omega, acc ++ [y], ds ++ [zd], upd_same, ((h2.grow m24 h5.trk).append (.cons rz .nil)).mono kp t4 fun b q => .inl q, by simp; omega, fun b u e => ?_, ((h5.grow m24).updD own_ne (.inr rfl)), r2, e2, ?_⟩
              · rw [upd_ne (ne_of_none e hD)]; exact m24 _ _ (h4 _ _ e)
              · rw [h7, e3, ho]; simp
            have pass : ∀ {H3 : Hp}, Same H2 H3 → o = none → ∃ acc' ds, H3 Dd = some (.lst acc') ∧ RepAll X.K H3 (fun b => S b ∨ b = Dd) acc' ds ∧ acc'.length ≤ i + 1 ∧ Same H1 H3 ∧
                    SR X.K (fun b => S b ∨ b = Dd) (wipeE env (own.map (·.2))) (wipe σ (own.map (·.2))) H3 ∧ ∃ rest, lcL (lcStep (own.map (·.2)) T fc fe env) (items.drop (i + 1)) = .ok rest ∧ l = ds ++ rest := by
              intro H3 m3 ho
              exact ⟨acc, ds, m3 _ _ h1, h2.grow m3 h5.trk, by omega, h4.trans m3, h5.grow m3, r2, e2, by rw [h7, e3, ho]⟩
            refine htt _ env' σ2 H2' _ sr2 ?_
            cases fc with
            | none =>
              have e4 : (noexV (fe env')).bind (fun z => match z.1.nb with | true => R.ok (some z.2) | false => .no) = .ok o := e1
              show if true = true then _ else _
              rw [if_pos rfl]
              cases hz : fe env' with
              | no => rw [hz] at e4; cases e4
              | ex _ => rw [hz] at e4; cases e4
              | ok z =>
                rw [hz] at e4
                have e5 : (match z.1.nb with | true => R.ok (some z.2) | false => .no) = .ok o := e4
                cases hb : z.1.nb with
                | false => rw [hb] at e5; cases e5
                | true => rw [hb] at e5; cases e5; exact put ma hz hb rfl sr2
            | some fc =>
              have e4 : (noexB (fc env')).bind (fun b => match b with
                | true => (noexV (fe env')).bind fun z => match z.1.nb with | true => R.ok (some z.2) | false => .no
                | false => .ok none) = .ok o := e1
              cases hb0 : fc env' with
              | no => rw [hb0] at e4; cases e4
              | ex _ => rw [hb0] at e4; cases e4
              | ok b =>
                rw [hb0] at e4
                refine ⟨b, hb0, fun H3 m3 => ?_⟩
                cases b with
                | false => cases e4; rw [if_neg (by simp)]; exact pass (ma.trans m3) rfl
                | true =>
                  rw [if_pos rfl]
                  have e4' : (noexV (fe env')).bind (fun z => match z.1.nb with | true => R.ok (some z.2) | false => .no) = .ok o := e4
                  cases hz : fe env' with
                  | no => rw [hz] at e4'; cases e4'
                  | ex _ => rw [hz] at e4'; cases e4'
                  | ok z =>
                    rw [hz] at e4'
                    have e5 : (match z.1.nb with | true => R.ok (some z.2) | false => .no) = .ok o := e4'
                    cases hb : z.1.nb with
                    | false => rw [hb] at e5; cases e5
                    | true => rw [hb] at e5; cases e5; exact put (ma.trans m3) hz hb rfl (sr2.grow m3)
        · intro H2 ⟨acc, ds, h1, h2, h3, h4, h5, rest, h6, h7⟩
          rw [List.drop_length] at h6
          cases h6
          rw [List.append_nil] at h7
          subst h7
          exact p3 _ H2 (m.trans h4) (.new hDH (.lst h1 h2))
theorem se_lc (c : CxOk k N sc X) {own : List (Str × Nat)} {T : Tg} {src : Env → R (Kd × List D)} {fc : Option (Env → R Bool)} {fe : Env → RV} (hp : plainE iter = true) (hs : SI X exc tg iter src) (ok : BlkOk X.N X.env.scope scope own) (hT : ∀ j ∈ T.slots, j ∈ own.map (·.2))
    (hg : ∀ (s : Shared) (H : Hp) (C : Addr) (cl : List (Str × Addr)) (fp : List Addr), SG (X.blk s H scope (compEnvC scope cl C X.env) fp) tg T)
    (ht : match fc with
      | none => ifs = []
      | some fc => ∃ cnd, ifs = [cnd] ∧ ∀ (s : Shared) (H : Hp) (C : Addr) (cl : List (Str × Addr)) (fp : List Addr), ST (X.blk s H scope (compEnvC scope cl C X.env) fp) exc cnd fc)
    (he : ∀ (s : Shared) (H : Hp) (C : Addr) (cl : List (Str × Addr)) (fp : List Addr), SE (X.blk s H scope (compEnvC scope cl C X.env) fp) exc elt fe) :
    SE X exc (.ListComp elt [⟨tg, iter, ifs, 0⟩] scope pos) (fLc (own.map (·.2)) T src fc fe) := by
  intro S env σ H Q r p
  obtain ⟨tt, h1, h2⟩ := lc_read c hs ok hT hg ht he
  exact wE.of (pe_lc (own := own) (g := gBlk X scope tg) (tt := tt) (te := eBlk X scope elt) c.calm (by rw [c.nm]; exact c.nd) w_pi ok (fun s H0 C cl fp => ⟨fun pins s' σ H v u Q I r h => h s H0 C cl fp pins s' u I r⟩) h1 (fun s H0 C cl fp => ⟨fun pins s' σ H Q I h => h s H0 C cl fp pins s' I⟩) (fun x => plain_set hp x)) (h2 S env σ H Q r p)
end
end Rf

namespace Rf
open PySem PySem.Spec L2
open PyProof.Rows hiding St

/-- the addresses that own slots hold -/
def O (os : List (Option Addr)) (a : Addr) : Prop := ∃ i : Nat, os[i]? = some (some a)
def So (S0 : Addr → Prop) (os : List (Option Addr)) (a : Addr) : Prop := S0 a ∨ O os a
/-- the state of a def's frame: H0 the heap at its entry, S0 what its callers hold apart -/
structure FR (K : PySem.W.Frag) (H0 : Hp) (S0 : Addr → Prop) (os : List (Option Addr)) (env : Env) (σ : L2.St) (H : Hp) : Prop where
  sr : SR K (So S0 os) env σ H
  ol : os.length = env.length
  own : ∀ (i : Nat) (d : D), env[i]? = some (Sl.own d) → ∃ a, os[i]? = some (some a) ∧ σ[i]? = some (some (V.ref a)) ∧ Own K H (So S0 os) a d
  inj : ∀ (i j : Nat) (a : Addr), os[i]? = some (some a) → os[j]? = some (some a) → i = j
  new : ∀ (i : Nat) (a : Addr), os[i]? = some (some a) → H0 a = none
  old : Same H0 H
  s0 : ∀ a, S0 a → Mut (H0 a)
/-- from one state of the frame to a later one -/
def Ev (os : List (Option Addr)) (H : Hp) (os' : List (Option Addr)) (H' : Hp) : Prop := (∀ a o, H a = some o → ¬ O os a → H' a = some o) ∧ ∀ a, O os' a → O os a ∨ H a = none
theorem Ev.refl (os : List (Option Addr)) (H : Hp) : Ev os H os H := ⟨fun _ _ e _ => e, fun _ h => .inl h⟩
theorem Ev.trans {os os1 os2 : List (Option Addr)} {H H1 H2 : Hp} (a : Ev os H os1 H1) (b : Ev os1 H1 os2 H2) : Ev os H os2 H2 := by
  refine ⟨fun x o e n => ?_, fun x h => ?_⟩
  · have e1 := a.1 x o e n
    refine b.1 x o e1 fun h => ?_
    rcases a.2 x h with q | q
    · exact n q
    · rw [e] at q; cases q
  · rcases b.2 x h with q | q
    · exact a.2 x q
    · cases e : H x with
      | none => exact .inr rfl
      | some o =>
        refine .inl (Classical.byContradiction fun n => ?_)
        rw [a.1 x o e n] at q; cases q
theorem Ev.grow {os : List (Option Addr)} {H H' : Hp} (m : Same H H') : Ev os H os H' := ⟨fun a o e _ => m a o e, fun _ h => .inl h⟩

section
variable {K : PySem.W.Frag} {H0 H H' : Hp} {S0 : Addr → Prop} {os : List (Option Addr)} {env : Env} {σ : L2.St}
theorem FR.grow (f : FR K H0 S0 os env σ H) (m : Same H H') : FR K H0 S0 os env σ H' :=
  ⟨f.sr.grow m, f.ol, fun i d e => let ⟨a, h1, h2, h3⟩ := f.own i d e; ⟨a, h1, h2, h3.grow m f.sr.trk⟩, f.inj, f.new, f.old.trans m, f.s0⟩
theorem O_set_none {i : Nat} {a : Addr} (h : O (os.set i none) a) : O os a ∧ os[i]? ≠ some (some a) ∨ (O os a ∧ ∃ j, j ≠ i ∧ os[j]? = some (some a)) := by
  obtain ⟨j, hj⟩ := h
  by_cases e : i = j
  · subst e
    have hb := (List.getElem?_eq_some_iff.mp hj).1
    rw [List.getElem?_set_self (by simpa using hb)] at hj
    cases hj
  · rw [List.getElem?_set_ne e] at hj
    exact .inr ⟨⟨j, hj⟩, j, fun z => e z.symm, hj⟩
theorem O_less {i : Nat} {a : Addr} (h : O (os.set i none) a) : O os a := by
  rcases O_set_none h with h | h
  · exact h.1
  · exact h.1
theorem get_set_none {i j : Nat} {a : Addr} (h : (os.set i none)[j]? = some (some a)) : j ≠ i ∧ os[j]? = some (some a) := by
  by_cases e : i = j
  · subst e
    have hb := (List.getElem?_eq_some_iff.mp h).1
    rw [List.getElem?_set_self (by simpa using hb)] at h
    cases h
  · rw [List.getElem?_set_ne e] at h
    exact ⟨fun z => e z.symm, h⟩
theorem So_less {i : Nat} {a : Addr} (h : So S0 (os.set i none) a) : So S0 os a := h.imp id O_less
theorem SR.less {S S' : Addr → Prop} (r : SR K S env σ H) (hs : ∀ a, S' a → S a) (ho : ∀ (i : Nat) (d : D) (a : Addr), env[i]? = some (Sl.own d) → σ[i]? = some (some (V.ref a)) → S' a) : SR K S' env σ H where
  len := r.len
  trk := fun b q => r.trk b (hs b q)
  slot := fun i sl o e1 e2 => by
    cases r.slot i sl o e1 e2 with
    | emp => exact .emp
    | val q => exact .val (q.mono (fun b u e _ => e) r.trk fun b z => .inl (hs b z))
    | own q o => exact .own (ho _ _ _ e1 e2) (o.mono (fun b u e _ => e) r.trk (fun b z => .inl (hs b z)) rfl)
/-- a slot is emptied -/
theorem FR.clear (f : FR K H0 S0 os env σ H) (i : Nat) : FR K H0 S0 (os.set i none) (env.set i .emp) σ H := by
  have keep : ∀ (j : Nat) (d : D), (env.set i .emp)[j]? = some (Sl.own d) → j ≠ i ∧ env[j]? = some (Sl.own d) := fun j d e => by
    by_cases h : i = j
    · subst h
      have hb := (List.getElem?_eq_some_iff.mp e).1
      rw [List.getElem?_set_self (by simpa using hb)] at e
      cases e
    · rw [List.getElem?_set_ne h] at e
      exact ⟨fun z => h z.symm, e⟩
  have ownk : ∀ (j : Nat) (d : D), (env.set i .emp)[j]? = some (Sl.own d) → ∃ a, (os.set i none)[j]? = some (some a) ∧ σ[j]? = some (some (V.ref a)) ∧ Own K H (So S0 (os.set i none)) a d := fun j d e => by
    obtain ⟨h1, h2⟩ := keep j d e
    obtain ⟨a, q1, q2, q3⟩ := f.own j d h2
    exact ⟨a, by rw [List.getElem?_set_ne (Ne.symm h1)]; exact q1, q2, q3.mono (fun b u e _ => e) f.sr.trk (fun b z => .inl (So_less z)) rfl⟩
  refine ⟨⟨by rw [List.length_set]; exact f.sr.len, fun b q => f.sr.trk b (So_less q), fun j sl o e1 e2 => ?_⟩, by simp [f.ol], ownk, fun j l a e1 e2 => f.inj j l a (get_set_none e1).2 (get_set_none e2).2, fun j a e => f.new j a (get_set_none e).2, f.old, f.s0⟩
  by_cases h : i = j
  · subst h
    have hb := (List.getElem?_eq_some_iff.mp e1).1
    rw [List.getElem?_set_self (by simpa using hb)] at e1
    cases e1
    exact .emp
  · have e1' := e1
    rw [List.getElem?_set_ne h] at e1
    cases f.sr.slot j sl o e1 e2 with
    | emp => exact .emp
    | val q => exact .val (q.mono (fun b u e _ => e) f.sr.trk fun b z => .inl (So_less z))
    | own q o =>
      obtain ⟨a, q1, q2, q3⟩ := ownk j _ e1'
      rw [e2] at q2
      cases q2
      exact .own (.inr ⟨j, q1⟩) q3
theorem Ev.clear (i : Nat) : Ev os H (os.set i none) H := ⟨fun _ _ e _ => e, fun _ h => .inl (O_less h)⟩
/-- a value that others may hold goes into a slot -/
theorem FR.putVal {v : V} {d : D} (f : FR K H0 S0 os env σ H) (i : Nat) (r : Rep K H (So S0 os) v d) : FR K H0 S0 (os.set i none) (env.set i (.val d)) (σ.set i (some v)) H := by
  have g := f.clear i
  have r' : Rep K H (So S0 (os.set i none)) v d := r.mono (fun b u e _ => e) f.sr.trk fun b z => .inl (So_less z)
  have sr := g.sr.set r' i
  rw [List.set_set] at sr
  refine ⟨sr, by simp [f.ol], fun j e he => ?_, g.inj, g.new, f.old, f.s0⟩
  by_cases h : i = j
  · subst h
    have hb := (List.getElem?_eq_some_iff.mp he).1
    rw [List.getElem?_set_self (by simpa using hb)] at he
    cases he
  · rw [List.getElem?_set_ne h] at he
    obtain ⟨a, q1, q2, q3⟩ := g.own j e (by rw [List.getElem?_set_ne h]; exact he)
    exact ⟨a, q1, by rw [List.getElem?_set_ne h]; exact q2, q3⟩
/-- a new object goes into a slot -/
theorem FR.putNew {a : Addr} {d : D} (f : FR K H0 S0 os env σ H) (m : Same H H') (i : Nat) (hi : i < env.length) (hn : H a = none) (ow : Own K H' (fun b => So S0 os b ∨ b = a) a d) :
    FR K H0 S0 (os.set i (some a)) (env.set i (.own d)) (σ.set i (some (.ref a))) H' ∧ Ev os H (os.set i (some a)) H' := by
  have g := (f.clear i).grow m
  have tr' := mut_grow m f.sr.trk
  have hio : i < os.length := by rw [f.ol]; exact hi
  have hiσ : i < σ.length := by rw [← f.sr.len]; exact hi
  have so_of : ∀ b, So S0 (os.set i (some a)) b → So S0 (os.set i none) b ∨ b = a := fun b q => by
    rcases q with q | ⟨j, hj⟩
    · exact .inl (.inl q)
    · by_cases h : i = j
      · subst h
        rw [List.getElem?_set_self hio] at hj
        cases hj; exact .inr rfl
      · rw [List.getElem?_set_ne h] at hj
        exact .inl (.inr ⟨j, by rw [List.getElem?_set_ne h]; exact hj⟩)
  have so_a : So S0 (os.set i (some a)) a := .inr ⟨i, List.getElem?_set_self hio⟩
  have so_none : ∀ b, So S0 (os.set i (some a)) b → So S0 (os.set i none) b ∨ H b = none := fun b q => by
    rcases so_of b q with q | q
    · exact .inl q
    · exact .inr (by rw [q]; exact hn)
  have tr2 : ∀ b, (So S0 os b ∨ b = a) → Mut (H' b) := fun b q => by
    rcases q with q | q
    · exact tr' b q
    · rw [q]; exact ow.here
  have owa : Own K H' (So S0 (os.set i (some a))) a d := ow.mono (fun b u e _ => e) tr2 (fun b q => .inl ((so_of b q).imp So_less id)) rfl
  have gof := f.clear i
  have ownk : ∀ (j : Nat) (e : D), (env.set i (.own d))[j]? = some (Sl.own e) → ∃ b, (os.set i (some a))[j]? = some (some b) ∧ (σ.set i (some (V.ref a)))[j]? = some (some (V.ref b)) ∧ Own K H' (So S0 (os.set i (some a))) b e := fun j e he => by
    by_cases h : i = j
    · subst h
      rw [List.getElem?_set_self hi] at he
      cases he
      exact ⟨a, List.getElem?_set_self hio, List.getElem?_set_self hiσ, owa⟩
    · rw [List.getElem?_set_ne h] at he
      obtain ⟨b, q1, q2, q3⟩ := gof.own j e (by rw [List.getElem?_set_ne h]; exact he)
      rw [List.getElem?_set_ne h] at q1
      have eb : H' b = H b := by
        have z := q3.here
        cases q : H b with
        | none => rw [q] at z; exact z.elim
        | some u => exact m b u q
      exact ⟨b, by rw [List.getElem?_set_ne h]; exact q1, by rw [List.getElem?_set_ne h]; exact q2, q3.mono (fun b u e _ => m b u e) gof.sr.trk so_none eb⟩
  refine ⟨⟨⟨by simp [f.sr.len], fun b q => ?_, fun j sl o e1 e2 => ?_⟩, by simp [f.ol], ownk, fun j l b e1 e2 => ?_, fun j b e => ?_, f.old.trans m, f.s0⟩, ⟨fun b o e _ => m b o e, fun b q => ?_⟩⟩
  · rcases so_of b q with q | q
    · exact tr' b (So_less q)
    · rw [q]; exact ow.here
  · by_cases h : i = j
    · subst h
      rw [List.getElem?_set_self hi] at e1
      rw [List.getElem?_set_self hiσ] at e2
      cases e1; cases e2
      exact .own so_a owa
    · have e1' := e1
      have e2' := e2
      rw [List.getElem?_set_ne h] at e1 e2
      cases gof.sr.slot j sl o (by rw [List.getElem?_set_ne h]; exact e1) e2 with
      | emp => exact .emp
      | val q => exact .val (q.mono (fun b u e _ => m b u e) gof.sr.trk so_none)
      | own q o =>
        obtain ⟨b, q1, q2, q3⟩ := ownk j _ e1'
        rw [e2'] at q2
        cases q2
        exact .own (.inr ⟨j, q1⟩) q3
  · have none_os : ∀ l : Nat, os[l]? ≠ some (some a) := fun l z => by
      have := f.sr.trk a (.inr ⟨l, z⟩)
      rw [hn] at this; exact this
    by_cases h : i = j
    · subst h
      rw [List.getElem?_set_self hio] at e1
      cases e1
      by_cases h2 : i = l
      · exact h2
      · rw [List.getElem?_set_ne h2] at e2
        exact absurd e2 (none_os l)
    · rw [List.getElem?_set_ne h] at e1
      by_cases h2 : i = l
      · subst h2
        rw [List.getElem?_set_self hio] at e2
        cases e2
        exact absurd e1 (none_os j)
      · rw [List.getElem?_set_ne h2] at e2
        exact f.inj j l b e1 e2
  · by_cases h : i = j
    · subst h
      rw [List.getElem?_set_self hio] at e
      cases e
      exact f.old.free hn
    · rw [List.getElem?_set_ne h] at e
      exact f.new j b e
  · obtain ⟨j, hj⟩ := q
    by_cases h : i = j
    · subst h
      rw [List.getElem?_set_self hio] at hj
      cases hj
      exact .inr hn
    · rw [List.getElem?_set_ne h] at hj
      exact .inl ⟨j, hj⟩
/-- an own slot's value may from now on be held by others -/
theorem FR.frz {i : Nat} {d : D} (f : FR K H0 S0 os env σ H) (he : env[i]? = some (Sl.own d)) : FR K H0 S0 (os.set i none) (env.set i (.val d)) σ H := by
  obtain ⟨a, q1, q2, q3⟩ := f.own i d he
  have na : ¬ So S0 (os.set i none) a := fun z => by
    rcases z with z | ⟨j, hj⟩
    · have z1 := f.s0 a z
      rw [f.new i a q1] at z1; exact z1
    · obtain ⟨h1, h2⟩ := get_set_none hj
      exact h1 (f.inj j i a h2 q1)
  have rp : Rep K H (So S0 (os.set i none)) (.ref a) d := by
    have hs : ∀ b, So S0 (os.set i none) b → So S0 os b ∨ H b = none := fun b z => .inl (So_less z)
    cases q3 with
    | lst e r => exact .lst (.trk (.inl e) na) (r.mono (fun b u e _ => e) f.sr.trk hs)
    | dK e r => exact .dct (.dK e na (r.mono (fun b u e _ => e) f.sr.trk hs))
  have g := f.clear i
  have sr := g.sr.set rp i
  rw [List.set_set] at sr
  have es : σ.set i (some (V.ref a)) = σ := by
    apply List.ext_getElem?
    intro j
    by_cases h : i = j
    · subst h
      rw [List.getElem?_set_self (List.getElem?_eq_some_iff.mp q2).1, q2]
    · rw [List.getElem?_set_ne h]
  rw [es] at sr
  refine ⟨sr, by simp [f.ol], fun j e hj => ?_, g.inj, g.new, f.old, f.s0⟩
  by_cases h : i = j
  · subst h
    have hb := (List.getElem?_eq_some_iff.mp hj).1
    rw [List.getElem?_set_self (by simpa using hb)] at hj
    cases hj
  · rw [List.getElem?_set_ne h] at hj
    exact g.own j e (by rw [List.getElem?_set_ne h]; exact hj)
/-- an own slot's object is changed in place -/
theorem FR.change {i : Nat} {d d' : D} {a : Addr} {o : HO} (f : FR K H0 S0 os env σ H) (he : env[i]? = some (Sl.own d)) (ha : os[i]? = some (some a)) (ho : Mut (some o))
    (hr : (∀ b u, H b = some u → ¬ So S0 os b → upd H a o b = some u) → Own K (upd H a o) (So S0 os) a d') : FR K H0 S0 os (env.set i (.own d')) σ (upd H a o) ∧ Ev os H os (upd H a o) := by
  have hO : So S0 os a := .inr ⟨i, ha⟩
  have kp : ∀ b u, H b = some u → ¬ So S0 os b → upd H a o b = some u := fun b u e n => by rw [upd_ne (fun z => n (by rw [z]; exact hO))]; exact e
  have hi : i < env.length := (List.getElem?_eq_some_iff.mp he).1
  have ow := hr kp
  obtain ⟨a2, z1, z2, _⟩ := f.own i d he
  rw [ha] at z1; cases z1
  have ownk : ∀ (j : Nat) (e : D), (env.set i (.own d'))[j]? = some (Sl.own e) → ∃ b, os[j]? = some (some b) ∧ σ[j]? = some (some (V.ref b)) ∧ Own K (upd H a o) (So S0 os) b e := fun j e hj => by
    by_cases h : i = j
    · subst h
      rw [List.getElem?_set_self hi] at hj
      cases hj
      exact ⟨a, ha, z2, ow⟩
    · rw [List.getElem?_set_ne h] at hj
      obtain ⟨b, q1, q2, q3⟩ := f.own j e hj
      have nb : b ≠ a := fun z => by subst z; exact h (f.inj i j b ha q1)
      exact ⟨b, q1, q2, q3.mono kp f.sr.trk (fun b z => .inl z) (upd_ne nb)⟩
  refine ⟨⟨⟨by simp [f.sr.len], fun b q => ?_, fun j sl ov e1 e2 => ?_⟩, by simp [f.ol], ownk, f.inj, f.new, fun b u e => ?_, f.s0⟩, ⟨fun b u e n => ?_, fun b q => .inl q⟩⟩
  · by_cases h : b = a
    · rw [h, upd_same]; exact ho
    · rw [upd_ne h]; exact f.sr.trk b q
  · by_cases h : i = j
    · subst h
      rw [List.getElem?_set_self hi] at e1
      cases e1
      rw [z2] at e2; cases e2
      exact .own hO ow
    · have e1' := e1
      rw [List.getElem?_set_ne h] at e1
      cases f.sr.slot j sl ov e1 e2 with
      | emp => exact .emp
      | val q => exact .val (q.mono kp f.sr.trk fun b z => .inl z)
      | own q ow2 =>
        obtain ⟨b, q1, q2, q3⟩ := ownk j _ e1'
        rw [e2] at q2; cases q2
        exact .own q q3
  · have n := f.new i a ha
    rw [upd_ne (ne_of_none e n)]
    exact f.old b u e
  · rw [upd_ne (fun z => n (by rw [z]; exact ⟨i, ha⟩))]; exact e
end

/-! ### statements -/
inductive SO where
  | nx (env : Env) | rt (k : Kd) (d : D) | bk (env : Env) | ct (env : Env) | ex (c : Nat) (env : Env) | no
def PostS (X : Cx) (exc : Nat → Addr) (H0 : Hp) (S0 : Addr → Prop) (os : List (Option Addr)) (H : Hp) (r : SO) (D : Ends) : Prop :=
  match r with
  | .nx env' => ∀ os' σ' H', FR X.K H0 S0 os' env' σ' H' → Ev os H os' H' → D.nx σ' H'
  | .bk env' => ∀ os' σ' H', FR X.K H0 S0 os' env' σ' H' → Ev os H os' H' → D.bk σ' H'
  | .ct env' => ∀ os' σ' H', FR X.K H0 S0 os' env' σ' H' → Ev os H os' H' → D.ct σ' H'
  | .rt k d => k.nb = true ∧ ∀ v H', Same H0 H' → Res X.K H0 H' S0 k v d → D.rt v H'
  | .ex c env' => ∃ W, Takes X W ∧ ∀ os' σ' H', FR X.K H0 S0 os' env' σ' H' → Ev os H os' H' → W (.ref (exc c)) none σ' H'
  | .no => False
def SS (X : Cx) (exc : Nat → Addr) (H0 : Hp) (S0 : Addr → Prop) (st : Stmt) (g : Env → SO) : Prop :=
  ∀ os env σ H D, FR X.K H0 S0 os env σ H → PostS X exc H0 S0 os H (g env) D → wS X st D σ H
def SSs (X : Cx) (exc : Nat → Addr) (H0 : Hp) (S0 : Addr → Prop) (st : List Stmt) (g : Env → SO) : Prop :=
  ∀ os env σ H D, FR X.K H0 S0 os env σ H → PostS X exc H0 S0 os H (g env) D → wSs X st D σ H
theorem PostS.ev {X : Cx} {exc : Nat → Addr} {H0 : Hp} {S0 : Addr → Prop} {os os1 : List (Option Addr)} {H H1 : Hp} {r : SO} {D : Ends} (p : PostS X exc H0 S0 os H r D) (e : Ev os H os1 H1) : PostS X exc H0 S0 os1 H1 r D := by
  cases r with
  | nx env' => exact fun os' σ' H' f e' => p os' σ' H' f (e.trans e')
  | bk env' => exact fun os' σ' H' f e' => p os' σ' H' f (e.trans e')
  | ct env' => exact fun os' σ' H' f e' => p os' σ' H' f (e.trans e')
  | rt k d => exact p
  | ex c env' => obtain ⟨W, t, k⟩ := p; exact ⟨W, t, fun os' σ' H' f e' => k os' σ' H' f (e.trans e')⟩
  | no => exact p
end Rf

namespace Rf
open PySem PySem.Spec L2
open PyProof.Rows hiding St

structure CxF (k : Nat) (N : List Str) (sc : Scope) (X : Cx) : Prop where
  ok : CxOk k N sc X
  sco : X.env.scope = sc
  pass : PassesOwn (model X.prog X.w) X.A X.env X.xe
  stk : X.stack = X.env :: X.outer
  frm : X.env.frame = some X.env.locals

/-! ### the frame's lists, frozen -/
def frzE (env : Env) : List Nat → Env
  | [] => env
  | i :: r => frzE (match env[i]? with
    | some (.own d) => env.set i (.val d)
    | _ => env) r
section
variable {K : PySem.W.Frag} {H0 H H1 : Hp} {S0 : Addr → Prop} {os : List (Option Addr)} {env : Env} {σ : L2.St}
theorem FR.frzs (l : List Nat) : ∀ {os : List (Option Addr)} {env : Env}, FR K H0 S0 os env σ H → ∃ os', FR K H0 S0 os' (frzE env l) σ H ∧ Ev os H os' H := by
  induction l with
  | nil => exact fun f => ⟨_, f, Ev.refl _ _⟩
  | cons i r ih =>
    intro os env f
    unfold frzE
    cases e : env[i]? with
    | none => exact ih f
    | some sl =>
      cases sl with
      | own d =>
        obtain ⟨os', f', ev⟩ := ih (f.frz e)
        exact ⟨os', f', (Ev.clear i).trans ev⟩
      | emp => exact ih f
      | val d => exact ih f
def slOf (p : Kd × D) : Sl := match p.1 with
  | .new => .own p.2
  | _ => .val p.2
theorem FR.put {kd : Kd} {v : V} {d : D} (f : FR K H0 S0 os env σ H) (m : Same H H1) (i : Nat) (hi : i < env.length) (r : Res K H H1 (So S0 os) kd v d) (nb : kd.nb = true) :
    ∃ os', FR K H0 S0 os' (env.set i (slOf (kd, d))) (σ.set i (some v)) H1 ∧ Ev os H os' H1 ∧ ∀ b, So S0 os' b → addS (So S0 os) kd v b := by
  cases r with
  | old r => exact ⟨_, (f.grow m).putVal i r, (Ev.grow m).trans (Ev.clear i), fun b q => So_less q⟩
  | bor _ _ => cases nb
  | @new a _ hn o =>
    obtain ⟨h1, h2⟩ := f.putNew m i hi hn o
    refine ⟨_, h1, h2, fun b q => ?_⟩
    rcases q with q | ⟨j, hj⟩
    · exact .inl (.inl q)
    · by_cases h : i = j
      · subst h
        have hb := (List.getElem?_eq_some_iff.mp hj).1
        rw [List.getElem?_set_self (by simpa using hb)] at hj
        cases hj; exact .inr rfl
      · rw [List.getElem?_set_ne h] at hj
        exact .inl (.inr ⟨j, hj⟩)
theorem addS_mono {S S' : Addr → Prop} {kd : Kd} {v : V} {b : Addr} (h : ∀ b, S b → S' b) (q : addS S kd v b) : addS S' kd v b := by
  cases kd with
  | new => exact q.imp (h b) id
  | old => exact h b q
  | bor => exact h b q
def clearL (os : List (Option Addr)) : List Nat → List (Option Addr)
  | [] => os
  | i :: r => (clearL os r).set i none
theorem clearL_length (l : List Nat) : (clearL os l).length = os.length := by
  induction l with
  | nil => rfl
  | cons i r ih => simp [clearL, ih]
theorem clearL_get {l : List Nat} {j : Nat} {a : Addr} (h : (clearL os l)[j]? = some (some a)) : j ∉ l ∧ os[j]? = some (some a) := by
  induction l with
  | nil => exact ⟨by simp, h⟩
  | cons i r ih =>
    obtain ⟨h1, h2⟩ := get_set_none (os := clearL os r) h
    obtain ⟨h3, h4⟩ := ih h2
    exact ⟨by simp [h1, h3], h4⟩
theorem clearL_keep {l : List Nat} {j : Nat} (h : j ∉ l) : (clearL os l)[j]? = os[j]? := by
  induction l with
  | nil => rfl
  | cons i r ih =>
    simp only [List.mem_cons, not_or] at h
    unfold clearL
    rw [List.getElem?_set_ne (fun z => h.1 z.symm)]
    exact ih h.2
theorem FR.targets {env' : Env} {σ' : L2.St} (f : FR K H0 S0 os env σ H) (l : List Nat) (sr : SR K (So S0 os) env' σ' H) (h1 : ∀ j : Nat, j ∉ l → env'[j]? = env[j]?) (h2 : ∀ j ∈ l, ∀ d : D, env'[j]? ≠ some (Sl.own d))
    (h3 : ∀ j : Nat, j ∉ l → σ'[j]? = σ[j]?) (hl : env'.length = env.length) : FR K H0 S0 (clearL os l) env' σ' H ∧ Ev os H (clearL os l) H := by
  have sol : ∀ b, So S0 (clearL os l) b → So S0 os b := fun b q => q.imp id fun ⟨j, hj⟩ => ⟨j, (clearL_get hj).2⟩
  have ownk : ∀ (j : Nat) (d : D), env'[j]? = some (Sl.own d) → ∃ a, (clearL os l)[j]? = some (some a) ∧ σ'[j]? = some (some (V.ref a)) ∧ Own K H (So S0 (clearL os l)) a d := fun j d e => by
    by_cases hj : j ∈ l
    · exact absurd e (h2 j hj d)
    · rw [h1 j hj] at e
      obtain ⟨a, q1, q2, q3⟩ := f.own j d e
      exact ⟨a, (clearL_keep hj).trans q1, (h3 j hj).trans q2, q3.lessS f.sr.trk sol⟩
  refine ⟨⟨sr.less sol fun j d a e1 e2 => ?_, by rw [clearL_length, f.ol, hl], ownk, fun j i a e1 e2 => f.inj j i a (clearL_get e1).2 (clearL_get e2).2, fun j a e => f.new j a (clearL_get e).2, f.old, f.s0⟩, fun _ _ e _ => e, fun b ⟨j, hj⟩ => .inl ⟨j, (clearL_get hj).2⟩⟩
  obtain ⟨a2, q1, q2, _⟩ := ownk j d e1
  rw [e2] at q2; cases q2
  exact .inr ⟨j, q1⟩
end

/-! ### what targets do to the slots -/
theorem setT_facts : ∀ (T : Tg) (d : D) (env env' : Env), setT T d env = .ok env' → env'.length = env.length ∧ (∀ j : Nat, j ∉ T.slots → env'[j]? = env[j]?) ∧ ∀ j : Nat, (∃ d, env[j]? = some (Sl.val d)) ∨ j ∈ T.slots → ∃ d, env'[j]? = some (Sl.val d) := by
  intro T
  refine Tg.rec (motive_1 := fun T => ∀ (d : D) (env env' : Env), setT T d env = .ok env' → env'.length = env.length ∧ (∀ j : Nat, j ∉ T.slots → env'[j]? = env[j]?) ∧ ∀ j : Nat, (∃ d, env[j]? = some (Sl.val d)) ∨ j ∈ T.slots → ∃ d, env'[j]? = some (Sl.val d))
    (motive_2 := fun T => ∀ (ds : List D) (env env' : Env), setTs T ds env = .ok env' → env'.length = env.length ∧ (∀ j : Nat, j ∉ T.slots → env'[j]? = env[j]?) ∧ ∀ j : Nat, (∃ d, env[j]? = some (Sl.val d)) ∨ j ∈ T.slots → ∃ d, env'[j]? = some (Sl.val d)) ?_ ?_ ?_ ?_ T
  · intro i d env env' e
    unfold setT at e
    split at e
    · cases e
    · rename_i hb
      cases e
      have hi : i < env.length := by
        rcases Nat.lt_or_ge i env.length with h | h
        · exact h
        · rw [Nat.ble_eq_true_of_le h] at hb; cases hb
      refine ⟨by simp, fun j hj => ?_, fun j hj => ?_⟩
      · rw [List.getElem?_set_ne]
        intro z; exact hj (by rw [z]; simp [Tg.slots])
      · by_cases h : i = j
        · subst h; exact ⟨d, List.getElem?_set_self hi⟩
        · rw [List.getElem?_set_ne h]
          rcases hj with hj | hj
          · exact hj
          · simp only [Tg.slots, List.mem_singleton] at hj; exact absurd hj.symm h
  · intro ts ih d env env' e
    unfold setT at e
    split at e
    · exact ih _ _ _ e
    · exact ih _ _ _ e
    · cases e
  · intro ds env env' e
    cases ds with
    | nil =>
      unfold setTs at e; cases e
      refine ⟨rfl, fun _ _ => rfl, fun j hj => ?_⟩
      rcases hj with hj | hj
      · exact hj
      · simp [Tgs.slots] at hj
    | cons => cases e
  · intro t r h1 h2 ds env env' e
    cases ds with
    | nil => cases e
    | cons d ds =>
      unfold setTs at e
      cases z : setT t d env with
      | no => rw [z] at e; cases e
      | ex _ => rw [z] at e; cases e
      | ok env1 =>
        rw [z] at e
        obtain ⟨a1, a2, a3⟩ := h1 _ _ _ z
        obtain ⟨b1, b2, b3⟩ := h2 _ _ _ e
        refine ⟨b1.trans a1, fun j hj => ?_, fun j hj => ?_⟩
        · simp only [Tgs.slots, List.mem_append, not_or] at hj
          rw [b2 j hj.2, a2 j hj.1]
        · simp only [Tgs.slots, List.mem_append] at hj
          rcases hj with hj | hj | hj
          · exact b3 j (.inl (a3 j (.inl hj)))
          · exact b3 j (.inl (a3 j (.inr hj)))
          · exact b3 j (.inr hj)

/-! ### expressions in statements -/
def sbind (env : Env) (r : RV) (k : Kd × D → SO) : SO := match r with
  | .ok p => k p
  | .ex c => .ex c env
  | .no => .no
def sbindT (env : Env) (r : R Bool) (k : Bool → SO) : SO := match r with
  | .ok p => k p
  | .ex c => .ex c env
  | .no => .no
def sbindA (env : Env) (r : R (List (Kd × D))) (k : List (Kd × D) → SO) : SO := match r with
  | .ok p => k p
  | .ex c => .ex c env
  | .no => .no
section
variable {X : Cx} {exc : Nat → Addr} {H0 H H1 : Hp} {S0 : Addr → Prop} {os : List (Option Addr)} {env : Env} {σ : L2.St} {e : Expr} {es : List Expr} {Ds : Ends}
theorem SE.seqS {Q1 : VK} {f : Env → RV} {k : Kd × D → SO} (ha : SE X exc e f) (r : FR X.K H0 S0 os env σ H) (h : PostS X exc H0 S0 os H (sbind env (f env) k) Ds)
    (hk : ∀ fr d v H1, f env = .ok (fr, d) → Same H H1 → Res X.K H H1 (So S0 os) fr v d → FR X.K H0 S0 os env σ H1 → PostS X exc H0 S0 os H1 (k (fr, d)) Ds → Q1 v H1) : wE X e σ H Q1 := by
  refine ha (So S0 os) env σ H Q1 r.sr ?_
  cases q : f env with
  | ok p => rw [q] at h; exact fun v H1 m rs => hk p.1 p.2 v H1 q m rs (r.grow m) (PostS.ev (r := k p) h (Ev.grow m))
  | ex c => rw [q] at h; obtain ⟨W, t, kk⟩ := h; exact ⟨W, t, fun H' m' => kk os σ H' (r.grow m') (Ev.grow m')⟩
  | no => rw [q] at h; exact h
theorem ST.seqS {Q1 : Bool → Hp → Prop} {f : Env → R Bool} {k : Bool → SO} (ha : ST X exc e f) (r : FR X.K H0 S0 os env σ H) (h : PostS X exc H0 S0 os H (sbindT env (f env) k) Ds)
    (hk : ∀ b H1, f env = .ok b → Same H H1 → FR X.K H0 S0 os env σ H1 → PostS X exc H0 S0 os H1 (k b) Ds → Q1 b H1) : wT X e σ H Q1 := by
  refine ha (So S0 os) env σ H Q1 r.sr ?_
  cases q : f env with
  | ok p => rw [q] at h; exact fun H1 m => hk p H1 q m (r.grow m) (PostS.ev (r := k p) h (Ev.grow m))
  | ex c => rw [q] at h; obtain ⟨W, t, kk⟩ := h; exact ⟨W, t, fun H' m' => kk os σ H' (r.grow m') (Ev.grow m')⟩
  | no => rw [q] at h; exact h
theorem SA.seqS {Q1 : List V → Hp → Prop} {f : Env → R (List (Kd × D))} {k : List (Kd × D) → SO} (ha : SA X exc es f) (r : FR X.K H0 S0 os env σ H) (h : PostS X exc H0 S0 os H (sbindA env (f env) k) Ds)
    (hk : ∀ ds vs H1, f env = .ok ds → Same H H1 → ResAll X.K H1 H (So S0 os) vs ds → FR X.K H0 S0 os env σ H1 → PostS X exc H0 S0 os H (k ds) Ds → Q1 vs H1) : wA X es σ H Q1 := by
  refine ha (So S0 os) env σ H Q1 r.sr ?_
  cases q : f env with
  | ok p => rw [q] at h; exact fun v H1 m rs => hk p v H1 q m rs (r.grow m) h
  | ex c => rw [q] at h; obtain ⟨W, t, kk⟩ := h; exact ⟨W, t, fun H' m' => kk os σ H' (r.grow m') (Ev.grow m')⟩
  | no => rw [q] at h; exact h
end

/-! ### plain statements -/
def fFz (l : List Nat) (g : Env → SO) (env : Env) : SO := g (frzE env l)
def fExpr (fe : Env → RV) (env : Env) : SO := sbind env (fe env) fun _ => .nx env
def fSet (i : Nat) (fe : Env → RV) (env : Env) : SO := sbind env (fe env) fun p => match p.1.nb with
  | true => .nx (env.set i (slOf p))
  | false => .no
def asgD (T : Tg) (env : Env) (p : Kd × D) : SO := match p.1.nb with
  | true => match setT T p.2 env with
    | .ok env' => .nx env'
    | _ => .no
  | false => .no
def fAsg (T : Tg) (fe : Env → RV) (env : Env) : SO := sbind env (fe env) (asgD T env)
def par2 (i j : Nat) (env : Env) : List (Kd × D) → SO
  | [p, q] => match p.1.nb && q.1.nb with
    | true => .nx ((env.set i (slOf p)).set j (slOf q))
    | false => .no
  | _ => .no
def fPar (i j : Nat) (fs : Env → R (List (Kd × D))) (env : Env) : SO := sbindA env (fs env) (par2 i j env)
def par3 (i j l : Nat) (env : Env) : List (Kd × D) → SO
  | [p, q, r] => match p.1.nb && q.1.nb && r.1.nb with
    | true => .nx (((env.set i (slOf p)).set j (slOf q)).set l (slOf r))
    | false => .no
  | _ => .no
def fPar3 (i j l : Nat) (fs : Env → R (List (Kd × D))) (env : Env) : SO := sbindA env (fs env) (par3 i j l env)
def fRet (fe : Env → RV) (env : Env) : SO := sbind env (fe env) fun p => match p.1.nb with
  | true => .rt p.1 p.2
  | false => .no
/-- return of a variable's own list -/
def fRetV (i : Nat) (env : Env) : SO := match env[i]? with
  | some (.val d) => .rt .old d
  | some (.own d) => .rt .new d
  | _ => .no
def fNone (_ : Env) : SO := .rt .old .none
def fPass (env : Env) : SO := .nx env
def fBrk (env : Env) : SO := .bk env
def fCnt (env : Env) : SO := .ct env
def fIfS (ft : Env → R Bool) (ga gb : Env → SO) (env : Env) : SO := sbindT env (ft env) fun b => match b with
  | true => ga env
  | false => gb env
def sseq (o : SO) (k : Env → SO) : SO := match o with
  | .nx env => k env
  | o => o
def fSeq (g h : Env → SO) (env : Env) : SO := sseq (g env) h
section
variable {k : Nat} {N : List Str} {sc : Scope} {X : Cx} {exc : Nat → Addr} {H0 : Hp} {S0 : Addr → Prop} {x y z : Str} {pos pos' px py pz pt pt2 : Pos} {a b e : Expr} {es : List Expr} {fe : Env → RV} {fs : Env → R (List (Kd × D))} {ft : Env → R Bool} {st : Stmt} {sts sts' : List Stmt} {g h : Env → SO}
theorem ss_frz (l : List Nat) (hg : SS X exc H0 S0 st g) : SS X exc H0 S0 st (fFz l g) := by
  intro os env σ H Ds f p
  obtain ⟨os', f', ev⟩ := f.frzs l
  exact hg os' _ σ H Ds f' (PostS.ev p ev)
theorem len_lt {env : Env} {i : Nat} (hl : N.length = env.length) (hi : N[i]? = some x) : i < env.length := by
  rw [← hl]; exact (List.getElem?_eq_some_iff.mp hi).1
theorem wS.inv {st : Stmt} {Ds : Ends} {σ : L2.St} {H : Hp} (h : σ.length = X.N.length → wS X st Ds σ H) : wS X st Ds σ H := fun pins s I => h I.len pins s I
theorem ss_expr (hs : swapsWith e none pos.line X.env = pure false) (he : SE X exc e fe) : SS X exc H0 S0 (.Expr e pos) (fExpr fe) := by
  intro os env σ H Ds f p
  exact wS.of (ps_expr w_pe hs) (he.seqS f p fun kd d v H1 _ m rs f1 p1 => p1 os σ H1 f1 (Ev.refl _ _))
theorem ss_doc {j : Nat} {x : Str} : SS X exc H0 S0 (.Expr (.Constant (.str x) j pos') pos) fPass := by
  intro os env σ H Ds f p
  exact wS.of ps_doc (p os σ H f (Ev.refl _ _))
theorem ss_set (c : CxF k N sc X) {i : Nat} (hi : N[i]? = some x) (hx : locB sc x = true) (hs : swapsWith e (some (.Name x pos')) pos.line X.env = pure false) (he : SE X exc e fe) : SS X exc H0 S0 (.Assign [.Name x pos'] e pos) (fSet i fe) := by
  intro os env σ H Ds f p
  refine wS.inv fun hl => ?_
  obtain ⟨h1, h2⟩ := c.ok.loc hx
  refine wS.of (ps_set (by rw [c.ok.nm]; exact c.ok.nd) (by rw [c.ok.nm]; exact hi) h1 w_pe hs h2) ?_
  refine he (So S0 os) env σ H _ f.sr ?_
  unfold fSet at p
  cases q : fe env with
  | no => rw [q] at p; exact p
  | ex z => rw [q] at p; obtain ⟨W, t, kk⟩ := p; exact ⟨W, t, fun H' m' => kk os σ H' (f.grow m') (Ev.grow m')⟩
  | ok r =>
    obtain ⟨kd, d⟩ := r
    rw [q] at p
    intro v H1 m rs
    have p2 : PostS X exc H0 S0 os H (match kd.nb with | true => SO.nx (env.set i (slOf (kd, d))) | false => .no) Ds := p
    cases nb : kd.nb with
    | false => rw [nb] at p2; exact p2.elim
    | true =>
      rw [nb] at p2
      have hi' : i < env.length := len_lt (by rw [f.sr.len, hl, c.ok.nm]) hi
      obtain ⟨os', f', ev, _⟩ := f.put m i hi' rs nb
      exact p2 os' _ H1 f' ev
theorem ss_asg {T : Tg} {tg : Expr} (hg : SG X tg T) (hs : swapsWithSole [tg] e pos.line X.env = pure false) (hw : swappedStores [tg] e X.env = pure none) (h1 : (assignEach [tg] X.env).map (·.2) = [assign tg X.env]) (he : SE X exc e fe) :
    SS X exc H0 S0 (.Assign [tg] e pos) (fAsg T fe) := by
  intro os env σ H Ds f p
  refine wS.of (ps_asg w_pe w_pg hs hw h1) (he.seqS f p fun kd d v H1 _ m rs f1 p1 => ?_)
  unfold asgD at p1
  dsimp only at p1
  cases nb : kd.nb with
  | false => rw [nb] at p1; exact p1.elim
  | true =>
    rw [nb] at p1
    cases q : setT T d env with
    | no => simp only [q] at p1; exact p1.elim
    | ex _ => simp only [q] at p1; exact p1.elim
    | ok env' =>
      simp only [q] at p1
      have rp : Rep X.K H1 (So S0 os) v d := rs.frz m f.sr.trk nb
      obtain ⟨a1, a2, a3⟩ := setT_facts T d env env' q
      refine hg _ env env' σ H1 v d _ f1.sr rp q fun σ' l k sr => ?_
      obtain ⟨f2, ev⟩ := f1.targets T.slots sr a2 (fun j hj d z => by obtain ⟨d2, h2⟩ := a3 j (.inr hj); rw [z] at h2; cases h2) k a1
      exact p1 _ σ' H1 f2 ev
theorem ss_par (c : CxF k N sc X) {i j : Nat} {kt k2 : Nat} (hi : N[i]? = some x) (hj : N[j]? = some y) (hij : i ≠ j) (hx : X.env.scope.names.lookup x = some .local) (hy : X.env.scope.names.lookup y = some .local)
    (hw : swappedStores [.Tuple [.Name x px, .Name y py] kt pt] (.Tuple [a, b] k2 pt2) X.env = pure (some [x, y])) (ha : SA X exc [a, b] fs) :
    SS X exc H0 S0 (.Assign [.Tuple [.Name x px, .Name y py] kt pt] (.Tuple [a, b] k2 pt2) pos) (fPar i j fs) := by
  intro os env σ H Ds f p
  refine wS.inv fun hl => ?_
  refine wS.of (ps_par c.ok.calm (by rw [c.ok.nm]; exact c.ok.nd) (by rw [c.ok.nm]; exact hi) (by rw [c.ok.nm]; exact hj) hij hx hy w_pa hw) ?_
  refine ha.seqS f p fun ds vs H1 _ m rs f1 p1 => ?_
  have hl' : N.length = env.length := by rw [f.sr.len, hl, c.ok.nm]
  unfold par2 at p1
  split at p1
  · rename_i p q _
    cases hb : p.1.nb && q.1.nb with
    | false => simp only [hb] at p1; exact p1.elim
    | true =>
      simp only [hb] at p1
      obtain ⟨n1, n2⟩ := Bool.and_eq_true_iff.mp hb
      cases rs with
      | cons m1 r1 m2 t =>
        cases t with
        | cons m3 r2 m4 t =>
          cases t
          obtain ⟨os1, g1, ev1, s1⟩ := f.put m1 i (len_lt hl' hi) r1 n1
          obtain ⟨os2, g2, ev2, _⟩ := g1.put m3 j (by simpa using len_lt hl' hj) (r2.lessS m3 (addS_mut r1 m1 f.sr.trk) s1 n2) n2
          exact ⟨_, _, rfl, p1 os2 _ _ (g2.grow m4) ((ev1.trans ev2).trans (Ev.grow m4))⟩
  · exact p1.elim
theorem ss_par3 (c : CxF k N sc X) {e2 : Expr} {i j l : Nat} {kt k2 : Nat} (hi : N[i]? = some x) (hj : N[j]? = some y) (hlz : N[l]? = some z) (hij : i ≠ j) (hil : i ≠ l) (hjl : j ≠ l) (hx : X.env.scope.names.lookup x = some .local) (hy : X.env.scope.names.lookup y = some .local) (hz : X.env.scope.names.lookup z = some .local)
    (hw : swappedStores [.Tuple [.Name x px, .Name y py, .Name z pz] kt pt] (.Tuple [a, b, e2] k2 pt2) X.env = pure (some [x, y, z])) (ha : SA X exc [a, b, e2] fs) :
    SS X exc H0 S0 (.Assign [.Tuple [.Name x px, .Name y py, .Name z pz] kt pt] (.Tuple [a, b, e2] k2 pt2) pos) (fPar3 i j l fs) := by
  intro os env σ H Ds f p
  refine wS.inv fun hl => ?_
  refine wS.of (ps_par3 c.ok.calm (by rw [c.ok.nm]; exact c.ok.nd) (by rw [c.ok.nm]; exact hi) (by rw [c.ok.nm]; exact hj) (by rw [c.ok.nm]; exact hlz) hij hil hjl hx hy hz w_pa hw) ?_
  refine ha.seqS f p fun ds vs H1 _ m rs f1 p1 => ?_
  have hl' : N.length = env.length := by rw [f.sr.len, hl, c.ok.nm]
  unfold par3 at p1
  split at p1
  · rename_i p q r _
    cases hb : p.1.nb && q.1.nb && r.1.nb with
    | false => simp only [hb] at p1; exact p1.elim
    | true =>
      simp only [hb] at p1
      obtain ⟨n12, n3⟩ := Bool.and_eq_true_iff.mp hb
      obtain ⟨n1, n2⟩ := Bool.and_eq_true_iff.mp n12
      cases rs with
      | cons m1 r1 m2 t =>
        cases t with
        | cons m3 r2 m4 t =>
          cases t with
          | cons m5 r3 m6 t =>
            cases t
            obtain ⟨os1, g1, ev1, s1⟩ := f.put m1 i (len_lt hl' hi) r1 n1
            have h1 := addS_mut r1 m1 f.sr.trk
            have r2' := r2.lessS m3 h1 s1 n2
            obtain ⟨os2, g2, ev2, s2⟩ := g1.put m3 j (by simpa using len_lt hl' hj) r2' n2
            obtain ⟨os3, g3, ev3, _⟩ := g2.put m5 l (by simpa using len_lt hl' hlz) (r3.lessS m5 (addS_mut r2 m3 h1) (fun b q => addS_mono s1 (s2 b q)) n3) n3
            exact ⟨_, _, _, rfl, p1 os3 _ _ (g3.grow m6) (((ev1.trans ev2).trans ev3).trans (Ev.grow m6))⟩
  · exact p1.elim
theorem ss_ret (he : SE X exc e fe) : SS X exc H0 S0 (.Return (some e) pos) (fRet fe) := by
  intro os env σ H Ds f p
  refine wS.of (ps_ret w_pe) (he.seqS f p fun kd d v H1 _ m rs f1 p1 => ?_)
  dsimp only at p1
  cases nb : kd.nb with
  | false => rw [nb] at p1; exact p1.elim
  | true =>
    rw [nb] at p1
    exact p1.2 v H1 f1.old ((rs.lessS m f.sr.trk (fun b q => .inl q) nb).wide f.old)
theorem ss_retN : SS X exc H0 S0 (.Return none pos) fNone := by
  intro os env σ H Ds f p
  exact wS.of ps_retN (p.2 _ H f.old (.old .non))
theorem ss_retV (c : CxF k N sc X) {i : Nat} (hN : N[i]? = some x) (hv : visB sc x = true) (hd : (x == ("__debug__" : Str)) = false) (hcd : (x == ("__classdict__" : Str)) = false) : SS X exc H0 S0 (.Return (some (.Name x pos')) pos) (fRetV i) := by
  intro os env σ H Ds f p
  have pe := pe_var (X := X) (pos := pos') (by rw [c.ok.nm]; exact hN) (c.ok.vis hv) hd hcd
  unfold fRetV at p
  cases q : env[i]? with
  | none => simp only [q] at p; exact p.elim
  | some sl =>
    have hi : i < env.length := (List.getElem?_eq_some_iff.mp q).1
    obtain ⟨o, ho⟩ : ∃ o, σ[i]? = some o := ⟨_, List.getElem?_eq_getElem (by rw [← f.sr.len]; exact hi)⟩
    have z := f.sr.slot i sl o q ho
    cases sl with
    | emp => simp only [q] at p; exact p.elim
    | val d =>
      simp only [q] at p
      cases z with
      | val rp => exact wS.of (ps_ret pe) ⟨_, ho, p.2 _ H f.old (.old (rp.lessS f.sr.trk fun b q => .inl q))⟩
    | own d =>
      simp only [q] at p
      obtain ⟨a, q1, q2, q3⟩ := f.own i d q
      rw [q2] at ho; cases ho
      exact wS.of (ps_ret pe) ⟨_, q2, p.2 _ H f.old (.new (f.new i a q1) (q3.lessS f.sr.trk fun b q => q.elim .inl fun z => .inr ⟨i, by rw [z]; exact q1⟩))⟩
theorem ss_pass : SS X exc H0 S0 (.Pass pos) fPass := by
  intro os env σ H Ds f p
  exact wS.of ps_pass (p os σ H f (Ev.refl _ _))
theorem ss_brk : SS X exc H0 S0 (.Break pos) fBrk := by
  intro os env σ H Ds f p
  exact wS.of ps_break (p os σ H f (Ev.refl _ _))
theorem ss_cnt : SS X exc H0 S0 (.Continue pos) fCnt := by
  intro os env σ H Ds f p
  exact wS.of ps_continue (p os σ H f (Ev.refl _ _))
theorem ss_if {ga gb : Env → SO} (ht : ST X exc e ft) (ha : SSs X exc H0 S0 sts ga) (hb : SSs X exc H0 S0 sts' gb) : SS X exc H0 S0 (.If e sts sts' pos) (fIfS ft ga gb) := by
  intro os env σ H Ds f p
  refine wS.of (ps_if w_pt w_pss w_pss) (ht.seqS f p fun bb H1 _ m f1 p1 => ?_)
  cases bb with
  | true => rw [if_pos rfl]; exact ha os env σ H1 Ds f1 p1
  | false => rw [if_neg (by simp)]; exact hb os env σ H1 Ds f1 p1
theorem PostS.seq {os : List (Option Addr)} {H : Hp} {Ds : Ends} {o : SO} {k : Env → SO} {T : L2.St → Hp → Prop} (p : PostS X exc H0 S0 os H (sseq o k) Ds) (hk : ∀ env' os' σ' H', FR X.K H0 S0 os' env' σ' H' → Ev os H os' H' → PostS X exc H0 S0 os' H' (k env') Ds → T σ' H') :
    PostS X exc H0 S0 os H o { Ds with nx := T } := by
  cases o with
  | nx env' => exact fun os' σ' H' f ev => hk env' os' σ' H' f ev (PostS.ev (r := k env') p ev)
  | bk env' => exact p
  | ct env' => exact p
  | rt kd d => exact p
  | ex c env' => exact p
  | no => exact p
theorem sss_nil : SSs X exc H0 S0 [] fPass := by
  intro os env σ H Ds f p
  exact wSs.of pss_nil (p os σ H f (Ev.refl _ _))
theorem sss_one (hg : SS X exc H0 S0 st g) : SSs X exc H0 S0 [st] g := by
  intro os env σ H Ds f p
  exact wSs.of (pss_one w_ps) (hg os env σ H Ds f p)
theorem sss_cons (hg : SS X exc H0 S0 st g) (hh : SSs X exc H0 S0 sts h) : SSs X exc H0 S0 (st :: sts) (fSeq g h) := by
  intro os env σ H Ds f p
  exact wSs.of (pss_cons w_ps w_pss) (hg os env σ H _ f (PostS.seq p fun env' os' σ' H' f' ev p' => hh os' env' σ' H' Ds f' p'))
end
end Rf

namespace Rf
open PySem PySem.Spec L2
open PyProof.Rows hiding St

/-! ### the block of a comprehension as a context -/
def blkB (N : List Str) (sc scope : Scope) (own : List (Str × Nat)) : Bool :=
  decide (scope.kind = .function) && (scope.names.all fun y => decide (scope.names.lookup y.1 = some y.2)) && (own.all fun p => decide (N[p.2]? = some p.1)) &&
  (scope.names.all fun y => decide (y.2 ≠ .free) || decide (sc.names.lookup y.1 = some .cell) || decide (sc.names.lookup y.1 = some .free)) &&
  (scope.names.all fun y => !(decide (y.2 = .local) || decide (y.2 = .cell)) || decide (y.1 ∈ own.map (·.1)) || decide (y.1 ∉ N))
section
variable {k : Nat} {N : List Str} {sc scope : Scope} {X : Cx} {own : List (Str × Nat)}
theorem CxOk.blkOk (c : CxOk k N sc X) (h : blkB N sc scope own = true) : BlkOk X.N X.env.scope scope own := by
  unfold blkB at h
  simp only [Bool.and_eq_true, decide_eq_true_eq, List.all_eq_true, Bool.or_eq_true, Bool.not_eq_true', Bool.or_eq_false_iff, decide_eq_false_iff_not] at h
  obtain ⟨⟨⟨⟨h1, h2⟩, h3⟩, h4⟩, h5⟩ := h
  rw [c.nm]
  refine ⟨h1, h2, h3, fun y hy e => ?_, fun y hy e => ?_⟩
  · rcases h4 y hy with (z | z) | z
    · exact absurd e z
    · rcases c.sco _ _ z with q | ⟨q, _⟩
      · exact .inl q
      · cases q
    · rcases c.sco _ _ z with q | ⟨_, q⟩
      · exact .inr q
      · exact .inl q
  · rcases h5 y hy with (z | z) | z
    · rcases e with e | e
      · exact absurd e z.1
      · exact absurd e z.2
    · exact .inl z
    · exact .inr z
theorem lookup_free {sc : Scope} : ∀ {names : List (Str × NameKind)} {x : Str}, names.lookup x = some .free →
    (names.map fun (n, k) => if (k == NameKind.free && sc.kind == .function && sc.names.lookup n == some .cell) then (n, NameKind.cell) else (n, k)).lookup x = some .free ∨
    (names.map fun (n, k) => if (k == NameKind.free && sc.kind == .function && sc.names.lookup n == some .cell) then (n, NameKind.cell) else (n, k)).lookup x = some .cell
  | [], _, h => by simp at h
  | (n, k₀) :: r, x, h => by
    have ih := @lookup_free sc r x
    show List.lookup x ((if (k₀ == NameKind.free && sc.kind == .function && sc.names.lookup n == some .cell) = true then (n, NameKind.cell) else (n, k₀)) :: (r.map _)) = _ ∨ List.lookup x ((if (k₀ == NameKind.free && sc.kind == .function && sc.names.lookup n == some .cell) = true then (n, NameKind.cell) else (n, k₀)) :: (r.map _)) = _
    cases hx : x == n with
    | true =>
      simp only [List.lookup_cons, hx] at h
      cases h
      split
      · exact .inr (by simp only [List.lookup_cons, hx])
      · exact .inl (by simp only [List.lookup_cons, hx])
    | false =>
      simp only [List.lookup_cons, hx] at h
      split
      · simp only [List.lookup_cons, hx]; exact ih h
      · simp only [List.lookup_cons, hx]; exact ih h
theorem CxOk.blk (c : CxOk k N sc X) (hk : scope.kind = .function) (s : Shared) (H : Hp) (C : Addr) (cl : List (Str × Addr)) (fp : List Addr) : CxOk k N scope (X.blk s H scope (compEnvC scope cl C X.env) fp) where
  room := c.room
  calm := c.calm
  nd := c.nd
  nm := c.nm
  kind := hk
  sco := fun x kd e => by
    by_cases hf : kd = .free
    · subst hf
      rcases lookup_free (sc := X.env.scope) e with q | q
      · exact .inl q
      · exact .inr ⟨rfl, q⟩
    · exact .inl (lookup_relS_keep (sc := X.env.scope) hf e)
  fnc := fun x e => by
    show (scope.names.lookup x == some .cell) = true
    rw [e]; rfl
end

/-! ### loops -/
def fWhile (ft : Env → R Bool) (gb : Env → SO) : Nat → Env → SO
  | 0, _ => .no
  | n + 1, env => sbindT env (ft env) fun b => match b with
    | false => .nx env
    | true => match gb env with
      | .nx env' => fWhile ft gb n env'
      | .ct env' => fWhile ft gb n env'
      | .bk env' => .nx env'
      | o => o
def forStep (o : SO) (k : Env → SO) : SO := match o with
  | .nx env' => k env'
  | .ct env' => k env'
  | .bk env' => .nx env'
  | o => o
def fForL (T : Tg) (gb : Env → SO) : List D → Env → SO
  | [], env => .nx env
  | d :: ds, env => match setT T d env with
    | .ok env' => forStep (gb env') (fForL T gb ds)
    | _ => .no
def fFor (T : Tg) (src : Env → R (Kd × List D)) (gb : Env → SO) (env : Env) : SO := match src env with
  | .ok (kd, items) => match kd.nb with
    | true => fForL T gb items env
    | false => .no
  | .ex c => .ex c env
  | .no => .no
section
variable {k : Nat} {N : List Str} {sc : Scope} {X : Cx} {exc : Nat → Addr} {H0 : Hp} {S0 : Addr → Prop} {pos : Pos} {e tg iter : Expr} {ft : Env → R Bool} {sts : List Stmt} {gb : Env → SO} {T : Tg} {src : Env → R (Kd × List D)}
theorem PostS.ev0 {os os1 : List (Option Addr)} {H H1 : Hp} {r : SO} {D : Ends} (p : PostS X exc H0 S0 os H r D) (e : Ev os H os1 H1) : PostS X exc H0 S0 os1 H1 r D := PostS.ev p e
theorem ss_while (c : CxF k N sc X) (fu : Nat) (ht : ST X exc e ft) (hb : SSs X exc H0 S0 sts gb) : SS X exc H0 S0 (.While e sts [] pos) (fWhile ft gb fu) := by
  intro os env σ H Ds f p
  refine wS.of (ps_while c.pass w_pt w_pss) ⟨fun m σ H => ∃ os env, FR X.K H0 S0 os env σ H ∧ PostS X exc H0 S0 os H (fWhile ft gb m env) Ds, ⟨fu, os, env, f, p⟩, ?_⟩
  rintro m σ1 H1 ⟨os1, env1, f1, p1⟩
  cases m with
  | zero => exact p1.elim
  | succ m =>
    refine ht.seqS f1 p1 fun b H2 _ mm f2 p2 => ?_
    cases b with
    | false => rw [if_neg (by simp)]; exact p2 os1 σ1 H2 f2 (Ev.refl _ _)
    | true =>
      rw [if_pos rfl]
      refine ⟨fun σ H => ∃ os env, FR X.K H0 S0 os env σ H ∧ PostS X exc H0 S0 os H (fWhile ft gb m env) Ds, fun σ' H' h => ⟨m, Nat.lt_succ_self m, h⟩, hb os1 env1 σ1 H2 _ f2 ?_⟩
      dsimp only at p2
      cases q : gb env1 with
      | nx env' => rw [q] at p2; exact fun os' σ' H' f' ev => ⟨os', env', f', PostS.ev (r := fWhile ft gb m env') p2 ev⟩
      | ct env' => rw [q] at p2; exact fun os' σ' H' f' ev => ⟨os', env', f', PostS.ev (r := fWhile ft gb m env') p2 ev⟩
      | bk env' => rw [q] at p2; exact p2
      | rt kd d => rw [q] at p2; exact p2
      | ex cc env' => rw [q] at p2; exact p2
      | no => rw [q] at p2; exact p2
theorem ss_for (c : CxF k N sc X) (hp : plainE iter = true) (hs : SI X exc tg iter src) (hg : SG X tg T) (hb : SSs X exc H0 S0 sts gb) : SS X exc H0 S0 (.For tg iter sts [] pos) (fFor T src gb) := by
  intro os env σ H Ds f p
  refine wS.of (ps_for c.pass c.ok.calm w_pi w_pg w_pss (fun x => plain_set hp x)) ?_
  refine hs (So S0 os) env σ H _ f.sr ?_
  unfold fFor at p
  cases q : src env with
  | no => rw [q] at p; exact p.elim
  | ex z => rw [q] at p; obtain ⟨W, t, kk⟩ := p; exact ⟨W, t, fun H' m' => kk os σ H' (f.grow m') (Ev.grow m')⟩
  | ok z =>
    obtain ⟨kd, items⟩ := z
    rw [q] at p
    intro J H1 m ⟨Y, G, wk, hG, hY⟩
    cases nb : kd.nb with
    | false => simp only [nb] at p; exact p.elim
    | true =>
      simp only [nb] at p
      have kp : ∀ {os' : List (Option Addr)} {H' : Hp}, Ev os H1 os' H' → Kp kd (So S0 os) H1 H' := fun {os' H'} ev => by
        have z : ∀ b o, H1 b = some o → ¬ So S0 os b → H' b = some o := fun b o e n => ev.1 b o e fun q => n (.inr q)
        cases kd with
        | bor => cases nb
        | old => exact z
        | new => exact z
      refine for_it wk (fun i σ H => ∃ os' env', FR X.K H0 S0 os' env' σ H ∧ Ev os H1 os' H ∧ PostS X exc H0 S0 os' H (fForL T gb (items.drop i) env') Ds) ⟨os, env, f.grow m, Ev.refl _ _, by rw [List.drop_zero]; exact PostS.ev p (Ev.grow m)⟩ (fun i σ H hi ⟨os', env', f', ev, _⟩ => hG H (kp ev)) ?_ ?_
      · intro i x σ2 H2 H2' hi ⟨os', env', f', ev, p'⟩ y
        obtain ⟨ma, d, hd, rd⟩ := hY i H2 x H2' (So S0 os') (kp ev) (fun b z => by
          rcases z with z | z
          · exact .inl (.inl z)
          · exact (ev.2 b z).imp .inr id) f'.sr.trk hi y
        rw [drop_of hd] at p'
        unfold fForL at p'
        cases q : setT T d env' with
        | no => simp only [q] at p'; exact p'.elim
        | ex _ => simp only [q] at p'; exact p'.elim
        | ok env2 =>
          simp only [q] at p'
          obtain ⟨a1, a2, a3⟩ := setT_facts T d env' env2 q
          have f2 := f'.grow ma
          refine hg _ env' env2 σ2 H2' x d _ f2.sr rd q fun σ3 l kk sr => ?_
          obtain ⟨f3, ev3⟩ := f2.targets T.slots sr a2 (fun j hj d z => by obtain ⟨d2, h2⟩ := a3 j (.inr hj); rw [z] at h2; cases h2) kk a1
          have evA : Ev os H1 (clearL os' T.slots) H2' := (ev.trans (Ev.grow ma)).trans ev3
          refine hb _ env2 σ3 H2' _ f3 ?_
          have p3 := PostS.ev (PostS.ev p' (Ev.grow ma)) ev3
          unfold forStep at p3
          cases qq : gb env2 with
          | nx env4 => rw [qq] at p3; exact fun os4 σ4 H4 f4 ev4 => ⟨os4, env4, f4, evA.trans ev4, PostS.ev (r := fForL T gb (items.drop (i + 1)) env4) p3 ev4⟩
          | ct env4 => rw [qq] at p3; exact fun os4 σ4 H4 f4 ev4 => ⟨os4, env4, f4, evA.trans ev4, PostS.ev (r := fForL T gb (items.drop (i + 1)) env4) p3 ev4⟩
          | bk env4 => rw [qq] at p3; exact p3
          | rt kd d => rw [qq] at p3; exact p3
          | ex cc env4 => rw [qq] at p3; exact p3
          | no => rw [qq] at p3; exact p3
      · intro σ2 H2 ⟨os', env', f', ev, p'⟩
        rw [List.drop_length] at p'
        exact p' os' σ2 H2 f' (Ev.refl _ _)
end

/-! ### changes in place -/
def appD (i : Nat) (ds : List D) (env : Env) (p : Kd × D) : SO := match p.1.nb with
  | true => match Nat.ble 16777216 ds.length with
    | false => .nx (env.set i (.own (.list (ds ++ [p.2]))))
    | true => .no
  | false => .no
def fApp (i : Nat) (fe : Env → RV) (env : Env) : SO := match env[i]? with
  | some (.own (.list ds)) => sbind env (fe env) (appD i ds env)
  | _ => .no
def putLD (i : Nat) (ds : List D) (env : Env) (w x : D) : SO := match x with
  | .int n => match ixN ds.length n with
    | some j => .nx (env.set i (.own (.list (ds.set j w))))
    | none => .no
  | _ => .no
def putDD (i : Nat) (kvs : List (D × D)) (env : Env) (w x : D) : SO := match isKD x && !Nat.ble 16777216 kvs.length with
  | true => .nx (env.set i (.own (.dict (dputD kvs x w))))
  | false => .no
def putE (i : Nat) (env : Env) (w x : D) : SO := match env[i]? with
  | some (.own (.list ds)) => putLD i ds env w x
  | some (.own (.dict kvs)) => putDD i kvs env w x
  | _ => .no
def hasOwn (i : Nat) (env : Env) : Bool := match env[i]? with
  | some (.own _) => true
  | _ => false
def fPut (i : Nat) (fe fi : Env → RV) (env : Env) : SO := match hasOwn i env with
  | true => sbind env (fe env) fun p => match p.1.nb with
    | true => sbind env (fi env) fun x => putE i env p.2 x.2
    | false => .no
  | false => .no
def augD : Bo → D → D → RV
  | .add, .int i, .int j => okv (.int (i + j))
  | .sub, .int i, .int j => okv (.int (i - j))
  | .mul, .int i, .int j => chk (decide (-(2 ^ 64) < i) && decide (i < 2 ^ 64)) (okv (.int (i * j)))
  | .fdiv, .int i, .int j => chk (decide (0 < j) && decide (j < 1073741824)) (okv (.int (i / j)))
  | .mod, .int i, .int j => chk (decide (0 < j)) (okv (.int (i % j)))
  | _, _, _ => .no
def fAug (o : Bo) (i : Nat) (fe : Env → RV) (env : Env) : SO := match env[i]? with
  | some (.val d) => sbind env (fe env) fun p => match augD o d p.2 with
    | .ok q => .nx (env.set i (.val q.2))
    | _ => .no
  | _ => .no
section
variable {k : Nat} {N : List Str} {sc : Scope} {X : Cx} {exc : Nat → Addr} {H0 : Hp} {S0 : Addr → Prop} {pos p1 p2 cpos apos : Pos} {e ix : Expr} {fe fi : Env → RV} {x : Str}
theorem FR.ownL {K : PySem.W.Frag} {os : List (Option Addr)} {env : Env} {σ : L2.St} {H : Hp} {i : Nat} {ds : List D} (f : FR K H0 S0 os env σ H) (q : env[i]? = some (Sl.own (.list ds))) :
    ∃ a xs, os[i]? = some (some a) ∧ σ[i]? = some (some (V.ref a)) ∧ H a = some (.lst xs) ∧ RepAll K H (So S0 os) xs ds := by
  obtain ⟨a, q1, q2, q3⟩ := f.own i _ q
  cases q3 with
  | lst e r => exact ⟨a, _, q1, q2, e, r⟩
theorem FR.chL {K : PySem.W.Frag} {os : List (Option Addr)} {env : Env} {σ : L2.St} {H : Hp} {i : Nat} {ds ds' : List D} {a : Addr} {xs' : List V} (f : FR K H0 S0 os env σ H) (q : env[i]? = some (Sl.own (.list ds))) (ha : os[i]? = some (some a))
    (r : RepAll K H (So S0 os) xs' ds') : FR K H0 S0 os (env.set i (.own (.list ds'))) σ (upd H a (.lst xs')) ∧ Ev os H os (upd H a (.lst xs')) :=
  f.change q ha trivial fun kp => .lst upd_same (r.mono kp f.sr.trk fun b z => .inl z)
theorem ss_app (c : CxF k N sc X) {i : Nat} (hN : N[i]? = some x) (hv : visB sc x = true) (hd : (x == ("__debug__" : Str)) = false) (hcd : (x == ("__classdict__" : Str)) = false) (hb : attributeBase (.Name x p1) "append" X.env (eval (.Name x p1) X.env) = eval (.Name x p1) X.env)
    (hl : (apos.endLine == cpos.line) = true) (hp : plainE e = true) (he : SE X exc e fe) :
    SS X exc H0 S0 (.Expr (.Call (.Attribute (.Name x p1) "append" apos) [e] [] cpos) pos) (fApp i fe) := by
  intro os env σ H Ds f p
  have pe := pe_var (X := X) (pos := p1) (by rw [c.ok.nm]; exact hN) (c.ok.vis hv) hd hcd
  have star1 : starEach [e] X.env = [(false, eval e X.env)] := star_cons hp
  refine wS.of (ps_expr (pe_bm PySem.F.plainAttrs_list PySem.F.slot_list_append PySem.F.type_list_append mt_append pe (pa_cons w_pe pa_nil star1) hb (by rw [star1]; rfl) hl star1 rfl) rfl) ?_
  unfold fApp at p
  split at p
  · rename_i ds q
    obtain ⟨a, xs, q1, q2, q3, q4⟩ := f.ownL q
    refine ⟨_, q2, .inl ⟨rfl, xs, .inl (.inl q3)⟩, ?_⟩
    refine he.seqS f p fun kd d v H1 _ m rs f1 p1 => ?_
    unfold appD at p1
    dsimp only at p1
    cases nb : kd.nb with
    | false => rw [nb] at p1; exact p1.elim
    | true =>
      rw [nb] at p1
      cases hb : Nat.ble 16777216 ds.length with
      | true => simp only [hb] at p1; exact p1.elim
      | false =>
        simp only [hb] at p1
        have hlt : ds.length < 16777216 := by
          rcases Nat.lt_or_ge ds.length 16777216 with z | z
          · exact z
          · rw [Nat.ble_eq_true_of_le z] at hb; cases hb
        have e1 := m _ _ q3
        have r1 := (q4.grow m f.sr.trk).append (.cons (rs.frz m f.sr.trk nb) .nil)
        obtain ⟨f2, ev⟩ := f1.chL q q1 r1
        exact ⟨a, xs, v, rfl, rfl, e1, by rw [q4.length, sizeLine_eq]; exact hlt, p1 os σ _ f2 ev⟩
  · exact p.elim
theorem pset_or {t t' : TSet} (h : PSet X t) (h' : PSet X t') : PSet X (fun o i v H Q => t o i v H Q ∨ t' o i v H Q) := fun pins s σ H o i v ov iv u Q I r1 r2 r3 q => q.elim (h pins s σ H o i v ov iv u Q I r1 r2 r3) (h' pins s σ H o i v ov iv u Q I r1 r2 r3)
theorem ss_put (c : CxF k N sc X) {i : Nat} (hN : N[i]? = some x) (hv : visB sc x = true) (hd : (x == ("__debug__" : Str)) = false) (hcd : (x == ("__classdict__" : Str)) = false) (hs : swapsWithSole [.Subscript (.Name x p1) ix p2] e pos.line X.env = pure false)
    (ha : ∀ v, assign (.Subscript (.Name x p1) ix p2) X.env v = (do
      let ov ← holding [v] (eval (.Name x p1) X.env)
      let iv ← holding [v, ov] (eval ix X.env)
      standAt p2
      holding [v, ov, iv] (setItem ov iv v)
      release [v, ov, iv] [])) (he : SE X exc e fe) (hi : SE X exc ix fi) :
    SS X exc H0 S0 (.Assign [.Subscript (.Name x p1) ix p2] e pos) (fPut i fe fi) := by
  intro os env σ H Ds f p
  have pe := pe_var (X := X) (pos := p1) (by rw [c.ok.nm]; exact hN) (c.ok.vis hv) hd hcd
  have hu : X.A.units + 1 < cLine := by have := c.ok.room.un; omega
  refine wS.of (ps_asg w_pe (pg_sub pe w_pe (pset_or set_list (set_dict hu)) ha) hs rfl rfl) ?_
  unfold fPut at p
  cases ho : hasOwn i env with
  | false => rw [ho] at p; exact p.elim
  | true =>
    rw [ho] at p
    obtain ⟨d0, q⟩ : ∃ d0, env[i]? = some (Sl.own d0) := by
      unfold hasOwn at ho
      split at ho
      · exact ⟨_, by assumption⟩
      · cases ho
    obtain ⟨a, q1, q2, q3⟩ := f.own i d0 q
    refine he.seqS f p fun kd d v H1 _ m rs f1 p1 => ?_
    dsimp only at p1
    cases nb : kd.nb with
    | false => rw [nb] at p1; exact p1.elim
    | true =>
      rw [nb] at p1
      refine ⟨_, q2, hi.seqS f1 p1 fun kd2 d2 v2 H2 _ m2 rs2 f2 p2 => ?_⟩
      have rv : Rep X.K H2 (So S0 os) v d := (rs.frz m f.sr.trk nb).grow m2 f1.sr.trk
      have bi := rs2.brep m2 f1.sr.trk
      unfold putE at p2
      rw [q] at p2
      cases q3 with
      | lst e1 r1 =>
        dsimp only at p2
        unfold putLD at p2
        split at p2
        · obtain rfl := bi.int
          split at p2
          · rename_i j hj
            obtain ⟨f3, ev⟩ := f2.chL q q1 ((r1.grow (m.trans m2) f.sr.trk).set j rv)
            exact .inl ⟨a, _, _, j, rfl, rfl, m2 _ _ (m _ _ e1), by rw [r1.length]; exact hj, p2 os σ _ f3 ev⟩
          · exact p2.elim
        · exact p2.elim
      | dK e1 r1 =>
        dsimp only at p2
        unfold putDD at p2
        cases hb : isKD d2 && !Nat.ble 16777216 _ with
        | false => rw [hb] at p2; exact p2.elim
        | true =>
          rw [hb] at p2
          obtain ⟨h1, h2⟩ := Bool.and_eq_true_iff.mp hb
          obtain ⟨kk, rfl⟩ := isKD_key h1
          obtain rfl := bi.key
          have e2 := m2 _ _ (m _ _ e1)
          have hlt := Nat.lt_of_not_le fun z => by
            rw [Nat.ble_eq_true_of_le z] at h2; cases h2
          have r2 : RepK X.K H2 (So S0 os) _ _ := r1.mono (fun b u e _ => (m.trans m2) b u e) f.sr.trk fun b z => .inl z
          obtain ⟨f3, ev⟩ := f2.change (d' := .dict (dputD _ (kD kk) d)) (o := .dK (putK _ kk v)) q q1 trivial fun kp => .dK upd_same ((r2.put kk rv).mono kp f2.sr.trk fun b z => .inl z)
          exact .inr ⟨a, _, rfl, .inl ⟨_, kk, e2, rfl, by rw [r1.length, sizeLine_eq]; exact hlt, rfl⟩, p2 os σ _ f3 ev⟩
theorem iop_augD (o : Bo) : OpR X (inplaceOp o.op) (r2 X.K (augD o)) := by
  intro pins s σ H x y v u Q I rx ry ⟨S, d, e, t, rd, re, p⟩
  unfold augD at p
  split at p
  · obtain rfl := rd.int
    obtain rfl := re.int
    exact iop_add pins s σ H _ _ v u Q I rx ry ⟨_, _, rfl, rfl, p.val (.int _)⟩
  · obtain rfl := rd.int
    obtain rfl := re.int
    exact iop_sub pins s σ H _ _ v u Q I rx ry ⟨_, _, rfl, rfl, p.val (.int _)⟩
  · obtain rfl := rd.int
    obtain rfl := re.int
    obtain ⟨h, p⟩ := chk_ok p
    simp only [Bool.and_eq_true, decide_eq_true_eq] at h
    exact iop_mul pins s σ H _ _ v u Q I rx ry ⟨_, _, rfl, rfl, .inl h, p.val (.int _)⟩
  · obtain rfl := rd.int
    obtain rfl := re.int
    obtain ⟨h, p⟩ := chk_ok p
    simp only [Bool.and_eq_true, decide_eq_true_eq] at h
    exact iop_fdiv pins s σ H _ _ v u Q I rx ry ⟨_, _, rfl, rfl, h, p.val (.int _)⟩
  · obtain rfl := rd.int
    obtain rfl := re.int
    obtain ⟨h, p⟩ := chk_ok p
    exact iop_mod pins s σ H _ _ v u Q I rx ry ⟨_, _, rfl, rfl, of_decide_eq_true h, p.val (.int _)⟩
  · exact p.elim
theorem ss_aug (c : CxF k N sc X) (o : Bo) {i : Nat} (hN : N[i]? = some x) (hx : locB sc x = true) (he : SE X exc e fe) : SS X exc H0 S0 (.AugAssign (.Name x p1) o.op e pos) (fAug o i fe) := by
  intro os env σ H Ds f p
  obtain ⟨h1, h2⟩ := c.ok.loc hx
  refine wS.of (ps_aug (by rw [c.ok.nm]; exact c.ok.nd) (by rw [c.ok.nm]; exact hN) h1 w_pe (iop_augD o) h2) ?_
  unfold fAug at p
  split at p
  · rename_i d q
    have hi : i < env.length := (List.getElem?_eq_some_iff.mp q).1
    obtain ⟨ov, ho⟩ : ∃ o, σ[i]? = some o := ⟨_, List.getElem?_eq_getElem (by rw [← f.sr.len]; exact hi)⟩
    have z := f.sr.slot i _ ov q ho
    cases z with
    | val rp =>
      refine ⟨_, ho, he.seqS f p fun kd d2 v H1 _ m rs f1 p1 => ⟨So S0 os, d, d2, f1.sr.trk, .rep (rp.grow m f.sr.trk), rs.brep m f.sr.trk, ?_⟩⟩
      cases qq : augD o d d2 with
      | no => simp only [qq] at p1; exact p1.elim
      | ex _ => simp only [qq] at p1; exact p1.elim
      | ok r =>
        simp only [qq] at p1
        intro w H2 m2 rs2
        have kn : r.1 = .old := by
          unfold augD at qq
          split at qq
          · cases qq; rfl
          · cases qq; rfl
          · unfold chk at qq; split at qq <;> cases qq; rfl
          · unfold chk at qq; split at qq <;> cases qq; rfl
          · unfold chk at qq; split at qq <;> cases qq; rfl
          · cases qq
        obtain ⟨rk, rd⟩ := r
        dsimp only at kn
        subst kn
        cases rs2 with
        | old r2 => exact p1 _ _ H2 ((f1.grow m2).putVal i r2) ((Ev.grow m2).trans (Ev.clear i))
  · exact p.elim
end

/-! ### exceptions -/
structure ExcAt (X : Cx) (exc : Nat → Addr) (c : Nat) (x : Str) : Prop where
  inn : PySem.W.excIn X.K (exc c) [.type "ValueError", .type "Exception", .type "BaseException", .type "object"] "ValueError.__new__" = true
  glo : X.mg x = some (.ref (exc c))
  kp : PySem.W.keepIn X.K (.ref (exc c)) = true
  rs : Raises X (.ref (exc c))
def fRaise (c : Nat) (env : Env) : SO := .ex c env
section
variable {k : Nat} {N : List Str} {sc : Scope} {X : Cx} {exc : Nat → Addr} {H0 : Hp} {S0 : Addr → Prop} {pos p1 p2 p3 : Pos} {x m : Str} {j : Nat}
theorem ss_raise (c : CxF k N sc X) {n : Nat} (h : ExcAt X exc n x) (hg : glB sc x = true) (hd : (x == ("__debug__" : Str)) = false) : SS X exc H0 S0 (.Raise (some (.Call (.Name x p1) [.Constant (.str m) j p2] [] p3)) none pos) (fRaise n) := by
  intro os env σ H Ds f p
  obtain ⟨W, tk, hW⟩ := id p
  exact wS.of (ps_raise c.ok.calm tk (pmk_own PySem.F.excBase_ValueError h.inn h.glo h.kp h.rs (c.ok.gl hg) hd)) (hW os σ H f (Ev.refl _ _))
end
end Rf

namespace Rf
open PySem PySem.Spec L2
open PyProof.Rows hiding St

/-! ### try with several clauses, named or not -/
abbrev TSu := Addr → Value → Option Addr → TS
/-- a clause: its class, the slot of its name, its suite -/
structure Cl where
  cls : Value
  slot : Option Nat
  ts : TSu
def Cl.wish (q : Cl) (D : Ends) (a : Addr) (c : Value) (d : Option Addr) (σ : L2.St) (H : Hp) : Prop := match q.slot with
  | none => q.ts a c d D σ H
  | some i => q.ts a c d { nx := fun σ' H' => D.nx (σ'.set i none) H', rt := D.rt, bk := fun σ' H' => D.bk (σ'.set i none) H', ct := fun σ' H' => D.ct (σ'.set i none) H' } (σ.set i (some (.ref a))) H
def wCls (K : PySem.W.Frag) (Wo : WX) (D : Ends) : List Cl → WX
  | [] => Wo
  | q :: r => fun c d σ H => ∃ b, PySem.W.exmOne K c q.cls = some b ∧ (b = true → ∀ a, H a = none → q.wish D a c d σ H) ∧ (b = false → wCls K Wo D r c d σ H)
def SuOk (X : Cx) (suite : List Stmt) (ts : TSu) : Prop := ∀ (a : Addr) (oe : Obj) (c : Value) (d : Option Addr) (pn : List (Addr × Obj)), Zc c d oe → (∃ vs, oe.data = .fields vs) → PSs (X.suite a ((a, oe) :: pn)) suite (ts a c d)
inductive ClsOk (X : Cx) : List ExceptHandler → List Cl → Prop
  | nil : ClsOk X [] []
  | bare {x : Str} {v : Value} {ts : TSu} {b : Stmt} {bs : List Stmt} {p1 p2 : Pos} {hs : List ExceptHandler} {l : List Cl} (hn : Names X x v) (hsu : SuOk X (b :: bs) ts) (r : ClsOk X hs l) : ClsOk X (.ExceptHandler (some (.Name x p1)) none (b :: bs) p2 :: hs) (⟨v, none, ts⟩ :: l)
  | named {x n : Str} {i : Nat} {v : Value} {ts : TSu} {b : Stmt} {bs : List Stmt} {p1 p2 : Pos} {hs : List ExceptHandler} {l : List Cl} (hn : Names X x v) (hi : X.N[i]? = some n) (hl : X.env.kindOf n = some .local) (hsu : SuOk X (b :: bs) ts) (r : ClsOk X hs l) :
      ClsOk X (.ExceptHandler (some (.Name x p1)) (some n) (b :: bs) p2 :: hs) (⟨v, some i, ts⟩ :: l)
section
variable {X : Cx} {body : List Stmt} {h₁ : ExceptHandler} {rest : List ExceptHandler} {l : List Cl} {pos : Pos} {tb : WX → TS} {Wo : WX}
theorem ps_tryC (stk : X.stack = X.env :: X.outer) (frm : X.env.frame = some X.env.locals) (nd : X.N.Nodup) (tk : Takes X Wo)
    (bodyOk : ∀ (W : WX) (pn : List (Addr × Obj)) (xe : Value → Shared → Prop), Takes (X.tr pn xe) W → PassesOwn (model X.prog X.w) X.A X.env xe → PSs (X.tr pn xe) body (tb W))
    (cls : ClsOk X (h₁ :: rest) l) : PS X (.Try body (h₁ :: rest) [] [] pos) (fun D σ H => tb (wCls X.K Wo D l) D σ H) := by
  refine ⟨fun pins s σ H D I0 h0 => ?_⟩
  have okX := I0.ok
  have frs0 : X.A.frames = some (X.env :: X.outer) := okX.frames.trans (congrArg some stk)
  refine wpAny_Try_except ?_
  let land : Value → Shared → Prop := fun u t1 => wpAny (model X.prog X.w) X.A (noteFrame u X.env) (fun _ t2 => wpAny (model X.prog X.w) X.A (setFlight u none) (fun _ t3 => wpAny (model X.prog X.w) X.A (handleBy u X.env (h₁ :: rest)) (SP X pins D) X.xe t3) X.xe t2) X.xe t1
  have catches : Takes (X.tr (X.pn ++ pins) land) (wCls X.K Wo D l) := by
    rintro u t ⟨a, B, sI, pins1, σ1, H1, c, d, rfl, Jt, gnd, upw, sky, fresh, osq, bare, wish⟩
    have J : Inv X pins σ1 H1 sI := Jt.ofTry okX
    have sky1 : Sky B (X.env :: X.outer) a (Zc c d) X.env.locals t.heap := stk ▸ sky
    refine Sky.land Zc.steady frs0 frm sky1 fun g3 fly3 up3 => ?_
    have J3 : Inv X pins σ1 H1 { t with heap := g3 } := J.landed gnd fly3.1 (upw.trans up3) osq bare
    obtain ⟨o3, w3, get3, z3, data3⟩ := fly3.there
    have outFr : a ∉ frs (X.env :: X.outer) := fun hm => by
      obtain ⟨_, o', e', nf⟩ := fly3.2.2.1.mem hm
      rw [get3] at e'
      cases e'
      exact nf w3 data3
    have ne1 : a ≠ X.env.locals := fun z => outFr (List.mem_filterMap.mpr ⟨X.env, List.mem_cons_self, by rw [z]; exact frm⟩)
    have ne2 : a ∉ X.fs := fun hm => by
      obtain ⟨v, hv, q⟩ := List.mem_filterMap.mp hm
      exact outFr (List.mem_filterMap.mpr ⟨v, List.mem_cons_of_mem _ hv, q⟩)
    have S3 := J3.suite get3 data3 fresh ne1 ne2
    have typ : PySem.W.Looks (model X.prog X.w) g3 (typeOf (.ref a)) c := fun A Q E s k q => wpAny_typeOf_ref (k _ _ get3) (by rw [z3.1]; exact q)
    have look : ∀ {x : Str} {v : Value} {p1 : Pos} {Q : Value → Shared → Prop} {E : Value → Shared → Prop}, Names X x v → Q v { t with heap := g3 } → wpAny (model X.prog X.w) (X.A.mark (some (.ref a))) (eval (.Name x p1) X.env) Q E { t with heap := g3 } := by
      intro x v p1 Q E hn q
      obtain ⟨g1, g2, g4 | ⟨g4, g5, g6⟩⟩ := hn
      · exact ld_glob (X := X.suite a ((a, o3) :: (X.pn ++ pins))) S3 g1 g4 q g2
      · exact ld_blt (X := X.suite a ((a, o3) :: (X.pn ++ pins))) S3 g1 g4 g5 q g6 g2
    show wpAny (model X.prog X.w) X.A (handleBy (.ref a) X.env (h₁ :: rest)) (SP X pins D) X.xe { t with heap := g3 }
    clear_value land
    have all : ∀ {hs' : List ExceptHandler} {l' : List Cl}, ClsOk X hs' l' → wCls X.K Wo D l' c d σ1 H1 → wpAny (model X.prog X.w) X.A (handleBy (.ref a) X.env hs') (SP X pins D) X.xe { t with heap := g3 } := by
      intro hs' l' ck
      induction ck with
      | nil =>
        intro wo
        refine wpAny_handleBy_nil ?_
        obtain ⟨_, _, _, o, w, T, oT, wT, e1, _, e2, e3, _⟩ := id fly3
        unfold PySem.passOn
        refine wpAny_bind (wpAny_field e1 e2 e3 ?_)
        rw [if_neg (by simp : ¬ ((Value.ref T == Value.none) = true))]
        have last : wpAny (model X.prog X.w) X.A (setFlight (.ref a) X.env.frame) (fun _ t4 => wpAny (model X.prog X.w) X.A (throw (.ref a) : Sem Flow) (SP X pins D) X.xe t4) X.xe { t with heap := g3 } := by
          rw [frm]
          exact HandSPX.setFlight_upZ fly3 fun g4 held up4 => wpAny_throw (tk _ _ ⟨a, B, sI, pins, σ1, H1, c, d, rfl, J, gnd, (upw.trans up3).trans up4, .inr (.inr (by rw [stk]; exact held)), fresh, osq, bare, wo⟩)
        first
          | exact wpAny_bind (wpAny_pure (wpAny_bind last))
          | exact wpAny_bind last
      | @bare x v ts b bs p1 p2 hs2 l2 hn hsu r ih =>
        intro ⟨bb, m1, yes, no⟩
        refine wpAny_handleBy_cons (codeAny_handlers_test ?_) (by intro q; cases q)
        refine look hn ((PySem.W.exm_one (M := model X.prog X.w) J3.kIn typ m1).here ?_)
        cases bb with
        | false => exact ih (no rfl)
        | true =>
          refine codeAny_handlers_suite (HandSPX.lands_againZ fly3 fun g4 fly4 up4 => ?_)
          have J4 : Inv X pins σ1 H1 { t with heap := g4 } := J.landed gnd fly4.1 ((upw.trans up3).trans up4) osq bare
          obtain ⟨o4, w4, get4, z4, data4⟩ := fly4.there
          refine wpAny_mono ((hsu a o4 c d (X.pn ++ pins) z4 ⟨_, data4⟩).run [] _ _ H1 _ (J4.suite get4 data4 fresh ne1 ne2) (yes rfl a fresh)) (fun fl t6 hf => ?_) (fun _ _ z => z.elim)
          cases fl with
          | ret u =>
            obtain ⟨v7, σ7, H7, S7, r7, q7⟩ := hf
            exact ⟨v7, σ7, H7, S7.unsuite okX, r7, q7⟩
          | next =>
            obtain ⟨σ7, H7, S7, q7⟩ := hf
            exact ⟨σ7, H7, S7.unsuite okX, q7⟩
          | brk =>
            obtain ⟨σ7, H7, S7, q7⟩ := hf
            exact ⟨σ7, H7, S7.unsuite okX, q7⟩
          | cont =>
            obtain ⟨σ7, H7, S7, q7⟩ := hf
            exact ⟨σ7, H7, S7.unsuite okX, q7⟩
      | @named x n i v ts b bs p1 p2 hs2 l2 hn hi hl hsu r ih =>
        intro ⟨bb, m1, yes, no⟩
        refine wpAny_handleBy_cons (codeAny_handlers_test ?_) (by intro q; cases q)
        refine look hn ((PySem.W.exm_one (M := model X.prog X.w) J3.kIn typ m1).here ?_)
        cases bb with
        | false => exact ih (no rfl)
        | true =>
          refine codeAny_handlers_suite_as (HandSPX.lands_againZ fly3 fun g4 fly4 up4 => ?_)
          have J4 : Inv X pins σ1 H1 { t with heap := g4 } := J.landed gnd fly4.1 ((upw.trans up3).trans up4) osq bare
          obtain ⟨o4, w4, get4, z4, data4⟩ := fly4.there
          refine store_ok (X := X.suite a ((a, o4) :: (X.pn ++ pins))) (v := .ref a) (J4.suite get4 data4 fresh ne1 ne2) nd hi (.inl hl) rfl (fun t5 S5 => ?_) (.inr hl)
          refine wpAny_mono ((hsu a o4 c d (X.pn ++ pins) z4 ⟨_, data4⟩).run [] t5 _ H1 _ S5 (yes rfl a fresh)) (fun fl t6 hf => ?_) (fun _ _ z => z.elim)
          cases fl with
          | ret u =>
            obtain ⟨v7, σ7, H7, S7, r7, q7⟩ := hf
            exact gone_ok (S7.unsuite okX) nd hi hl fun t8 J8 => ⟨v7, _, H7, J8, r7, q7⟩
          | next =>
            obtain ⟨σ7, H7, S7, q7⟩ := hf
            exact gone_ok (S7.unsuite okX) nd hi hl fun t8 J8 => ⟨_, H7, J8, q7⟩
          | brk =>
            obtain ⟨σ7, H7, S7, q7⟩ := hf
            exact gone_ok (S7.unsuite okX) nd hi hl fun t8 J8 => ⟨_, H7, J8, q7⟩
          | cont =>
            obtain ⟨σ7, H7, S7, q7⟩ := hf
            exact gone_ok (S7.unsuite okX) nd hi hl fun t8 J8 => ⟨_, H7, J8, q7⟩
    exact all cls wish
  refine wpAny_mono ((bodyOk (wCls X.K Wo D l) (X.pn ++ pins) land catches PassesOwn.looking).run [] s σ H D (I0.toTry _) h0) (fun fl t1 hf => ?_) (fun e t1 he => he)
  cases fl with
  | ret u =>
    obtain ⟨v7, σ7, H7, J7, r7, q7⟩ := hf
    exact ⟨v7, σ7, H7, J7.ofTry okX, r7, q7⟩
  | next =>
    obtain ⟨σ7, H7, J7, q7⟩ := hf
    exact wpAny_execs_nil ⟨σ7, H7, J7.ofTry okX, q7⟩
  | brk =>
    obtain ⟨σ7, H7, J7, q7⟩ := hf
    exact ⟨σ7, H7, J7.ofTry okX, q7⟩
  | cont =>
    obtain ⟨σ7, H7, J7, q7⟩ := hf
    exact ⟨σ7, H7, J7.ofTry okX, q7⟩
end

/-- the value of a flat datum -/
def flV : D → V
  | .none => .non
  | .bool b => .bl b
  | .int i => .int i
  | .str x => .str x
  | _ => .non
def isFl : D → Bool
  | .none => true
  | .bool _ => true
  | .int _ => true
  | .str _ => true
  | _ => false
theorem rep_fl {K : PySem.W.Frag} {H : Hp} {S : Addr → Prop} : ∀ {d : D}, isFl d = true → Rep K H S (flV d) d
  | .none, _ => .non
  | .bool b, _ => .bl b
  | .int i, _ => .int i
  | .str x, _ => .str x
  | .list _, h => nomatch h
  | .tuple _, h => nomatch h
  | .dict _, h => nomatch h
/-- a suite that ends by giving g c, c the exception's number -/
def SuB (X : Cx) (exc : Nat → Addr) (suite : List Stmt) (g : Nat → D) : Prop := ∀ (c : Nat) (a : Addr) (oe : Obj) (pn : List (Addr × Obj)), Zc (.ref (exc c)) none oe → (∃ vs, oe.data = .fields vs) → ∀ (Ds : Ends) (σ : L2.St) (H : Hp), Ds.rt (flV (g c)) H → wSs (X.suite a ((a, oe) :: pn)) suite Ds σ H
def SuN (X : Cx) (exc : Nat → Addr) (suite : List Stmt) (i : Nat) (g : Nat → D) : Prop := ∀ (c : Nat) (a : Addr) (oe : Obj) (pn : List (Addr × Obj)), Zc (.ref (exc c)) none oe → (∃ vs, oe.data = .fields vs) → ∀ (Ds : Ends) (σ : L2.St) (H : Hp), Ds.rt (flV (g c)) H → wSs (X.suite a ((a, oe) :: pn)) suite Ds (σ.set i (some (.ref a))) H
theorem SuB.n {X : Cx} {exc : Nat → Addr} {suite : List Stmt} {g : Nat → D} (h : SuB X exc suite g) (i : Nat) : SuN X exc suite i g := fun c a oe pn z v Ds σ H q => h c a oe pn z v Ds _ H q
inductive HsOk (X : Cx) (exc : Nat → Addr) : List ExceptHandler → (Nat → Option D) → Prop
  | nil : HsOk X exc [] (fun _ => none)
  | bare {x : Str} {h : Nat} {sub : Nat → Bool} {g : Nat → D} {b : Stmt} {bs : List Stmt} {p1 p2 : Pos} {hs : List ExceptHandler} {f : Nat → Option D} (hn : Names X x (.ref (exc h))) (hm : ∀ c, PySem.W.exmOne X.K (.ref (exc c)) (.ref (exc h)) = some (sub c)) (hf : ∀ c, isFl (g c) = true)
      (hsu : SuB X exc (b :: bs) g) (r : HsOk X exc hs f) : HsOk X exc (.ExceptHandler (some (.Name x p1)) none (b :: bs) p2 :: hs) (fun c => match sub c with | true => some (g c) | false => f c)
  | named {x n : Str} {i h : Nat} {sub : Nat → Bool} {g : Nat → D} {b : Stmt} {bs : List Stmt} {p1 p2 : Pos} {hs : List ExceptHandler} {f : Nat → Option D} (hn : Names X x (.ref (exc h))) (hm : ∀ c, PySem.W.exmOne X.K (.ref (exc c)) (.ref (exc h)) = some (sub c)) (hf : ∀ c, isFl (g c) = true) (hi : X.N[i]? = some n) (hl : X.env.kindOf n = some .local)
      (hsu : SuN X exc (b :: bs) i g) (r : HsOk X exc hs f) : HsOk X exc (.ExceptHandler (some (.Name x p1)) (some n) (b :: bs) p2 :: hs) (fun c => match sub c with | true => some (g c) | false => f c)
theorem HsOk.cls {X : Cx} {exc : Nat → Addr} {hs : List ExceptHandler} {f : Nat → Option D} (h : HsOk X exc hs f) : ∃ l, ClsOk X hs l ∧ ∀ (Wo : WX) (Ds : Ends) (c : Nat) (σ : L2.St) (H : Hp),
    (∀ d, f c = some d → isFl d = true → Ds.rt (flV d) H) → (f c = none → Wo (.ref (exc c)) none σ H) → wCls X.K Wo Ds l (.ref (exc c)) none σ H := by
  induction h with
  | nil => exact ⟨[], .nil, fun Wo Ds c σ H _ h2 => h2 rfl⟩
  | @bare x h sub g b bs p1 p2 hs f hn hm hf hsu r ih =>
    obtain ⟨l, k1, k2⟩ := ih
    refine ⟨⟨.ref (exc h), none, fun a cls d Ds σ H => ∀ (oe : Obj) (pn : List (Addr × Obj)), Zc cls d oe → (∃ vs, oe.data = .fields vs) → wSs (X.suite a ((a, oe) :: pn)) (b :: bs) Ds σ H⟩ :: l, .bare hn (fun a oe c d pn z v => ⟨fun pins s σ H Ds I q => q oe pn z v pins s I⟩) k1, fun Wo Ds c σ H h1 h2 => ⟨sub c, hm c, fun e a ha oe pn z v => ?_, fun e => ?_⟩⟩
    · exact hsu c a oe pn z v Ds σ H (h1 _ (by dsimp only; rw [e]) (hf c))
    · exact k2 Wo Ds c σ H (fun d q => h1 d (by dsimp only; rw [e]; exact q)) fun q => h2 (by dsimp only; rw [e]; exact q)
  | @named x n i h sub g b bs p1 p2 hs f hn hm hf hi hl hsu r ih =>
    obtain ⟨l, k1, k2⟩ := ih
    refine ⟨⟨.ref (exc h), some i, fun a cls d Ds σ H => ∀ (oe : Obj) (pn : List (Addr × Obj)), Zc cls d oe → (∃ vs, oe.data = .fields vs) → wSs (X.suite a ((a, oe) :: pn)) (b :: bs) Ds σ H⟩ :: l, .named hn hi hl (fun a oe c d pn z v => ⟨fun pins s σ H Ds I q => q oe pn z v pins s I⟩) k1, fun Wo Ds c σ H h1 h2 => ⟨sub c, hm c, fun e a ha oe pn z v => ?_, fun e => ?_⟩⟩
    · exact hsu c a oe pn z v _ σ H (h1 _ (by dsimp only; rw [e]) (hf c))
    · exact k2 Wo Ds c σ H (fun d q => h1 d (by dsimp only; rw [e]; exact q)) fun q => h2 (by dsimp only; rw [e]; exact q)

def tryO (hs : Nat → Option D) (o : SO) : SO := match o with
  | .ex c env' => match hs c with
    | some d => match isFl d with
      | true => .rt .old d
      | false => .no
    | none => .ex c env'
  | o => o
def fTry (gb : Env → SO) (hs : Nat → Option D) (env : Env) : SO := tryO hs (gb env)
section
variable {k : Nat} {N : List Str} {sc : Scope} {X : Cx} {exc : Nat → Addr} {H0 : Hp} {S0 : Addr → Prop} {pos : Pos} {body : List Stmt} {h₁ : ExceptHandler} {rest : List ExceptHandler} {gb : Env → SO} {f : Nat → Option D}
theorem CxF.tr (c : CxF k N sc X) (pn : List (Addr × Obj)) (xe : Value → Shared → Prop) (hp : PassesOwn (model X.prog X.w) X.A X.env xe) : CxF k N sc (X.tr pn xe) :=
  ⟨⟨c.ok.room, c.ok.calm, c.ok.nd, c.ok.nm, c.ok.kind, c.ok.sco, c.ok.fnc⟩, c.sco, hp, c.stk, c.frm⟩
theorem ss_try (c : CxF k N sc X) (hh : HsOk X exc (h₁ :: rest) f) (hb : ∀ (pn : List (Addr × Obj)) (xe : Value → Shared → Prop), CxF k N sc (X.tr pn xe) → SSs (X.tr pn xe) exc H0 S0 body gb) : SS X exc H0 S0 (.Try body (h₁ :: rest) [] [] pos) (fTry gb f) := by
  intro os env σ H Ds fr p
  obtain ⟨l, k1, k2⟩ := hh.cls
  have go : ∀ (Wo : WX), Takes X Wo → (∀ (pn : List (Addr × Obj)) (xe : Value → Shared → Prop), Takes (X.tr pn xe) (wCls X.K Wo Ds l) → PostS (X.tr pn xe) exc H0 S0 os H (gb env) Ds) → wS X (.Try body (h₁ :: rest) [] [] pos) Ds σ H := fun Wo tk q =>
    wS.of (ps_tryC c.stk c.frm (by rw [c.ok.nm]; exact c.ok.nd) tk (tb := fun W Ds σ H => ∀ (pn : List (Addr × Obj)) (xe : Value → Shared → Prop), Takes (X.tr pn xe) W → PassesOwn (model X.prog X.w) X.A X.env xe → wSs (X.tr pn xe) body Ds σ H)
      (fun W pn xe tk hp => ⟨fun pins s σ H Ds I z => z pn xe tk hp pins s I⟩) k1) fun pn xe tk2 hp => hb pn xe (c.tr pn xe hp) os env σ H Ds fr (q pn xe tk2)
  unfold fTry at p
  cases e : gb env with
  | nx env' => rw [e] at p; exact go _ takes0 fun pn xe _ => by rw [e]; exact p
  | bk env' => rw [e] at p; exact go _ takes0 fun pn xe _ => by rw [e]; exact p
  | ct env' => rw [e] at p; exact go _ takes0 fun pn xe _ => by rw [e]; exact p
  | rt kd d => rw [e] at p; exact go _ takes0 fun pn xe _ => by rw [e]; exact p
  | no => rw [e] at p; exact p.elim
  | ex n env' =>
    rw [e] at p
    unfold tryO at p
    dsimp only at p
    cases q : f n with
    | none =>
      rw [q] at p
      obtain ⟨W, tk, hW⟩ := id p
      exact go W tk fun pn xe tk2 => by
        rw [e]
        exact ⟨_, tk2, fun os' σ' H' f' ev => k2 W Ds n σ' H' (fun d z => by rw [q] at z; cases z) fun _ => hW os' σ' H' f' ev⟩
    | some d =>
      rw [q] at p
      cases hd : isFl d with
      | false => simp only [hd] at p; exact p.elim
      | true =>
        simp only [hd] at p
        exact go _ takes0 fun pn xe tk2 => by
          rw [e]
          exact ⟨_, tk2, fun os' σ' H' f' ev => k2 _ Ds n σ' H' (fun d2 z hz => by rw [q] at z; cases z; exact p.2 _ H' f'.old (.old (rep_fl hz))) fun z => by rw [q] at z; cases z⟩
end

/-! ### suites -/
section
variable {k : Nat} {N : List Str} {sc : Scope} {X : Cx} {exc : Nat → Addr} {p1 p2 p3 p4 p5 : Pos} {n x : Str} {j : Nat}
theorem su_str {z : Str} : SuB X exc [.Return (some (.Constant (.str z) j p1)) p2] (fun _ => .str z) := fun c a oe pn _ _ Ds σ H q => wSs.of (pss_one (ps_ret pe_str)) q
theorem su_bl {z : Bool} : SuB X exc [.Return (some (.Constant (.bool z) j p1)) p2] (fun _ => .bool z) := fun c a oe pn _ _ Ds σ H q => wSs.of (pss_one (ps_ret pe_bl)) q
theorem su_non : SuB X exc [.Return (some (.Constant .none j p1)) p2] (fun _ => .none) := fun c a oe pn _ _ Ds σ H q => wSs.of (pss_one (ps_ret pe_non)) q
/-- isinstance(e, C): how it is asked, by the number of e's class -/
theorem su_pe (c : CxF k N sc X) {i h n0 : Nat} {ans : Nat → Bool} (hE : ∀ c, ExcC X.K (exc c)) (hk : ∀ c, PySem.W.kitOne X.K (.ref (exc c)) (.ref (exc h)) = some (ans c)) (hN : N[i]? = some n) (hv : visB sc n = true) (hd : (n == ("__debug__" : Str)) = false) (hcd : (n == ("__classdict__" : Str)) = false)
    (hg : glB sc "isinstance" = true) (hm : X.mg "isinstance" = none) (hgC : glB sc x = true) (hmC : X.mg x = some (.ref (exc h))) (hdC : (x == ("__debug__" : Str)) = false) {a : Addr} {oe : Obj} {pn : List (Addr × Obj)} (z : Zc (.ref (exc n0)) none oe) (v : ∃ vs, oe.data = .fields vs) :
    ∃ t, PE (X.suite a ((a, oe) :: pn)) (.Call (.Name "isinstance" p2) [.Name n p3, .Name x p4] [] p5) t ∧ ∀ (σ : L2.St) (H : Hp) (Q : VK), σ.length = X.N.length → Q (.bl (ans n0)) H → t (σ.set i (some (.ref a))) H Q := by
  have pv : PE (X.suite a ((a, oe) :: pn)) (.Name n p3) (tVar i) := pe_var (by show X.N[i]? = _; rw [c.ok.nm]; exact hN) (c.ok.vis hv) hd hcd
  have pc : PE (X.suite a ((a, oe) :: pn)) (.Name x p4) (tC (.ref (exc h))) := pe_glob (c.ok.gl hgC) hmC rfl hdC
  refine ⟨_, pe_callB (call_isE (hE n0) z v) (c.ok.gl hg) hm PyProof.Rows.boot_isinstance (pa_cons pv (pa_cons pc pa_nil)), fun σ H Q hl q => ?_⟩
  refine ⟨_, List.getElem?_set_self ?_, _, _, _, rfl, fun u hu => ?_, hk n0, q⟩
  · rw [hl, c.ok.nm]; exact (List.getElem?_eq_some_iff.mp hN).1
  · exact hu
theorem set_len {σ : L2.St} {i : Nat} {v : Option V} {m : Nat} (h : (σ.set i v).length = m) : σ.length = m := by rw [List.length_set] at h; exact h
theorem wSs.inv {st : List Stmt} {Ds : Ends} {σ : L2.St} {H : Hp} (h : σ.length = X.N.length → wSs X st Ds σ H) : wSs X st Ds σ H := fun pins s I => h I.len pins s I
theorem su_is (c : CxF k N sc X) {i h : Nat} {ans : Nat → Bool} (hE : ∀ c, ExcC X.K (exc c)) (hk : ∀ c, PySem.W.kitOne X.K (.ref (exc c)) (.ref (exc h)) = some (ans c)) (hN : N[i]? = some n) (hv : visB sc n = true) (hd : (n == ("__debug__" : Str)) = false) (hcd : (n == ("__classdict__" : Str)) = false)
    (hg : glB sc "isinstance" = true) (hm : X.mg "isinstance" = none) (hgC : glB sc x = true) (hmC : X.mg x = some (.ref (exc h))) (hdC : (x == ("__debug__" : Str)) = false) :
    SuN X exc [.Return (some (.Call (.Name "isinstance" p2) [.Name n p3, .Name x p4] [] p5)) p1] i (fun c => .bool (ans c)) := by
  intro n0 a oe pn z v Ds σ H q
  obtain ⟨t, h1, h2⟩ := su_pe c hE hk hN hv hd hcd hg hm hgC hmC hdC z v (p2 := p2) (p3 := p3) (p4 := p4) (p5 := p5) (a := a) (pn := pn)
  refine wSs.inv fun hl => wSs.of (pss_one (ps_ret h1)) (h2 σ H _ (set_len hl) q)
theorem su_ifis (c : CxF k N sc X) {i h : Nat} {ans : Nat → Bool} (hE : ∀ c, ExcC X.K (exc c)) (hk : ∀ c, PySem.W.kitOne X.K (.ref (exc c)) (.ref (exc h)) = some (ans c)) (hN : N[i]? = some n) (hv : visB sc n = true) (hd : (n == ("__debug__" : Str)) = false) (hcd : (n == ("__classdict__" : Str)) = false)
    (hg : glB sc "isinstance" = true) (hm : X.mg "isinstance" = none) (hgC : glB sc x = true) (hmC : X.mg x = some (.ref (exc h))) (hdC : (x == ("__debug__" : Str)) = false) {y z : Str} {j1 j2 : Nat} {q1 q2 q3 : Pos} :
    SuN X exc [.Return (some (.IfExp (.Call (.Name "isinstance" p2) [.Name n p3, .Name x p4] [] p5) (.Constant (.str y) j1 q1) (.Constant (.str z) j2 q2) q3)) p1] i (fun c => match ans c with | true => .str y | false => .str z) := by
  intro n0 a oe pn zc v Ds σ H q
  obtain ⟨t, h1, h2⟩ := su_pe c hE hk hN hv hd hcd hg hm hgC hmC hdC zc v (p2 := p2) (p3 := p3) (p4 := p4) (p5 := p5) (a := a) (pn := pn)
  refine wSs.inv fun hl => wSs.of (pss_one (ps_ret (pe_ifExp (pt_truth h1 fun _ => rfl) pe_str pe_str))) (h2 σ H _ (set_len hl) ⟨_, rfl, ?_⟩)
  dsimp only at q
  cases e : ans n0 with
  | true => rw [if_pos rfl]; rw [e] at q; exact q
  | false => rw [if_neg (by simp)]; rw [e] at q; exact q
end
end Rf

/-! ### enumerate(tuple) -/
namespace PySem.Calls
open PySem PySem.Spec PyProof.Rows
theorem enum1_meets {v : Value} {ob : Obj} {P : Heap → Prop} (B : Begins v ob P) :
    Meets (Builtin.«enumerate.__new__» ⟨[.type "enumerate", v], []⟩) (fun _ R s => P s.heap ∧
      R (.ok (.ret (.ref (s.heap.push ob).objs.size))) { s with heap := (s.heap.push ob).push { cls := .type "enumerate", data := .fields #[.none, .bool false, .ref s.heap.objs.size, rawInt 0, .none, .none] } }) :=
  .of_wp fun prog w A R s h => by
    obtain ⟨g1, g2, g3, g4, g5⟩ := s
    obtain ⟨hP, hR⟩ := h
    have sube := sub_enumerate
    have it1 : ∀ {A1 : Around} {E : Value → Shared → Prop} {Q : Value → Shared → Prop}, Q (.ref g1.objs.size) ⟨g1.push ob, g2, g3, g4, g5⟩ → wpAny (model prog w) A1 (pyIter v) Q E ⟨g1, g2, g3, g4, g5⟩ := fun z => B.iter prog w _ _ ⟨g1, g2, g3, g4, g5⟩ _ hP z
    wp_walk using it1
    refine wpAny_stack_any fun stk => wpAny_pure ?_
    split
    · rename_i cc _ _ _ _ _
      cases (cc == Value.type "enumerate") <;> (wp_walk using it1; exact ⟨_, rfl, hR⟩)
    · wp_walk using it1
      exact ⟨_, rfl, hR⟩
end PySem.Calls
namespace Rf
open PySem PySem.Spec L2
open PyProof.Rows hiding St
section
variable {prog : Program} {w : World} {A : Around} {E : Value → Shared → Prop} {s : Shared}
theorem call_enum1 {v : Value} {ob : Obj} {P : Heap → Prop} {Q : Value → Shared → Prop} (B : Begins v ob P) (hP : P s.heap)
    (h : ∀ h', IsEnum h' (s.heap.objs.size + 1) s.heap.objs.size 0 .none → h'.get? s.heap.objs.size = some ob → h'.objs.size = s.heap.objs.size + 2 →
      (∀ b o, s.heap.get? b = some o → h'.get? b = some o) → Q (.ref (s.heap.objs.size + 1)) { s with heap := h' }) : wpAny (model prog w) A (call (.type "enumerate") [v]) Q E s := by
  refine callType_new F.called_enumerate (by decide) (F.typeCall_enumerate_1 _) (F.newCall_enumerate_1 _) (fun z => F.args_object_init_2 z _) F.entry_enumerate_new (PySem.Calls.enum1_meets B) ⟨hP, ?_⟩
  have sz : (s.heap.push ob).objs.size = s.heap.objs.size + 1 := Heap.size_push ..
  have top := Heap.get?_push_size (s.heap.push ob) (o := { cls := .type "enumerate", data := .fields #[.none, .bool false, .ref s.heap.objs.size, rawInt 0, .none, .none] }) rfl
  show _ ∧ _
  rw [sz] at top ⊢
  exact ⟨⟨_, top, rfl⟩, h _ top (Heap.get?_push_of_some _ (Heap.get?_push_size _ B.free)) (by rw [Heap.size_push, sz]) fun b o z => Heap.get?_push_of_some _ (Heap.get?_push_of_some _ z)⟩
end
/-- the tuple at a, each item in a new pair with its number -/
def Iet (K : PySem.W.Frag) (a : Addr) : It :=
  ⟨fun i H => ∃ (xs : List V) (x : V), SqT K H a xs ∧ xs[i]? = some x, fun i H v H' => ∃ T x, v = .ref T ∧ H T = none ∧ H' = upd H T (.tup [.int (i : Nat), x]) ∧ ∀ xs, SqT K H a xs → xs[i]? = some x, fun i H => ∃ xs : List V, SqT K H a xs ∧ xs.length = i⟩
theorem cls_ne {h : Heap} {a b : Addr} {oa ob : Obj} (ha : h.get? a = some oa) (hb : h.get? b = some ob) (n : oa.cls ≠ ob.cls) : a ≠ b := fun z => by subst z; rw [ha] at hb; cases hb; exact n rfl
theorem turn_enumT {P : Program} {w : World} {K : PySem.W.Frag} {elts : List Expr} {kk : Nat} {tpos : Pos} (a e it : Addr) :
    Turn P w K (.Tuple elts kk tpos) (Iet K a) [e, it] e (fun i h => (∃ old, IsEnum h e it ((i : Nat) : Int) old) ∧ h.IsTupleIter it a i ∧ e ≠ it) where
  mem := List.mem_cons_self
  obj := fun i h st b hb => by
    obtain ⟨⟨old, he⟩, ⟨o, ho, _, hd⟩, _⟩ := st
    rcases List.mem_cons.mp hb with rfl | hb
    · exact ⟨_, he, fun v z => nomatch z⟩
    · rw [List.mem_singleton.mp hb]
      exact ⟨o, ho, fun v z => by rw [hd] at z; cases z⟩
  keep := fun i h h' st k => ⟨⟨_, k e List.mem_cons_self _ st.1.choose_spec⟩, st.2.1.at fun o z => k it (List.mem_cons_of_mem _ List.mem_cons_self) o z, st.2.2⟩
  item := by
    intro X hP hw hK hc i pins s σ H E I hf st hg
    subst hP hw hK
    obtain ⟨⟨old, he⟩, hit, hne⟩ := st
    obtain ⟨xs, x, hq, hx⟩ := hg
    obtain ⟨its, rv, tp, hz⟩ := I.tuple hq
    obtain ⟨u, hu, ru⟩ := rv.get hx
    have tp' : s.heap.IsTuple a its.toArray := tp
    obtain ⟨oa, ga, ca, _⟩ := id tp'
    obtain ⟨oi, gi, ci, _⟩ := id hit
    have nai : a ≠ it := cls_ne ga gi (by rw [ca, ci]; decide)
    have nea : e ≠ a := cls_ne he ga (fun z => absurd ((Value.type.inj (z.trans ca)) : "enumerate" = "tuple") (by decide))
    have le : e < s.heap.objs.size := Heap.lt_size he
    have li : it < s.heap.objs.size := Heap.lt_size gi
    have hd : X.A.in1.handled = none := I.ok.hd hc
    have lt : i < its.toArray.size := by
      rw [List.size_toArray]
      exact (List.getElem?_eq_some_iff.mp hu).1
    refine wpAny_pyNext_enum_itemD (Draws.tuple hd it a nai its.toArray) he ⟨hit, tp'⟩ lt hne (by simp [hne, nea]) fun y h' tk hy ho st' hT hsz hk => ?_
    have ey : y = u := by
      have : its.toArray[i]? = some u := by simpa using hu
      rw [this] at hy; cases hy; rfl
    subst ey
    refine ⟨_, rfl, wpAny_letOwnedTupleGo_enum (s := { s with heap := h', toks := tk + 1 }) ho fun h2 he2 sb => ?_⟩
    have getT : h2.get? s.heap.objs.size = some { cls := .type "tuple", data := .seq #[.int i tk, y] } := (sb.2 _ (Nat.ne_of_gt le)).trans hT
    have new : ObjOk X.prog X.w (upd H s.heap.objs.size (.tup [.int (i : Nat), x])) h2 s.heap.objs.size (.tup [.int (i : Nat), x]) :=
      ⟨(by decide : 2 ≤ sizeLine), [.int i tk, y], .cons ⟨_, rfl⟩ (.cons ru .nil), ⟨_, getT, rfl, _, rfl⟩⟩
    have I1 : Inv X pins σ (upd H s.heap.objs.size (.tup [.int (i : Nat), x])) { s with heap := h2, toks := tk + 1 } :=
      I.turnedNew (ch := [e, it]) (fun b ob hb z => by
        have n1 : b ≠ e := fun q => hb (by simp [q])
        have n2 : b ≠ it := fun q => hb (by simp [q])
        exact (sb.2 b n1).trans (hk b ob n1 n2 z)) hf (Nat.le_refl _) new
    refine ⟨.ref s.heap.objs.size, _, I1, rfl, ⟨_, x, rfl, I.hok.fresh (Nat.le_refl _), rfl, fun ys hy => by rw [I.tuple_inj hy hq]; exact hx⟩, ⟨⟨y, ?_⟩, st'.1.at fun o z => (sb.2 it (Ne.symm hne)).trans z, hne⟩, fun b hb => ?_⟩
    · rw [show ((i + 1 : Nat) : Int) = (i : Int) + 1 by omega]
      exact he2
    · have lb : b < s.heap.objs.size := by
        rcases List.mem_cons.mp hb with rfl | hb
        · exact le
        · rw [List.mem_singleton.mp hb]; exact li
      rw [upd_ne (Nat.ne_of_lt lb)]
      exact (hf b hb).1
  done := by
    intro X hP hw hK hc i pins s σ H E I hf st hg
    subst hP hw hK
    obtain ⟨⟨old, he⟩, hit, hne⟩ := st
    obtain ⟨xs, hq, hx⟩ := hg
    obtain ⟨its, rv, tp, hz⟩ := I.tuple hq
    have tp' : s.heap.IsTuple a its.toArray := tp
    obtain ⟨oa, ga, ca, _⟩ := id tp'
    obtain ⟨oi, gi, ci, _⟩ := id hit
    have nai : a ≠ it := cls_ne ga gi (by rw [ca, ci]; decide)
    obtain ⟨f0, f1, f2, f3, f4, f5⟩ := hf it (List.mem_cons_of_mem _ List.mem_cons_self)
    have hd : X.A.in1.handled = none := I.ok.hd hc
    have hl : its.toArray.size = i := by rw [List.size_toArray, ← rv.length, hx]
    exact wpAny_pyNext_enum_endD (Draws.tuple hd it a nai its.toArray) he (by rw [hl]; exact ⟨hit, tp'⟩) fun h' eb => ⟨rfl, I.turned (t' := s.toks) (fun b o hb q => eb b o hb q) f0 f1 f3 f4 f5⟩
  self := fun A i s Q E st h => wpAny_pyIter_enum st.1.choose_spec h
theorem walk_enumT {K : PySem.W.Frag} {a : Addr} {xs : List V} : Walk (Iet K a) xs.length (fun H => SqT K H a xs) (YPair (fun i => some (.int (i : Nat))) (fun i => xs[i]?)) := by
  refine ⟨fun i _ hi q => ⟨xs, xs[i], q, by simp [hi]⟩, fun _ q => ⟨xs, q, rfl⟩, fun i H v H' _ q y => ?_⟩
  obtain ⟨T, x, h1, h2, h3, h4⟩ := y
  exact ⟨T, .int (i : Nat), x, h1, h2, h3, rfl, h4 xs q⟩
def iEnumT (K : PySem.W.Frag) (ta : TA) : TI := fun σ H R => ta σ H fun vs H1 => ∃ a, vs = [.ref a] ∧ ((∃ xs, SqL K H1 a xs ∧ R (Ite K a) H1) ∨ ∃ xs, SqT K H1 a xs ∧ R (Iet K a) H1)
theorem pi_enumA {X : Cx} {e : Expr} {ta : TA} {p pos tpos : Pos} {elts : List Expr} {kk : Nat} (hg : Gl X "enumerate") (hm : X.mg "enumerate" = none) (ha : PA X [e] ta) (hs : starEach [e] X.env = [(false, eval e X.env)]) :
    PI X (.Tuple elts kk tpos) (.Call (.Name "enumerate" p) [e] [] pos) (iEnumT X.K ta) := by
  refine ⟨fun pins s σ H R I h => ?_⟩
  refine Call_ (ld_blt I hg hm boot_enumerate (PyProof.Rows.callWith_type1 (thn (ha.run pos pins s σ H _ I h) fun us s1 ⟨vs, H1, I1, r1, a, ev, q1⟩ => ?_) hs rfl))
  subst ev
  cases r1 with
  | cons r rr =>
    cases rr
    cases r
    have two : ∀ {b : Addr}, b ∈ [s1.heap.objs.size + 1, s1.heap.objs.size] → s1.heap.objs.size ≤ b := fun {b} hb => by
      rcases List.mem_cons.mp hb with rfl | hb
      · exact Nat.le_add_right _ _
      · rw [List.mem_singleton.mp hb]; exact Nat.le_refl _
    rcases q1 with ⟨xs, hq, q⟩ | ⟨xs, hq, q⟩
    · obtain ⟨its, rv, tp, hz⟩ := I1.list hq
      refine call_enumerate_list tp.isList fun h' he hit hsz hk => wpAny_pyIter_enum he ?_
      have I2 : Inv X pins σ H1 { s1 with heap := h' } := I1.kept (t' := s1.toks) hk
      exact ⟨s1.heap.objs.size + 1, [s1.heap.objs.size + 1, s1.heap.objs.size], _, _, H1, rfl, I2, turn_enum a _ _, ⟨⟨.none, he⟩, hit, Nat.succ_ne_self _⟩, fun b hb => I1.fpOk (two hb) (I1.hok.fresh (two hb)), q⟩
    · obtain ⟨its, rv, tp, hz⟩ := I1.tuple hq
      refine call_enum1 (begins_tuple a its.toArray) tp fun h' he hit hsz hk => wpAny_pyIter_enum he ?_
      have I2 : Inv X pins σ H1 { s1 with heap := h' } := I1.kept (t' := s1.toks) hk
      exact ⟨s1.heap.objs.size + 1, [s1.heap.objs.size + 1, s1.heap.objs.size], _, _, H1, rfl, I2, turn_enumT a _ _, ⟨⟨.none, he⟩, ⟨_, hit, rfl, rfl⟩, Nat.succ_ne_self _⟩, fun b hb => I1.fpOk (two hb) (I1.hok.fresh (two hb)), q⟩
def enumL : Nat → List D → List D
  | _, [] => []
  | n, d :: ds => .tuple [.int (n : Nat), d] :: enumL (n + 1) ds
theorem enumL_get (n : Nat) (ds : List D) (i : Nat) : (enumL n ds)[i]? = (ds[i]?).map fun d => .tuple [.int ((n + i : Nat) : Int), d] := by
  induction ds generalizing n i with
  | nil => simp [enumL]
  | cons d ds ih =>
    cases i with
    | zero => simp [enumL]
    | succ i =>
      rw [enumL, List.getElem?_cons_succ, List.getElem?_cons_succ, ih]
      congr 1
      funext d
      rw [show n + 1 + i = n + (i + 1) by omega]
theorem enumL_length (n : Nat) (ds : List D) : (enumL n ds).length = ds.length := by
  induction ds generalizing n with
  | nil => rfl
  | cons d ds ih => simp [enumL, ih]
def enumD (x : Kd × D) : R (Kd × List D) := match x.2 with
  | .list ds => .ok (x.1, enumL 0 ds)
  | .tuple ds => .ok (.old, enumL 0 ds)
  | _ => .no
def iEnumD (fa : Env → RV) (env : Env) : R (Kd × List D) := (fa env).bind enumD
section
variable {k : Nat} {N : List Str} {sc : Scope} {X : Cx} {exc : Nat → Addr} {p pos tpos : Pos} {elts : List Expr} {kk : Nat} {a : Expr} {f : Env → RV}
theorem src_enum {K : PySem.W.Frag} {J : It} {S : Addr → Prop} {H1 : Hp} {kd : Kd} {xs : List V} {ds : List D} {G : Hp → Prop} (wk : Walk J xs.length G (YPair (fun i => some (.int (i : Nat))) (fun i => xs[i]?))) (hG : ∀ H', Kp kd S H1 H' → G H') (hT : ∀ b, S b → Mut (H1 b)) (ra : RepAll K H1 S xs ds) :
    Src K S H1 J (enumL 0 ds) kd := by
  refine ⟨_, G, by rw [enumL_length, ← ra.length]; exact wk, hG, fun i H' x H'' S' kp hs' hm hi y => ?_⟩
  obtain ⟨T, x0, y0, rfl, hn, rfl, e1, e2⟩ := y
  cases e1
  obtain ⟨d, hd, rd⟩ := ra.get' e2
  refine ⟨same_upd hn, _, by rw [enumL_get, hd]; rfl, .tup (.inl (.inl upd_same)) (.cons ?_ (.cons ?_ .nil))⟩
  · rw [show 0 + i = i by omega]; exact .int _
  · exact (rd.mono kp.keep hT hs').grow (same_upd hn) hm
theorem si_enum (c : CxOk k N sc X) (hg : glB sc "enumerate" = true) (hm : X.mg "enumerate" = none) (hp : plainE a = true) (ha : SE X exc a f) : SI X exc (.Tuple elts kk tpos) (.Call (.Name "enumerate" p) [a] [] pos) (iEnumD f) := by
  intro S env σ H Rr r q
  refine wI.of (pi_enumA (c.gl hg) hm (pa_cons w_pe pa_nil (star_cons hp)) (star_cons hp)) (ha.seqI r q fun kd d v H1 _ m1 rs1 sr1 p1 => ?_)
  unfold enumD at p1
  dsimp only at p1
  split at p1
  · obtain ⟨b, xs, rfl, l, ra⟩ := (rs1.brep m1 r.trk).lst
    refine ⟨b, rfl, .inl ⟨xs, .inl l, ?_⟩⟩
    -- as a list that is gone through
    obtain ⟨xs2, ra2, hG2⟩ : ∃ xs, RepAll X.K H1 S xs _ ∧ ∀ H', Kp kd S H1 H' → SqL X.K H' b xs := by
      cases rs1 with
      | old rr => cases rr with
        | lst l rr => cases l with
          | trk t n => exact ⟨_, rr, fun H' kp => .inl (t.imp (kp.keep b _ · n) fun ⟨ob, z⟩ => ⟨ob, kp.keep b _ z n⟩)⟩
      | new hn o =>
        cases o.less sr1.trk with
        | lst e rr => exact ⟨_, rr, fun H' kp => .inl (.inl (kp.keep b _ e (not_of_none r.trk hn)))⟩
      | bor hs o => cases o with
        | lst e rr => exact ⟨_, rr, fun H' kp => .inl (.inl (kp b _ e))⟩
    exact p1 _ H1 (Same.refl _) (src_enum walk_enum hG2 sr1.trk ra2)
  · obtain ⟨b, xs, rfl, l, ra⟩ := (rs1.brep m1 r.trk).tup
    refine ⟨b, rfl, .inr ⟨xs, l, p1 _ H1 (Same.refl _) (src_enum walk_enumT (fun H' kp => ?_) sr1.trk ra)⟩⟩
    rcases l with (l | ⟨ob, l⟩) | l
    · exact .inl (.inl (kp.keep b _ l fun q => by have z := sr1.trk b q; rw [l] at z; exact z))
    · exact .inl (.inr ⟨ob, kp.keep b _ l fun q => by have z := sr1.trk b q; rw [l] at z; exact z⟩)
    · exact .inr l
  · exact p1.elim
end
end Rf

namespace Rf
open PySem PySem.Spec L2
open PyProof.Rows hiding St

/-! ### a def -/
def runO (o : SO) : RV := match o with
  | .rt k d => .ok (k, d)
  | .nx _ => okv .none
  | .ex c _ => .ex c
  | _ => .no
/-- the def of the body gb with m further slots, called -/
def runF (m : Nat) (gb : Env → SO) (ds : List D) : RV := runO (gb (ds.map Sl.val ++ List.replicate m .emp))
/-- the world of a law: what all defs see -/
structure Wd where
  P : Program
  w : World
  K : PySem.W.Frag
  mg : Str → Option Value
  base : Heap
/-- a context of that world -/
structure In (W : Wd) (X : Cx) : Prop where
  e1 : X.prog = W.P
  e2 : X.w = W.w
  e3 : X.K = W.K
  e4 : X.mg = W.mg
  e5 : X.base = W.base
/-- the def x of n arguments keeps to g, k calls deep -/
structure Fn (W : Wd) (exc : Nat → Addr) (k : Nat) (x : Str) (n : Nat) (g : List D → RV) : Prop where
  ex : ∃ (f : Addr) (fd : FuncData) (ps : List Str), FnOk W.P W.w W.K W.mg W.base (L2.CX W.P W.w) k f fd ps (spF W.K exc n g) ∧ W.mg x = some (.ref f) ∧ PySem.W.keepIn W.K (.ref f) = true ∧ Binds W.K fd ps []
theorem Fn.mono {W : Wd} {exc : Nat → Addr} {j k : Nat} {x : Str} {n : Nat} {g : List D → RV} (h : Fn W exc j x n g) (l : j ≤ k) : Fn W exc k x n g := by
  obtain ⟨f, fd, ps, a, b⟩ := h.ex
  exact ⟨f, fd, ps, a.mono l, b⟩
theorem Fn.at {W : Wd} {exc : Nat → Addr} {k : Nat} {x : Str} {n : Nat} {g : List D → RV} {X : Cx} (h : Fn W exc k x n g) (i : In W X) : FnAt k exc X x n g := by
  obtain ⟨f, fd, ps, a, b⟩ := h.ex
  obtain ⟨e1, e2, e3, e4, e5⟩ := i
  refine ⟨f, fd, ps, ?_⟩
  rw [e1, e2, e3, e4, e5]
  exact ⟨a, b⟩
theorem start_SR {K : PySem.W.Frag} {H : Hp} {S : Addr → Prop} (hS : ∀ b, S b → Mut (H b)) {vs : List V} {ds : List D} (r : RepAll K H S vs ds) (m : Nat) : SR K S (ds.map Sl.val ++ List.replicate m .emp) (vs.map some ++ List.replicate m none) H := by
  refine ⟨by simp [r.length], hS, fun i sl o e1 e2 => ?_⟩
  by_cases h : i < ds.length
  · rw [List.getElem?_append_left (by simpa using h)] at e1
    rw [List.getElem?_append_left (by simpa [r.length] using h)] at e2
    rw [List.getElem?_map] at e1 e2
    obtain ⟨d, hd, rfl⟩ := Option.map_eq_some_iff.mp e1
    obtain ⟨v, hv, rfl⟩ := Option.map_eq_some_iff.mp e2
    obtain ⟨v', hv', rd⟩ := r.get hd
    rw [hv] at hv'; cases hv'
    exact .val rd
  · rw [List.getElem?_append_right (by simpa using h)] at e1
    have e3 := List.mem_of_getElem? e1
    rw [List.eq_of_mem_replicate e3]
    exact .emp
theorem get_app_own {ds : List D} {m i : Nat} {d : D} (e : (ds.map Sl.val ++ List.replicate m Sl.emp)[i]? = some (Sl.own d)) : False := by
  have z := List.mem_of_getElem? e
  rcases List.mem_append.mp z with z | z
  · obtain ⟨_, _, q⟩ := List.mem_map.mp z; cases q
  · cases List.eq_of_mem_replicate z
theorem start_FR {K : PySem.W.Frag} {H : Hp} {S : Addr → Prop} (hS : ∀ b, S b → Mut (H b)) {vs : List V} {ds : List D} (r : RepAll K H S vs ds) (m : Nat) : FR K H S (List.replicate (ds.length + m) none) (ds.map Sl.val ++ List.replicate m .emp) (vs.map some ++ List.replicate m none) H := by
  have nO : ∀ (i : Nat) (a : Addr), (List.replicate (ds.length + m) (none : Option Addr))[i]? = some (some a) → False := fun i a e => by
    have z := List.eq_of_mem_replicate (List.mem_of_getElem? e); cases z
  have eS : So S (List.replicate (ds.length + m) none) = S := by
    funext b
    exact propext ⟨fun q => q.elim id fun ⟨i, e⟩ => (nO i b e).elim, .inl⟩
  refine ⟨by rw [eS]; exact start_SR hS r m, by simp, fun i d e => (get_app_own e).elim, fun i j a e _ => (nO i a e).elim, fun i a e => (nO i a e).elim, Same.refl H, hS⟩
theorem def_okF {W : Wd} {exc : Nat → Addr} {k : Nat} {x qual : Str} {params : Arguments} {body : List Stmt} {scope : Scope} {f : Addr} {fd : FuncData} {N ps : List Str} {m n : Nat} {gb : Env → SO} (F : FunD W.K x qual params body scope [] [] f fd)
    (S : FnScope N ps scope) (hn : ps.length = n) (hN : N.length = ps.length + m) (hb : ∀ (X : Cx) (H0 : Hp) (S0 : Addr → Prop), In W X → CxF k N scope X → SSs X exc H0 S0 body gb) : FnOk W.P W.w W.K W.mg W.base (L2.CX W.P W.w) (k + 1) f fd ps (spF W.K exc n (runF m gb)) := by
  refine FunD.ok F S (fun vs H Q E h => h.1.trans hn.symm) fun cdv A outer s H vs Q E hr h => ⟨_, w_pss, ?_⟩
  obtain ⟨hl, S0, ds, hS, ra, post⟩ := h
  have hx : (cxOf (L2.CX W.P W.w) W.P W.w W.K W.mg W.base N qual scope f cdv A outer s H E).xe = fun e s' => wpAny (model W.P W.w) (A.deeper (envOfC qual scope s.heap.objs.size f cdv)) (leaving (envOfC qual scope s.heap.objs.size f cdv) e) (fun _ s'' => L2.CX W.P W.w outer H s E e s'') (fun e' s'' => L2.CX W.P W.w outer H s E e' s'') s' := rfl
  have c : CxF k N scope (cxOf (L2.CX W.P W.w) W.P W.w W.K W.mg W.base N qual scope f cdv A outer s H E) :=
    ⟨⟨hr, rfl, S.nd, rfl, S.kind, fun x kd e => .inl e, fun _ _ => rfl⟩, rfl, passes_of hx, rfl, rfl⟩
  have hlen : N.length - vs.length = m := by rw [hN, hl, hn]; omega
  have st : L2.start N vs = vs.map some ++ List.replicate m none := by unfold L2.start; rw [hlen]
  rw [st]
  have fr := start_FR (K := W.K) hS ra m
  refine hb _ H S0 ⟨rfl, rfl, rfl, rfl, rfl⟩ c _ _ _ H _ fr ?_
  unfold runF runO PostF at post
  cases q : gb (ds.map Sl.val ++ List.replicate m .emp) with
  | rt kd d => rw [q] at post; exact post
  | nx env' => rw [q] at post; exact fun os' σ' H' f' ev => post.2 _ H' f'.old (.old .non)
  | ex n env' => rw [q] at post; exact ⟨_, takes_of rfl rfl rfl hx, fun os' σ' H' f' ev => post H' f'.old⟩
  | bk env' => rw [q] at post; exact post.elim
  | ct env' => rw [q] at post; exact post.elim
  | no => rw [q] at post; exact post.elim
theorem def_ok {W : Wd} {exc : Nat → Addr} {k : Nat} {x qual : Str} {params : Arguments} {body : List Stmt} {scope : Scope} {f : Addr} {fd : FuncData} {N ps : List Str} {m n : Nat} {gb : Env → SO} (F : FunD W.K x qual params body scope [] [] f fd)
    (S : FnScope N ps scope) (hn : ps.length = n) (hN : N.length = ps.length + m) (hm : W.mg x = some (.ref f)) (hbd : Binds W.K fd ps []) (hb : ∀ (X : Cx) (H0 : Hp) (S0 : Addr → Prop), In W X → CxF k N scope X → SSs X exc H0 S0 body gb) : Fn W exc (k + 1) x n (runF m gb) :=
  ⟨f, fd, ps, def_okF F S hn hN hb, hm, F.kp, hbd⟩
theorem calm_ok {P : Program} {w : World} {K : PySem.W.Frag} {mg : Str → Option Value} {base : Heap} {k : Nat} {f : Addr} {fd : FuncData} {ps : List Str} {sp : Sp} (F : FnOk P w K mg base (L2.CX P w) k f fd ps sp) : FnOk P w K mg base CX0 k f fd ps (fun vs H Q _ => sp vs H Q fun _ _ _ => False) :=
  ⟨fun vs H Q E h => F.len _ _ _ _ h, fun A outer s H args us vs Q E hr e0 hb r h => codeAny_mono (F.run A outer s H args us vs Q _ hr e0 hb r h) fun r s' q => by
    cases r with
    | error e =>
      obtain ⟨_, _, _, _, _, _, _, _, _, _, _, _, z⟩ := (show L2.CX P w outer H s (fun _ _ _ => False) e s' from q)
      exact z.elim
    | ok fl => cases fl <;> exact q⟩
end Rf

namespace Rf
open PySem PySem.Spec L2
open PyProof.Rows hiding St

/-! ### the pieces as a printer prints them -/
def cN (_ : Env) : RV := okv .none
def cI (i : Int) (_ : Env) : RV := okv (.int i)
def cB (b : Bool) (_ : Env) : RV := okv (.bool b)
def cS (x : Str) (_ : Env) : RV := okv (.str x)
def cD0 (_ : Env) : RV := okn (.dict [])
def varB (N : List Str) (sc : Scope) (i : Nat) (x : Str) : Bool := decide (N[i]? = some x) && visB sc x && !(x == ("__debug__" : Str)) && !(x == ("__classdict__" : Str))
def stoB (N : List Str) (sc : Scope) (i : Nat) (x : Str) : Bool := decide (N[i]? = some x) && locB sc x
def gloB (sc : Scope) (x : Str) : Bool := glB sc x && !(x == ("__debug__" : Str))
def envS (sc : Scope) : PySem.Env := { scope := sc, locals := 0, globals := 0, cells := [] }
theorem varB_ok {N : List Str} {sc : Scope} {i : Nat} {x : Str} (h : varB N sc i x = true) : N[i]? = some x ∧ visB sc x = true ∧ (x == ("__debug__" : Str)) = false ∧ (x == ("__classdict__" : Str)) = false := by
  unfold varB at h
  simp only [Bool.and_eq_true, decide_eq_true_eq, Bool.not_eq_true'] at h
  exact ⟨h.1.1.1, h.1.1.2, h.1.2, h.2⟩
theorem stoB_ok {N : List Str} {sc : Scope} {i : Nat} {x : Str} (h : stoB N sc i x = true) : N[i]? = some x ∧ locB sc x = true := by
  unfold stoB at h
  simp only [Bool.and_eq_true, decide_eq_true_eq] at h
  exact h
theorem gloB_ok {sc : Scope} {x : Str} (h : gloB sc x = true) : glB sc x = true ∧ (x == ("__debug__" : Str)) = false := by
  unfold gloB at h
  simp only [Bool.and_eq_true, Bool.not_eq_true'] at h
  exact h
theorem swapsWith_env {e : Expr} {t : Option Expr} {l : Nat} {env env' : PySem.Env} (h : env.scope = env'.scope) : swapsWith e t l env = swapsWith e t l env' := by
  unfold swapsWith Env.blockKind Env.kindOf
  rw [h]
theorem swappedStores_env {ts : List Expr} {e : Expr} {env env' : PySem.Env} (h : env.scope = env'.scope) : swappedStores ts e env = swappedStores ts e env' := by
  unfold swappedStores Env.blockKind Env.kindOf
  rw [h]
theorem swapsSole_env {ts : List Expr} {e : Expr} {l : Nat} {env env' : PySem.Env} (h : env.scope = env'.scope) : swapsWithSole ts e l env = swapsWithSole ts e l env' := by
  unfold swapsWithSole
  split
  · exact swapsWith_env h
  · rfl
def LenIs (fs : Env → R (List (Kd × D))) (n : Nat) : Prop := ∀ env l, fs env = .ok l → l.length = n
theorem len_nil : LenIs fNil 0 := fun env l h => by cases h; rfl
theorem len_cons {fa : Env → RV} {fr : Env → R (List (Kd × D))} {n : Nat} (h : LenIs fr n) : LenIs (fCons fa fr) (n + 1) := fun env l e => by
  unfold fCons at e
  cases q1 : fa env with
  | no => rw [q1] at e; cases e
  | ex _ => rw [q1] at e; cases e
  | ok x =>
    cases q2 : fr env with
    | no => simp [q1, q2, R.bind] at e
    | ex _ => simp [q1, q2, R.bind] at e
    | ok r => simp only [q1, q2, R.bind, R.ok.injEq] at e; subst e; simp [h env r q2]
section
variable {k : Nat} {N : List Str} {sc : Scope} {W : Wd} {X : Cx} {exc : Nat → Addr} {H0 : Hp} {S0 : Addr → Prop} {x y z : Str} {pos p1 p2 p3 p4 px py pz pt pt2 apos cpos : Pos} {a b e ix tg iter elt : Expr} {es : List Expr} {fa fb fe fi : Env → RV} {fs : Env → R (List (Kd × D))} {ft fu : Env → R Bool} {g h : Env → SO} {st : Stmt} {sts sts' : List Stmt}
theorem In.none (i : In W X) (h : W.mg x = none) : X.mg x = none := by rw [i.e4]; exact h
theorem In.some (i : In W X) {v : Value} (h : W.mg x = some v) : X.mg x = some v := by rw [i.e4]; exact h
theorem In.tr (i : In W X) (pn : List (Addr × Obj)) (xe : Value → Shared → Prop) : In W (X.tr pn xe) := ⟨i.e1, i.e2, i.e3, i.e4, i.e5⟩
theorem In.blk (i : In W X) (scope : Scope) (s : Shared) (H : Hp) (C : Addr) (cl : List (Str × Addr)) (fp : List Addr) : In W (X.blk s H scope (compEnvC scope cl C X.env) fp) := ⟨i.e1, i.e2, i.e3, i.e4, i.e5⟩
theorem xV (c : CxOk k N sc X) {i : Nat} (h : varB N sc i x = true) : SE X exc (.Name x pos) (fV i) := by
  obtain ⟨h1, h2, h3, h4⟩ := varB_ok h
  exact se_v c h1 h2 h3 h4
theorem xN {j : Nat} : SE X exc (.Constant .none j pos) cN := se_none
theorem xI {i : Int} {j : Nat} : SE X exc (.Constant (.int i) j pos) (cI i) := se_int
theorem xB {i : Bool} {j : Nat} : SE X exc (.Constant (.bool i) j pos) (cB i) := se_bl
theorem xS {i : Str} {j : Nat} : SE X exc (.Constant (.str i) j pos) (cS i) := se_str
theorem xGI (c : CxOk k N sc X) {i : Int} (hm : ∃ t, X.mg x = some (.int i t)) (h : gloB sc x = true) : SE X exc (.Name x pos) (cI i) := by
  obtain ⟨t, hm⟩ := hm
  obtain ⟨h1, h2⟩ := gloB_ok h
  exact se_glob (v := .int i) c h1 hm ⟨t, rfl⟩ (fun _ _ => .int i) h2
theorem xGS (c : CxOk k N sc X) {i : Str} (hm : ∃ t, X.mg x = some (.str i t)) (h : gloB sc x = true) : SE X exc (.Name x pos) (cS i) := by
  obtain ⟨t, hm⟩ := hm
  obtain ⟨h1, h2⟩ := gloB_ok h
  exact se_glob (v := .str i) c h1 hm ⟨t, rfl⟩ (fun _ _ => .str i) h2
theorem xD0 : SE X exc (.Dict [] [] pos) cD0 := fun S env σ H Q r p => wE.of pe_dnewK fun q hq => p (.ref q) _ (same_upd hq) (.new hq (.dK upd_same .nil))
theorem xCmp (c : CxOk k N sc X) (o : Co) (hp : plainE b = true) (ha : SE X exc a fa) (hb : SE X exc b fb) : SE X exc (.Compare a [o.op] [b] pos) (fOp (cmpD o) fa fb) := se_cmp c o (plain_marks hp _) ha hb
theorem tCm (c : CxOk k N sc X) (o : Co) (hp : plainE b = true) (ha : SE X exc a fa) (hb : SE X exc b fb) : ST X exc (.Compare a [o.op] [b] pos) (fTst (fOp (cmpD o) fa fb)) := st_cmp c o (plain_marks hp _) ha hb
theorem xCh (c : CxOk k N sc X) (o o' : Co) (hp : plainE e = true) (ha : SE X exc a fa) (hb : SE X exc b fb) (he : SE X exc e fe) : SE X exc (.Compare a [o.op, o'.op] [b, e] pos) (fCh (cmpD o) (cmpD o') fa fb fe) := se_ch c o o' (plain_last hp _ _) ha hb he
theorem tCh (c : CxOk k N sc X) (o o' : Co) (hp : plainE e = true) (ha : SE X exc a fa) (hb : SE X exc b fb) (he : SE X exc e fe) : ST X exc (.Compare a [o.op, o'.op] [b, e] pos) (fTst (fCh (cmpD o) (cmpD o') fa fb fe)) := st_ch c o o' (plain_last hp _ _) ha hb he
theorem xBi (c : CxOk k N sc X) (bi : Bi) (hm : X.mg (Str.ofString bi.id) = none) (h : (glB sc (Str.ofString bi.id) && (e :: es).all plainE) = true) (ha : SA X exc (e :: es) fs) : SE X exc (.Call (.Name (Str.ofString bi.id) p2) (e :: es) [] pos) (fBi bi.fn fs) := by
  obtain ⟨h1, h2⟩ := Bool.and_eq_true_iff.mp h
  exact se_bi c bi h1 hm h2 ha
theorem xIsi (c : CxOk k N sc X) (t : Ty) (hm : X.mg "isinstance" = none) (hm2 : X.mg (Str.ofString t.name) = none) (h : (glB sc "isinstance" && glB sc (Str.ofString t.name) && plainE a) = true) (ha : SE X exc a fa) :
    SE X exc (.Call (.Name "isinstance" p2) [a, .Name (Str.ofString t.name) p3] [] pos) (fIsi t fa) := by
  simp only [Bool.and_eq_true] at h
  exact se_isi c t h.1.1 hm h.1.2 hm2 h.2 ha
theorem xCall (c : CxOk k N sc X) {n : Nat} {G : List D → RV} (i : In W X) (F : Fn W exc k x n G) (hl : LenIs fs n) (h : (gloB sc x && (e :: es).all plainE && decide ((e :: es).length = n)) = true) (ha : SA X exc (e :: es) fs) : SE X exc (.Call (.Name x p2) (e :: es) [] pos) (fCall G fs) := by
  simp only [Bool.and_eq_true, decide_eq_true_eq] at h
  obtain ⟨⟨h1, h2⟩, h3⟩ := h
  obtain ⟨h1, h4⟩ := gloB_ok h1
  exact se_call c (F.at i) h1 h4 h3 h2 ha fun env l q => (hl env l q).trans h3.symm
theorem xLr1 (c : CxOk k N sc X) (hm : X.mg "list" = none) (hm2 : X.mg "range" = none) (h : (glB sc "list" && glB sc "range" && plainE a) = true) (ha : SE X exc a fa) : SE X exc (.Call (.Name "list" p2) [.Call (.Name "range" p3) [a] [] p4] [] pos) (fUn (rgD1 false) fa) := by
  simp only [Bool.and_eq_true] at h
  exact se_lrg1 c h.1.1 hm h.1.2 hm2 h.2 ha
theorem xTr1 (c : CxOk k N sc X) (hm : X.mg "tuple" = none) (hm2 : X.mg "range" = none) (h : (glB sc "tuple" && glB sc "range" && plainE a) = true) (ha : SE X exc a fa) : SE X exc (.Call (.Name "tuple" p2) [.Call (.Name "range" p3) [a] [] p4] [] pos) (fUn (rgD1 true) fa) := by
  simp only [Bool.and_eq_true] at h
  exact se_trg1 c h.1.1 hm h.1.2 hm2 h.2 ha
theorem xLr2 (c : CxOk k N sc X) (hm : X.mg "list" = none) (hm2 : X.mg "range" = none) (h : (glB sc "list" && glB sc "range" && plainE a && plainE b) = true) (ha : SE X exc a fa) (hb : SE X exc b fb) : SE X exc (.Call (.Name "list" p2) [.Call (.Name "range" p3) [a, b] [] p4] [] pos) (fOp (rgD2 false) fa fb) := by
  simp only [Bool.and_eq_true] at h
  exact se_lrg2 c h.1.1.1 hm h.1.1.2 hm2 h.1.2 h.2 ha hb
theorem xTr2 (c : CxOk k N sc X) (hm : X.mg "tuple" = none) (hm2 : X.mg "range" = none) (h : (glB sc "tuple" && glB sc "range" && plainE a && plainE b) = true) (ha : SE X exc a fa) (hb : SE X exc b fb) : SE X exc (.Call (.Name "tuple" p2) [.Call (.Name "range" p3) [a, b] [] p4] [] pos) (fOp (rgD2 true) fa fb) := by
  simp only [Bool.and_eq_true] at h
  exact se_trg2 c h.1.1.1 hm h.1.1.2 hm2 h.1.2 h.2 ha hb
theorem aN : SA X exc [] fNil := sa_nil
theorem aC {fr : Env → R (List (Kd × D))} (hp : plainE e = true) (ha : SE X exc e fa) (hr : SA X exc es fr) : SA X exc (e :: es) (fCons fa fr) := sa_cons (star_cons hp) ha hr
theorem iR1 (c : CxOk k N sc X) (hm : X.mg "range" = none) (h : (glB sc "range" && plainE a) = true) (ha : SE X exc a fa) : SI X exc tg (.Call (.Name "range" p2) [a] [] pos) (iRng1 fa) := by
  obtain ⟨h1, h2⟩ := Bool.and_eq_true_iff.mp h
  exact si_rng1 c h1 hm h2 ha
theorem iR2 (c : CxOk k N sc X) (hm : X.mg "range" = none) (h : (glB sc "range" && plainE a && plainE b) = true) (ha : SE X exc a fa) (hb : SE X exc b fb) : SI X exc tg (.Call (.Name "range" p2) [a, b] [] pos) (iRng2 fa fb) := by
  simp only [Bool.and_eq_true] at h
  exact si_rng2 c h.1.1 hm h.1.2 h.2 ha hb
theorem iEn (c : CxOk k N sc X) {elts : List Expr} {kk : Nat} (hm : X.mg "enumerate" = none) (h : (glB sc "enumerate" && plainE a) = true) (ha : SE X exc a fa) : SI X exc (.Tuple elts kk pt) (.Call (.Name "enumerate" p2) [a] [] pos) (iEnumD fa) := by
  obtain ⟨h1, h2⟩ := Bool.and_eq_true_iff.mp h
  exact si_enum c h1 hm h2 ha
theorem gN (c : CxOk k N sc X) {i : Nat} (h : stoB N sc i x = true) : SG X (.Name x pos) (.n i) := by
  obtain ⟨h1, h2⟩ := stoB_ok h
  exact sg_name c h1 h2
theorem gT (c : CxOk k N sc X) {j : Nat} {Ts : Tgs} {ts : List Expr} (h : (ts.all plainE && decide (Ts.len = ts.length)) = true) (hs : SGs X ts Ts) : SG X (.Tuple ts j pos) (.t Ts) := by
  simp only [Bool.and_eq_true, decide_eq_true_eq] at h
  exact sg_tup c h.1 h.2 hs
theorem xLc {scope : Scope} (c : CxOk k N sc X) {own : List (Str × Nat)} {T : Tg} {src : Env → R (Kd × List D)} (h : (plainE iter && blkB N sc scope own && T.slots.all fun j => (own.map (·.2)).contains j) = true) (hs : SI X exc tg iter src)
    (hg : ∀ Y, CxOk k N scope Y → In W Y → SG Y tg T) (he : ∀ Y, CxOk k N scope Y → In W Y → SE Y exc elt fe) (i : In W X) :
    SE X exc (.ListComp elt [⟨tg, iter, [], 0⟩] scope pos) (fLc (own.map (·.2)) T src none fe) := by
  simp only [Bool.and_eq_true, List.all_eq_true, List.contains_eq_mem, decide_eq_true_eq] at h
  obtain ⟨⟨h1, h2⟩, h3⟩ := h
  have hk : scope.kind = .function := by
    unfold blkB at h2
    simp only [Bool.and_eq_true, decide_eq_true_eq] at h2
    exact h2.1.1.1.1
  exact se_lc c h1 hs (c.blkOk h2) h3 (fun s H C cl fp => hg _ (c.blk hk s H C cl fp) (i.blk scope s H C cl fp)) rfl (fun s H C cl fp => he _ (c.blk hk s H C cl fp) (i.blk scope s H C cl fp))
theorem xLcI {scope : Scope} {cnd : Expr} (c : CxOk k N sc X) {own : List (Str × Nat)} {T : Tg} {src : Env → R (Kd × List D)} (h : (plainE iter && blkB N sc scope own && T.slots.all fun j => (own.map (·.2)).contains j) = true) (hs : SI X exc tg iter src)
    (hg : ∀ Y, CxOk k N scope Y → In W Y → SG Y tg T) (ht : ∀ Y, CxOk k N scope Y → In W Y → ST Y exc cnd ft) (he : ∀ Y, CxOk k N scope Y → In W Y → SE Y exc elt fe) (i : In W X) :
    SE X exc (.ListComp elt [⟨tg, iter, [cnd], 0⟩] scope pos) (fLc (own.map (·.2)) T src (some ft) fe) := by
  simp only [Bool.and_eq_true, List.all_eq_true, List.contains_eq_mem, decide_eq_true_eq] at h
  obtain ⟨⟨h1, h2⟩, h3⟩ := h
  have hk : scope.kind = .function := by
    unfold blkB at h2
    simp only [Bool.and_eq_true, decide_eq_true_eq] at h2
    exact h2.1.1.1.1
  exact se_lc c h1 hs (c.blkOk h2) h3 (fun s H C cl fp => hg _ (c.blk hk s H C cl fp) (i.blk scope s H C cl fp)) ⟨cnd, rfl, fun s H C cl fp => ht _ (c.blk hk s H C cl fp) (i.blk scope s H C cl fp)⟩ (fun s H C cl fp => he _ (c.blk hk s H C cl fp) (i.blk scope s H C cl fp))
/-! statements -/
theorem sSet (c : CxF k N sc X) {i : Nat} (hi : stoB N sc i x = true) (hs : swapsWith e (some (.Name x p1)) pos.line (envS sc) = pure false) (he : SE X exc e fe) : SS X exc H0 S0 (.Assign [.Name x p1] e pos) (fSet i fe) := by
  obtain ⟨h1, h2⟩ := stoB_ok hi
  exact ss_set c h1 h2 ((swapsWith_env (env' := envS sc) c.sco).trans hs) he
theorem ss_setLc (c : CxF k N sc X) {scope : Scope} {ifs : List Expr} {i : Nat} {own : List (Str × Nat)} {T : Tg} {src : Env → R (Kd × List D)} {fc : Option (Env → R Bool)} (hi : N[i]? = some x) (hl : X.env.scope.names.lookup x = some .local) (hw : swapsWith (.ListComp elt [⟨tg, iter, ifs, 0⟩] scope p1) (some (.Name x px)) pos.line X.env = pure true) (hp : plainE iter = true) (hs : SI X exc tg iter src) (ok : BlkOk X.N X.env.scope scope own) (hT : ∀ j ∈ T.slots, j ∈ own.map (·.2))
    (hg : ∀ (s : Shared) (H : Hp) (C : Addr) (cl : List (Str × Addr)) (fp : List Addr), SG (X.blk s H scope (compEnvC scope cl C X.env) fp) tg T)
    (ht : match fc with
      | none => ifs = []
      | some fc => ∃ cnd, ifs = [cnd] ∧ ∀ (s : Shared) (H : Hp) (C : Addr) (cl : List (Str × Addr)) (fp : List Addr), ST (X.blk s H scope (compEnvC scope cl C X.env) fp) exc cnd fc)
    (he : ∀ (s : Shared) (H : Hp) (C : Addr) (cl : List (Str × Addr)) (fp : List Addr), SE (X.blk s H scope (compEnvC scope cl C X.env) fp) exc elt fe) :
    SS X exc H0 S0 (.Assign [.Name x px] (.ListComp elt [⟨tg, iter, ifs, 0⟩] scope p1) pos) (fSet i (fLc (own.map (·.2)) T src fc fe)) := by
  intro os env σ H Ds f p
  obtain ⟨tt, h1, h2⟩ := lc_read c.ok hs ok hT hg ht he
  refine wS.inv fun hln => ?_
  refine wS.of (ps_setLc (own := own) (g := gBlk X scope tg) (tt := tt) (te := eBlk X scope elt) c.ok.calm (by rw [c.ok.nm]; exact c.ok.nd) (by rw [c.ok.nm]; exact hi) hl hw w_pi ok (fun s H0 C cl fp => ⟨fun pins s' σ H v u Q I r h => h s H0 C cl fp pins s' u I r⟩) h1 (fun s H0 C cl fp => ⟨fun pins s' σ H Q I h => h s H0 C cl fp pins s' I⟩) (fun y => plain_set hp y)) ?_
  refine h2 (So S0 os) env σ H _ f.sr ?_
  unfold fSet at p
  cases q : fLc (own.map (·.2)) T src fc fe env with
  | no => rw [q] at p; exact p
  | ex z => rw [q] at p; obtain ⟨W, t, kk⟩ := p; exact ⟨W, t, fun H' m' => kk os σ H' (f.grow m') (Ev.grow m')⟩
  | ok r =>
    obtain ⟨kd, d⟩ := r
    rw [q] at p
    intro v H1 m rs
    have p2 : PostS X exc H0 S0 os H (match kd.nb with | true => SO.nx (env.set i (slOf (kd, d))) | false => .no) Ds := p
    cases nb : kd.nb with
    | false => rw [nb] at p2; exact p2.elim
    | true =>
      rw [nb] at p2
      have hi' : i < env.length := len_lt (by rw [f.sr.len, hln, c.ok.nm]) hi
      obtain ⟨os', f', ev, _⟩ := f.put m i hi' rs nb
      exact p2 os' _ H1 f' ev
def lclB (N : List Str) (sc : Scope) (i : Nat) (x : Str) : Bool := decide (N[i]? = some x) && decide (sc.names.lookup x = some .local)
theorem sSetLc {scope : Scope} (c : CxF k N sc X) {i : Nat} {own : List (Str × Nat)} {T : Tg} {src : Env → R (Kd × List D)} (hi : lclB N sc i x = true) (hw : swapsWith (.ListComp elt [⟨tg, iter, [], 0⟩] scope p1) (some (.Name x px)) pos.line (envS sc) = pure true) (h : (plainE iter && blkB N sc scope own && T.slots.all fun j => (own.map (·.2)).contains j) = true) (hs : SI X exc tg iter src)
    (hg : ∀ Y, CxOk k N scope Y → In W Y → SG Y tg T) (he : ∀ Y, CxOk k N scope Y → In W Y → SE Y exc elt fe) (iw : In W X) :
    SS X exc H0 S0 (.Assign [.Name x px] (.ListComp elt [⟨tg, iter, [], 0⟩] scope p1) pos) (fSet i (fLc (own.map (·.2)) T src none fe)) := by
  simp only [Bool.and_eq_true, List.all_eq_true, List.contains_eq_mem, decide_eq_true_eq] at h
  obtain ⟨⟨h1, h2⟩, h3⟩ := h
  have hk : scope.kind = .function := by
    unfold blkB at h2
    simp only [Bool.and_eq_true, decide_eq_true_eq] at h2
    exact h2.1.1.1.1
  unfold lclB at hi
  simp only [Bool.and_eq_true, decide_eq_true_eq] at hi
  exact ss_setLc c hi.1 (by rw [c.sco]; exact hi.2) ((swapsWith_env (env' := envS sc) c.sco).trans hw) h1 hs (c.ok.blkOk h2) h3 (fun s H C cl fp => hg _ (c.ok.blk hk s H C cl fp) (iw.blk scope s H C cl fp)) rfl (fun s H C cl fp => he _ (c.ok.blk hk s H C cl fp) (iw.blk scope s H C cl fp))
theorem sSetLcI {scope : Scope} {cnd : Expr} (c : CxF k N sc X) {i : Nat} {own : List (Str × Nat)} {T : Tg} {src : Env → R (Kd × List D)} (hi : lclB N sc i x = true) (hw : swapsWith (.ListComp elt [⟨tg, iter, [cnd], 0⟩] scope p1) (some (.Name x px)) pos.line (envS sc) = pure true) (h : (plainE iter && blkB N sc scope own && T.slots.all fun j => (own.map (·.2)).contains j) = true) (hs : SI X exc tg iter src)
    (hg : ∀ Y, CxOk k N scope Y → In W Y → SG Y tg T) (ht : ∀ Y, CxOk k N scope Y → In W Y → ST Y exc cnd ft) (he : ∀ Y, CxOk k N scope Y → In W Y → SE Y exc elt fe) (iw : In W X) :
    SS X exc H0 S0 (.Assign [.Name x px] (.ListComp elt [⟨tg, iter, [cnd], 0⟩] scope p1) pos) (fSet i (fLc (own.map (·.2)) T src (some ft) fe)) := by
  simp only [Bool.and_eq_true, List.all_eq_true, List.contains_eq_mem, decide_eq_true_eq] at h
  obtain ⟨⟨h1, h2⟩, h3⟩ := h
  have hk : scope.kind = .function := by
    unfold blkB at h2
    simp only [Bool.and_eq_true, decide_eq_true_eq] at h2
    exact h2.1.1.1.1
  unfold lclB at hi
  simp only [Bool.and_eq_true, decide_eq_true_eq] at hi
  exact ss_setLc c hi.1 (by rw [c.sco]; exact hi.2) ((swapsWith_env (env' := envS sc) c.sco).trans hw) h1 hs (c.ok.blkOk h2) h3 (fun s H C cl fp => hg _ (c.ok.blk hk s H C cl fp) (iw.blk scope s H C cl fp)) ⟨cnd, rfl, fun s H C cl fp => ht _ (c.ok.blk hk s H C cl fp) (iw.blk scope s H C cl fp)⟩ (fun s H C cl fp => he _ (c.ok.blk hk s H C cl fp) (iw.blk scope s H C cl fp))
theorem sAsg (c : CxF k N sc X) {T : Tg} (hg : SG X tg T) (hs : swapsWithSole [tg] e pos.line (envS sc) = pure false) (hw : swappedStores [tg] e (envS sc) = pure none) (h1 : (assignEach [tg] X.env).map (·.2) = [assign tg X.env]) (he : SE X exc e fe) : SS X exc H0 S0 (.Assign [tg] e pos) (fAsg T fe) :=
  ss_asg hg ((swapsSole_env (env' := envS sc) c.sco).trans hs) ((swappedStores_env (env' := envS sc) c.sco).trans hw) h1 he
theorem sPar (c : CxF k N sc X) {i j : Nat} {kt k2 : Nat} (h : (lclB N sc i x && lclB N sc j y && !Nat.beq i j) = true) (hw : swappedStores [.Tuple [.Name x px, .Name y py] kt pt] (.Tuple [a, b] k2 pt2) (envS sc) = pure (some [x, y])) (ha : SA X exc [a, b] fs) :
    SS X exc H0 S0 (.Assign [.Tuple [.Name x px, .Name y py] kt pt] (.Tuple [a, b] k2 pt2) pos) (fPar i j fs) := by
  unfold lclB at h
  simp only [Bool.and_eq_true, decide_eq_true_eq, Bool.not_eq_true'] at h
  obtain ⟨⟨⟨h1, h2⟩, h3, h4⟩, h5⟩ := h
  exact ss_par c h1 h3 (fun z => by subst z; rw [Nat.beq_refl] at h5; cases h5) (by rw [c.sco]; exact h2) (by rw [c.sco]; exact h4) ((swappedStores_env (env' := envS sc) c.sco).trans hw) ha
theorem sPar3 (c : CxF k N sc X) {i j l : Nat} {kt k2 : Nat} {e2 : Expr} (h : (lclB N sc i x && lclB N sc j y && lclB N sc l z && !Nat.beq i j && !Nat.beq i l && !Nat.beq j l) = true) (hw : swappedStores [.Tuple [.Name x px, .Name y py, .Name z pz] kt pt] (.Tuple [a, b, e2] k2 pt2) (envS sc) = pure (some [x, y, z])) (ha : SA X exc [a, b, e2] fs) :
    SS X exc H0 S0 (.Assign [.Tuple [.Name x px, .Name y py, .Name z pz] kt pt] (.Tuple [a, b, e2] k2 pt2) pos) (fPar3 i j l fs) := by
  unfold lclB at h
  simp only [Bool.and_eq_true, decide_eq_true_eq, Bool.not_eq_true'] at h
  obtain ⟨⟨⟨⟨⟨⟨h1, h2⟩, h3, h4⟩, h5, h6⟩, h7⟩, h8⟩, h9⟩ := h
  have ne : ∀ {i j : Nat}, Nat.beq i j = false → i ≠ j := fun {i j} q z => by subst z; rw [Nat.beq_refl] at q; cases q
  exact ss_par3 c h1 h3 h5 (ne h7) (ne h8) (ne h9) (by rw [c.sco]; exact h2) (by rw [c.sco]; exact h4) (by rw [c.sco]; exact h6) ((swappedStores_env (env' := envS sc) c.sco).trans hw) ha
theorem sRetV (c : CxF k N sc X) {i : Nat} (h : varB N sc i x = true) : SS X exc H0 S0 (.Return (some (.Name x p1)) pos) (fRetV i) := by
  obtain ⟨h1, h2, h3, h4⟩ := varB_ok h
  exact ss_retV c h1 h2 h3 h4
theorem sApp (c : CxF k N sc X) {i : Nat} (h : (varB N sc i x && plainE e && apos.endLine == cpos.line) = true) (hb : attributeBase (.Name x p1) "append" X.env (eval (.Name x p1) X.env) = eval (.Name x p1) X.env) (he : SE X exc e fe) :
    SS X exc H0 S0 (.Expr (.Call (.Attribute (.Name x p1) "append" apos) [e] [] cpos) pos) (fApp i fe) := by
  obtain ⟨h1, h5⟩ := Bool.and_eq_true_iff.mp h
  obtain ⟨h1, h6⟩ := Bool.and_eq_true_iff.mp h1
  obtain ⟨h1, h2, h3, h4⟩ := varB_ok h1
  exact ss_app c h1 h2 h3 h4 hb h5 h6 he
theorem sPut (c : CxF k N sc X) {i : Nat} (h : varB N sc i x = true) (hs : swapsWithSole [.Subscript (.Name x p1) ix p2] e pos.line (envS sc) = pure false)
    (ha : ∀ v, assign (.Subscript (.Name x p1) ix p2) X.env v = (do
      let ov ← holding [v] (eval (.Name x p1) X.env)
      let iv ← holding [v, ov] (eval ix X.env)
      standAt p2
      holding [v, ov, iv] (setItem ov iv v)
      release [v, ov, iv] [])) (he : SE X exc e fe) (hi : SE X exc ix fi) :
    SS X exc H0 S0 (.Assign [.Subscript (.Name x p1) ix p2] e pos) (fPut i fe fi) := by
  obtain ⟨h1, h2, h3, h4⟩ := varB_ok h
  exact ss_put c h1 h2 h3 h4 ((swapsSole_env (env' := envS sc) c.sco).trans hs) ha he hi
theorem sAug (c : CxF k N sc X) (o : Bo) {i : Nat} (h : stoB N sc i x = true) (he : SE X exc e fe) : SS X exc H0 S0 (.AugAssign (.Name x p1) o.op e pos) (fAug o i fe) := by
  obtain ⟨h1, h2⟩ := stoB_ok h
  exact ss_aug c o h1 h2 he
theorem sRaise (c : CxF k N sc X) {n j : Nat} {m : Str} (hx : ExcAt X exc n x) (h : gloB sc x = true) : SS X exc H0 S0 (.Raise (some (.Call (.Name x p1) [.Constant (.str m) j p2] [] p3)) none pos) (fRaise n) := by
  obtain ⟨h1, h2⟩ := gloB_ok h
  exact ss_raise c hx h1 h2
end
/-- an own exception class, in the world of a law -/
structure Exc (W : Wd) (exc : Nat → Addr) (c : Nat) (x : Str) : Prop where
  inn : PySem.W.excIn W.K (exc c) [.type "ValueError", .type "Exception", .type "BaseException", .type "object"] "ValueError.__new__" = true
  glo : W.mg x = some (.ref (exc c))
  kp : PySem.W.keepIn W.K (.ref (exc c)) = true
  su : PySem.W.subIn W.K (.ref (exc c)) (.type "BaseException") = some true
  ty : PySem.W.typeIn W.K (.ref (exc c)) = some (.type "type")
theorem Exc.at {W : Wd} {exc : Nat → Addr} {c : Nat} {x : Str} {X : Cx} (h : Exc W exc c x) (i : In W X) : ExcAt X exc c x := by
  obtain ⟨h1, h2, h3, h4, h5⟩ := h
  obtain ⟨e1, e2, e3, e4, e5⟩ := i
  rw [← e3] at h1 h3 h4 h5
  exact ⟨h1, e4 ▸ h2, h3, raises_own h4 h5⟩
end Rf

namespace Rf
open PySem PySem.Spec L2
open PyProof.Rows hiding St
section
variable {k : Nat} {N : List Str} {sc : Scope} {W : Wd} {X : Cx} {exc : Nat → Addr} {x n : Str} {p1 p2 p3 p4 p5 q1 q2 q3 : Pos} {b : Stmt} {bs : List Stmt}
theorem In.int (i : In W X) {j : Int} (h : ∃ t, W.mg x = Option.some (Value.int j t)) : ∃ t, X.mg x = Option.some (Value.int j t) := by rw [i.e4]; exact h
theorem In.str (i : In W X) {j : Str} (h : ∃ t, W.mg x = Option.some (Value.str j t)) : ∃ t, X.mg x = Option.some (Value.str j t) := by rw [i.e4]; exact h
theorem In.names (i : In W X) {c : Nat} (h : Exc W exc c x) (cx : CxOk k N sc X) (hg : gloB sc x = true) : Names X x (.ref (exc c)) := by
  obtain ⟨h1, h2⟩ := gloB_ok hg
  exact ⟨cx.gl h1, h2, .inl (i.some h.glo)⟩
theorem hsB {h : Nat} {sub : Nat → Bool} {g : Nat → D} {hs : List ExceptHandler} {f : Nat → Option D} (i : In W X) (hn : Names X x (.ref (exc h))) (hm : ∀ c, PySem.W.exmOne W.K (.ref (exc c)) (.ref (exc h)) = some (sub c)) (hf : ∀ c, isFl (g c) = true)
    (hsu : SuB X exc (b :: bs) g) (r : HsOk X exc hs f) : HsOk X exc (.ExceptHandler (some (.Name x p1)) none (b :: bs) p2 :: hs) (fun c => match sub c with | true => some (g c) | false => f c) :=
  .bare hn (by rw [i.e3]; exact hm) hf hsu r
theorem hsN (j : Nat) {h : Nat} {sub : Nat → Bool} {g : Nat → D} {hs : List ExceptHandler} {f : Nat → Option D} (c : CxF k N sc X) (hl : lclB N sc j n = true) (i : In W X) (hn : Names X x (.ref (exc h))) (hm : ∀ c, PySem.W.exmOne W.K (.ref (exc c)) (.ref (exc h)) = some (sub c)) (hf : ∀ c, isFl (g c) = true)
    (hsu : SuN X exc (b :: bs) j g) (r : HsOk X exc hs f) : HsOk X exc (.ExceptHandler (some (.Name x p1)) (some n) (b :: bs) p2 :: hs) (fun c => match sub c with | true => some (g c) | false => f c) := by
  unfold lclB at hl
  simp only [Bool.and_eq_true, decide_eq_true_eq] at hl
  exact .named hn (by rw [i.e3]; exact hm) hf (by rw [c.ok.nm]; exact hl.1) (by show X.env.scope.names.lookup n = _; rw [c.sco]; exact hl.2) hsu r
theorem suIs {j h : Nat} {ans : Nat → Bool} (c : CxF k N sc X) (i : In W X) (hE : ∀ c, ExcC W.K (exc c)) (hk : ∀ c, PySem.W.kitOne W.K (.ref (exc c)) (.ref (exc h)) = some (ans c)) (hB : (varB N sc j n && glB sc "isinstance" && gloB sc x) = true) (hm : W.mg "isinstance" = none) (hx : Exc W exc h x) :
    SuN X exc [.Return (some (.Call (.Name "isinstance" p2) [.Name n p3, .Name x p4] [] p5)) p1] j (fun c => .bool (ans c)) := by
  obtain ⟨hB, h3⟩ := Bool.and_eq_true_iff.mp hB
  obtain ⟨h1, h2⟩ := Bool.and_eq_true_iff.mp hB
  obtain ⟨v1, v2, v3, v4⟩ := varB_ok h1
  obtain ⟨g1, g2⟩ := gloB_ok h3
  exact su_is c (by rw [i.e3]; exact hE) (by rw [i.e3]; exact hk) v1 v2 v3 v4 h2 (i.none hm) g1 (i.some hx.glo) g2
theorem suIfis {j h : Nat} {ans : Nat → Bool} {y z : Str} {j1 j2 : Nat} (c : CxF k N sc X) (i : In W X) (hE : ∀ c, ExcC W.K (exc c)) (hk : ∀ c, PySem.W.kitOne W.K (.ref (exc c)) (.ref (exc h)) = some (ans c)) (hB : (varB N sc j n && glB sc "isinstance" && gloB sc x) = true) (hm : W.mg "isinstance" = none) (hx : Exc W exc h x) :
    SuN X exc [.Return (some (.IfExp (.Call (.Name "isinstance" p2) [.Name n p3, .Name x p4] [] p5) (.Constant (.str y) j1 q1) (.Constant (.str z) j2 q2) q3)) p1] j (fun c => match ans c with | true => .str y | false => .str z) := by
  obtain ⟨hB, h3⟩ := Bool.and_eq_true_iff.mp hB
  obtain ⟨h1, h2⟩ := Bool.and_eq_true_iff.mp hB
  obtain ⟨v1, v2, v3, v4⟩ := varB_ok h1
  obtain ⟨g1, g2⟩ := gloB_ok h3
  exact su_ifis c (by rw [i.e3]; exact hE) (by rw [i.e3]; exact hk) v1 v2 v3 v4 h2 (i.none hm) g1 (i.some hx.glo) g2
end

/-! ### the facts that a law's head tells besides -/
def excCB (K : PySem.W.Frag) (D : Addr) : Bool :=
  decide (PySem.W.findIn K (.ref D) "__getattribute__" = some (some (.builtin "BaseException.__getattribute__"))) && (decide (PySem.W.findIn K (.ref D) "__getattr__" = some none) && (decide (PySem.W.subIn K (.ref D) (.type "BaseException") = some true) && (PySem.W.hasDictIn K D &&
    (decide (PySem.W.findIn K (.ref D) "__class__" = some (some (.builtin "object.__class__"))) && (decide (PySem.W.specialIn K (.builtin "object.__class__") "__get__" = some (some (.builtin "getset_descriptor.__get__"))) && (decide (PySem.W.takesIn K (.builtin "object.__class__") = some true) && decide (PySem.W.mroIn K D (.type "object") = some true)))))))
theorem excCB_ok {K : PySem.W.Frag} {D : Addr} (h : excCB K D = true) : ExcC K D := by
  unfold excCB at h
  simp only [Bool.and_eq_true, decide_eq_true_eq] at h
  obtain ⟨h1, h2, h3, h4, h5, h6, h7, h8⟩ := h
  exact ⟨h1, h2, h3, h4, h5, h6, h7, h8⟩
/-- the classes of l are asked after rightly; the pairs of m answer so -/
def exB (l : List Str) (m : List (Str × Str × Bool)) (K : PySem.W.Frag) : Bool := (l.all fun x => excCB K (He.ga K x)) && m.all fun p => decide (PySem.W.kitOne K (.ref (He.ga K p.1)) (.ref (He.ga K p.2.1)) = some p.2.2)
theorem exB_c {l : List Str} {m : List (Str × Str × Bool)} {K : PySem.W.Frag} (h : exB l m K = true) {x : Str} (hx : x ∈ l) : ExcC K (He.ga K x) := excCB_ok (List.all_eq_true.mp (Bool.and_eq_true_iff.mp h).1 x hx)
theorem exB_k {l : List Str} {m : List (Str × Str × Bool)} {K : PySem.W.Frag} (h : exB l m K = true) {x y : Str} {b : Bool} (hx : (x, y, b) ∈ m) : PySem.W.kitOne K (.ref (He.ga K x)) (.ref (He.ga K y)) = some b := of_decide_eq_true (List.all_eq_true.mp (Bool.and_eq_true_iff.mp h).2 _ hx)
/-- how a def comes from the head's facts -/
theorem Fn.of {W : Wd} {exc : Nat → Addr} {k m n : Nat} {x : Str} {st : Stmt} {N ps : List Str} {gb : Env → SO} {f : Addr} (F : ∃ fd, FunD W.K x x (defArgs st) (defBody st) (defScope st) [] [] f fd) (S : FnScope N ps (defScope st)) (hn : ps.length = n) (hN : N.length = ps.length + m) (hm : W.mg x = some (.ref f))
    (hbd : ∀ (kV doc pm : Value) (an : Option Addr) (cdv ct : Value) (us : List Value), us.length = ps.length → bindArgs (PySem.W.fnOf x x (defArgs st) (defBody st) (defScope st) .none kV doc pm an cdv ct) ⟨us, []⟩ = pure (ps.zip us))
    (hb : ∀ (X : Cx) (H0 : Hp) (S0 : Addr → Prop), In W X → CxF k N (defScope st) X → SSs X exc H0 S0 (defBody st) gb) : Fn W exc (k + 1) x n (runF m gb) := by
  obtain ⟨fd, F⟩ := F
  exact def_ok F S hn hN hm (F.bindsN hbd) hb
/-- the law's own def -/
theorem law_of {W : Wd} {exc : Nat → Addr} {k m : Nat} {x : Str} {st : Stmt} {N : List Str} {p : Str} {gb : Env → SO} {f : Addr} {fd : FuncData} (F : FunD W.K x x (defArgs st) (defBody st) (defScope st) [] [] f fd) (S : FnScope N [p] (defScope st)) (hN : N.length = 1 + m)
    (hb : ∀ (X : Cx) (H0 : Hp) (S0 : Addr → Prop), In W X → CxF k N (defScope st) X → SSs X exc H0 S0 (defBody st) gb) : FnOk W.P W.w W.K W.mg W.base CX0 (k + 1) f fd [p] (fun vs H Q _ => spF W.K exc 1 (runF m gb) vs H Q fun _ _ _ => False) := calm_ok (def_okF F S rfl hN hb)
def scopeB (N ps : List Str) (sc : Scope) : Bool := decide (sc.kind = .function) && (!sc.isCoroutine && (!sc.isGenerator && (decide N.Nodup && (decide (N.take ps.length = ps) && ((ps.all fun x => decide (sc.names.lookup x = some .local) || decide (sc.names.lookup x = some .cell)) && (sc.names.all fun y => decide (y.2 ≠ .free)))))))
theorem scopeB_ok {N ps : List Str} {sc : Scope} (h : scopeB N ps sc = true) : FnScope N ps sc := by
  unfold scopeB at h
  simp only [Bool.and_eq_true, decide_eq_true_eq, Bool.not_eq_true', List.all_eq_true, Bool.or_eq_true] at h
  obtain ⟨h1, h2, h3, h4, h5, h6, h7⟩ := h
  exact ⟨h1, h2, h3, h4, h5, h6, h7⟩
end Rf

namespace Rf
open PySem PySem.Spec L2
open PyProof.Rows hiding St

/-! ### the head's look, lists left out -/
def frN (g : Addr → Option Obj) (as : List Addr) : PySem.W.Frag := (He.frG g as).filter fun q => !decide (q.2.cls = .type "list")
theorem frN_mem {g : Addr → Option Obj} {as : List Addr} {a : Addr} {o : Obj} (h : (frN g as).lookup a = some o) : g a = some o ∧ o.cls ≠ .type "list" := by
  obtain ⟨h1, h2⟩ := List.mem_filter.mp (He.lookup_mem h)
  exact ⟨He.frG_mem h1, fun z => by rw [decide_eq_true z] at h2; cases h2⟩
def NoL (K : PySem.W.Frag) : Prop := ∀ a o, K.lookup a = some o → o.cls ≠ .type "list"
theorem NoL.sq {K : PySem.W.Frag} {H : Hp} {a : Addr} {xs : List V} (n : NoL K) (h : SqL K H a xs) : Rd H a (.lst xs) := by
  rcases h with h | ⟨o, _, _, e, c, _⟩
  · exact h
  · exact absurd c (n a o e)
abbrev AlR : Type := He.AlD × Bool
def obsK (fa : List He.Fa) (fn : List He.DefD) (ex : PySem.W.Frag → Bool) (K : PySem.W.Frag) : AlR := (He.obsD fa fn K, ex K)
def obsR (n : Nat) (fa : List He.Fa) (fn : List He.DefD) (ex : PySem.W.Frag → Bool) (g : Addr → Option Obj) : AlR := obsK fa fn ex (frN g (He.asD g n))
structure SaysR (fa : List He.Fa) (fn : List He.DefD) (ex : PySem.W.Frag → Bool) (h : Heap) (K : PySem.W.Frag) : Prop where
  kin : K.In h
  nol : NoL K
  d : He.SaysD fa fn K
  ex : ex K = true
def hookR (n : Nat) (fa : List He.Fa) (fn : List He.DefD) (ex : PySem.W.Frag → Bool) : PySem.W.Hook where
  α := AlR
  obs := fun s => obsR n fa fn ex s.heap.get?
  val := fun _ => (He.valD fn, true)
  says := fun _ h => ∃ K : PySem.W.Frag, SaysR fa fn ex h K
  of := fun _ _ e => ⟨_, fun _ _ z => (frN_mem z).1, fun _ _ z => (frN_mem z).2, congrArg (fun z : AlR => z.1) e, congrArg (fun z : AlR => z.2) e⟩
  keeps := fun _ _ _ ⟨K, c⟩ k => ⟨K, PySem.W.Frag.In.keeps c.kin k, c.nol, c.d, c.ex⟩
theorem obsR_eq {n : Nat} {fa : List He.Fa} {fn : List He.DefD} {ex : PySem.W.Frag → Bool} {g : Addr → Option Obj} {s : Shared} (h : ∀ a, g a = s.heap.get? a) : obsR n fa fn ex g = (hookR n fa fn ex).obs s := by
  have e : g = s.heap.get? := funext h
  rw [e] <;> rfl
/-- what the law's end wants of its def -/
theorem spF_end {K : PySem.W.Frag} {exc : Nat → Addr} {g : List D → RV} {H : Hp} {a : Addr} {ns : List Int} (n : NoL K) (hS : SqL K H a (ns.map V.int)) (e : g [.list (ns.map PyData.int)] = .ok (.old, .bool true)) : spF K exc 1 g [.ref a] H (fun v _ => v = .bl true) (fun _ _ _ => False) := by
  refine ⟨rfl, fun _ => False, [.list (ns.map PyData.int)], fun _ z => z.elim, .cons (.lst (.trk (n.sq hS) (fun z => z)) RepAll.ofInts) .nil, ?_⟩
  rw [e]
  exact ⟨rfl, fun v H' _ rs => by cases rs; rename_i o; cases o; rfl⟩
end Rf

namespace Rf
open PySem

/-! ### data told by Lean values -/
structure Enc {β : Type} [DecidableEq β] (e : β → D) (k : Nat) : Prop where
  lay : ∀ x, (e x).canLay0 = true
  dep : ∀ x, (e x).depth ≤ k
  eq : ∀ x y, PyData.eqv (e x) (e y) = decide (x = y)
theorem Enc.int : Enc PyData.int 0 := ⟨fun x => by simp [PyData.canLay0], fun x => by simp [PyData.depth], fun x y => by simp only [PyData.eqv]; by_cases h : x = y <;> simp [h]⟩
section
variable {β γ : Type} [DecidableEq β] [DecidableEq γ] {e : β → D} {f : γ → D} {k j : Nat}
theorem Enc.layAll (h : Enc e k) (l : List β) : PyData.canLayAll0 (l.map e) = true := by
  induction l with
  | nil => simp [PyData.canLayAll0]
  | cons x l ih => simp [PyData.canLayAll0, h.lay x, ih]
theorem Enc.depAll (h : Enc e k) (l : List β) : PyData.depthAll (l.map e) ≤ k := by
  induction l with
  | nil => simp [PyData.depthAll]
  | cons x l ih => rw [List.map_cons, PyData.depthAll]; exact Nat.max_le.mpr ⟨h.dep x, ih⟩
theorem Enc.eqAll (h : Enc e k) (l m : List β) : PyData.eqvAll (l.map e) (m.map e) = decide (l = m) := by
  induction l generalizing m with
  | nil => cases m <;> simp [PyData.eqvAll]
  | cons x l ih =>
    cases m with
    | nil => simp [PyData.eqvAll]
    | cons y m =>
      rw [List.map_cons, List.map_cons, PyData.eqvAll, h.eq, ih]
      by_cases h1 : x = y <;> by_cases h2 : l = m <;> simp [h1, h2]
theorem Enc.tup (h : Enc e k) : Enc (fun l : List β => PyData.tuple (l.map e)) (k + 1) :=
  ⟨fun l => by simp only [PyData.canLay0]; exact h.layAll l, fun l => by simp only [PyData.depth]; exact Nat.succ_le_succ (h.depAll l), fun l m => by simp only [PyData.eqv]; exact h.eqAll l m⟩
theorem Enc.lst (h : Enc e k) : Enc (fun l : List β => PyData.list (l.map e)) (k + 1) :=
  ⟨fun l => by simp only [PyData.canLay0]; exact h.layAll l, fun l => by simp only [PyData.depth]; exact Nat.succ_le_succ (h.depAll l), fun l m => by simp only [PyData.eqv]; exact h.eqAll l m⟩
theorem Enc.pair (h : Enc e k) (h2 : Enc f j) : Enc (fun p : β × γ => PyData.tuple [e p.1, f p.2]) (max k j + 1) :=
  ⟨fun p => by simp [PyData.canLay0, PyData.canLayAll0, h.lay, h2.lay], fun p => by
    simp only [PyData.depth, PyData.depthAll]
    have a := h.dep p.1
    have b := h2.dep p.2
    omega, fun p q => by
    simp only [PyData.eqv, PyData.eqvAll, h.eq, h2.eq, Bool.and_true]
    by_cases h1 : p.1 = q.1 <;> by_cases h2 : p.2 = q.2 <;> simp [h1, h2, Prod.ext_iff]⟩
theorem Enc.shaped (h : Enc e k) (hk : k ≤ 64) (x : β) : SeqAt.shaped (e x) = true := by
  unfold SeqAt.shaped
  rw [h.lay x, Bool.true_and, decide_eq_true (Nat.le_trans (h.dep x) hk)]
theorem Enc.ceq (h : Enc e k) (hk : k ≤ 64) (x y : β) : cmpD .eq (e x) (e y) = okv (.bool (decide (x = y))) := by
  show chk (SeqAt.shaped (e x) && SeqAt.shaped (e y)) (okv (.bool (PyData.eqv (e x) (e y)))) = _
  rw [h.shaped hk, h.shaped hk, h.eq]; rfl
theorem Enc.cne (h : Enc e k) (hk : k ≤ 64) (x y : β) : cmpD .ne (e x) (e y) = okv (.bool (!decide (x = y))) := by
  show chk (SeqAt.shaped (e x) && SeqAt.shaped (e y)) (okv (.bool (!PyData.eqv (e x) (e y)))) = _
  rw [h.shaped hk, h.shaped hk, h.eq]; rfl
end
theorem ceqI (i j : Int) : cmpD .eq (.int i) (.int j) = okv (.bool (decide (i = j))) := Enc.int.ceq (by decide) i j
theorem cneI (i j : Int) : cmpD .ne (.int i) (.int j) = okv (.bool (!decide (i = j))) := Enc.int.cne (by decide) i j

/-! ### running statements -/
theorem seq_nx {g h : Env → SO} {env env' : Env} {r : SO} (h1 : g env = .nx env') (h2 : h env' = r) : fSeq g h env = r := by unfold fSeq sseq; rw [h1]; exact h2
theorem set_nx {i : Nat} {fe : Env → RV} {env : Env} {p : Kd × D} (h : fe env = .ok p) (nb : p.1.nb = true) : fSet i fe env = .nx (env.set i (slOf p)) := by unfold fSet sbind; rw [h]; dsimp only; rw [nb]
theorem asg_nx {T : Tg} {fe : Env → RV} {env env' : Env} {p : Kd × D} (h : fe env = .ok p) (nb : p.1.nb = true) (hs : setT T p.2 env = .ok env') : fAsg T fe env = .nx env' := by unfold fAsg sbind; rw [h]; dsimp only; unfold asgD; rw [nb]; dsimp only; rw [hs]
theorem par_nx {i j : Nat} {fs : Env → R (List (Kd × D))} {env : Env} {p q : Kd × D} (h : fs env = .ok [p, q]) (nb : (p.1.nb && q.1.nb) = true) : fPar i j fs env = .nx ((env.set i (slOf p)).set j (slOf q)) := by unfold fPar sbindA; rw [h]; dsimp only; unfold par2; dsimp only; rw [nb]
theorem app_nx {i : Nat} {fe : Env → RV} {env : Env} {p : Kd × D} {ds : List D} (hi : env[i]? = some (.own (.list ds))) (h : fe env = .ok p) (nb : p.1.nb = true) (hl : ds.length < 16777216) : fApp i fe env = .nx (env.set i (.own (.list (ds ++ [p.2])))) := by
  unfold fApp sbind; rw [hi]; dsimp only; rw [h]; dsimp only; unfold appD; rw [nb]; dsimp only
  have : Nat.ble 16777216 ds.length = false := by
    cases e : Nat.ble 16777216 ds.length with
    | false => rfl
    | true => exact absurd (Nat.le_of_ble_eq_true e) (by omega)
  rw [this]
theorem aug_nx {o : Bo} {i : Nat} {fe : Env → RV} {env : Env} {p q : Kd × D} {d : D} (hi : env[i]? = some (.val d)) (h : fe env = .ok p) (ho : augD o d p.2 = .ok q) : fAug o i fe env = .nx (env.set i (.val q.2)) := by
  unfold fAug sbind; rw [hi]; dsimp only; rw [h]; dsimp only; rw [ho]
theorem if_t {ft : Env → R Bool} {ga gb : Env → SO} {env : Env} {r : SO} (h : ft env = .ok true) (h2 : ga env = r) : fIfS ft ga gb env = r := by unfold fIfS sbindT; rw [h]; exact h2
theorem if_f {ft : Env → R Bool} {ga gb : Env → SO} {env : Env} {r : SO} (h : ft env = .ok false) (h2 : gb env = r) : fIfS ft ga gb env = r := by unfold fIfS sbindT; rw [h]; exact h2
theorem ret_rt {fe : Env → RV} {env : Env} {p : Kd × D} (h : fe env = .ok p) (nb : p.1.nb = true) : fRet fe env = .rt p.1 p.2 := by unfold fRet sbind; rw [h]; dsimp only; rw [nb]
theorem expr_nx {fe : Env → RV} {env : Env} {p : Kd × D} (h : fe env = .ok p) : fExpr fe env = .nx env := by unfold fExpr sbind; rw [h]
theorem call_ok {g : List D → RV} {fs : Env → R (List (Kd × D))} {env : Env} {l : List (Kd × D)} {p : Kd × D} (h : fs env = .ok l) (hn : nbs l = true) (hg : g (l.map (·.2)) = .ok p) (nb : p.1.nb = true) : fCall g fs env = .ok p := by
  unfold fCall R.bind; rw [h]; dsimp only; rw [hn]; show (g (l.map (·.2))).bind _ = _; rw [hg]; show chk p.1.nb (.ok p) = _; rw [nb]; rfl
theorem run_of {m : Nat} {gb : Env → SO} {ds : List D} {o : SO} {r : RV} (h : gb (ds.map Sl.val ++ List.replicate m .emp) = o) (h2 : runO o = r) : runF m gb ds = r := by unfold runF; rw [h]; exact h2

/-- a for, the list of what is done growing -/
theorem for_ok {β : Type} {T : Tg} {gb : Env → SO} {src : Env → R (Kd × List D)} {env : Env} {kd : Kd} {enc : β → D} {items : List β} (I : List β → Env → Prop) (hs : src env = .ok (kd, items.map enc)) (nb : kd.nb = true) (h0 : I [] env)
    (step : ∀ (done rest : List β) (x : β) (env : Env), items = done ++ x :: rest → I done env → ∃ env1 env', setT T (enc x) env = .ok env1 ∧ gb env1 = .nx env' ∧ I (done ++ [x]) env') : ∃ env', fFor T src gb env = .nx env' ∧ I items env' := by
  have main : ∀ (rest done : List β) (env : Env), items = done ++ rest → I done env → ∃ env', fForL T gb (rest.map enc) env = .nx env' ∧ I items env' := by
    intro rest
    induction rest with
    | nil => intro done env e hi; rw [List.append_nil] at e; subst e; exact ⟨env, rfl, hi⟩
    | cons x rest ih =>
      intro done env e hi
      obtain ⟨env1, env2, e1, e2, hi2⟩ := step done rest x env e hi
      obtain ⟨env', e3, h3⟩ := ih (done ++ [x]) env2 (by rw [e]; simp) hi2
      refine ⟨env', ?_, h3⟩
      rw [List.map_cons]
      unfold fForL forStep
      rw [e1]; dsimp only; rw [e2]; exact e3
  obtain ⟨env', e, h⟩ := main items [] env rfl h0
  refine ⟨env', ?_, h⟩
  unfold fFor
  rw [hs]; dsimp only; rw [nb]; exact e
/-- a while, with its measure -/
theorem while_ok {ft : Env → R Bool} {gb : Env → SO} {fu : Nat} {env : Env} (I : Nat → Env → Prop) (P : Env → Prop) (m : Nat) (h0 : I m env) (hm : m < fu)
    (step : ∀ m env, I m env → (ft env = .ok false ∧ P env) ∨ (ft env = .ok true ∧ ∃ m' env', m' < m ∧ gb env = .nx env' ∧ I m' env')) : ∃ env', fWhile ft gb fu env = .nx env' ∧ P env' := by
  induction fu generalizing m env with
  | zero => omega
  | succ n ih =>
    unfold fWhile sbindT
    rcases step m env h0 with ⟨e, p⟩ | ⟨e, m', env', lt, e2, h'⟩
    · rw [e]; exact ⟨env, rfl, p⟩
    · rw [e]; dsimp only; rw [e2]
      exact ih m' h' (by omega)
/-- a comprehension without a test -/
theorem lc_ok {β : Type} {own : List Nat} {T : Tg} {src : Env → R (Kd × List D)} {fe : Env → RV} {env : Env} {kd : Kd} {enc : β → D} {items : List β} {f : β → D} (hs : src env = .ok (kd, items.map enc)) (hl : items.length ≤ 16777216)
    (step : ∀ x ∈ items, ∃ env' p, setT T (enc x) (wipeE env own) = .ok env' ∧ fe env' = .ok p ∧ p.1.nb = true ∧ p.2 = f x) : fLc own T src none fe env = .ok (.new, .list (items.map f)) := by
  have main : ∀ l : List β, (∀ x ∈ l, x ∈ items) → lcL (lcStep own T none fe env) (l.map enc) = .ok (l.map f) := by
    intro l
    induction l with
    | nil => intro _; rfl
    | cons x l ih =>
      intro h
      obtain ⟨env', p, e1, e2, nb, ef⟩ := step x (h x List.mem_cons_self)
      have h1 : lcStep own T none fe env (enc x) = .ok (some (f x)) := by
        unfold lcStep R.bind; rw [e1]; dsimp only; rw [e2]; unfold noexV; dsimp only; rw [nb, ef]
      rw [List.map_cons]
      unfold lcL
      rw [h1, ih fun y hy => h y (List.mem_cons_of_mem _ hy)]
      rfl
  unfold fLc R.bind
  rw [hs]; dsimp only
  rw [List.length_map, Nat.ble_eq_true_of_le hl]; dsimp only
  rw [main items fun _ h => h]
  rfl
/-- a comprehension with a test -/
theorem lcI_ok {β : Type} {own : List Nat} {T : Tg} {src : Env → R (Kd × List D)} {fc : Env → R Bool} {fe : Env → RV} {env : Env} {kd : Kd} {enc : β → D} {items : List β} {f : β → D} {t : β → Bool} (hs : src env = .ok (kd, items.map enc)) (hl : items.length ≤ 16777216)
    (step : ∀ x ∈ items, ∃ env', setT T (enc x) (wipeE env own) = .ok env' ∧ fc env' = .ok (t x) ∧ (t x = true → ∃ p, fe env' = .ok p ∧ p.1.nb = true ∧ p.2 = f x)) : fLc own T src (some fc) fe env = .ok (.new, .list ((items.filter t).map f)) := by
  have main : ∀ l : List β, (∀ x ∈ l, x ∈ items) → lcL (lcStep own T (some fc) fe env) (l.map enc) = .ok ((l.filter t).map f) := by
    intro l
    induction l with
    | nil => intro _; rfl
    | cons x l ih =>
      intro h
      obtain ⟨env', e1, e2, e3⟩ := step x (h x List.mem_cons_self)
      rw [List.map_cons]
      unfold lcL
      cases ht : t x with
      | false =>
        have h1 : lcStep own T (some fc) fe env (enc x) = .ok none := by
          unfold lcStep R.bind; rw [e1]; dsimp only; rw [e2, ht]; rfl
        rw [h1, ih fun y hy => h y (List.mem_cons_of_mem _ hy), List.filter_cons_of_neg (by simp [ht])]
        rfl
      | true =>
        obtain ⟨p, e4, nb, ef⟩ := e3 ht
        have h1 : lcStep own T (some fc) fe env (enc x) = .ok (some (f x)) := by
          unfold lcStep R.bind; rw [e1]; dsimp only; rw [e2, ht]; unfold noexB; dsimp only; rw [e4]; unfold noexV; dsimp only; rw [nb, ef]
        rw [h1, ih fun y hy => h y (List.mem_cons_of_mem _ hy), List.filter_cons_of_pos (by simp [ht])]
        rfl
  unfold fLc R.bind
  rw [hs]; dsimp only
  rw [List.length_map, Nat.ble_eq_true_of_le hl]; dsimp only
  rw [main items fun _ h => h]
  rfl
/-! ### items -/
theorem atI_nat {α : Type} {l : List α} {i : Int} (h0 : 0 ≤ i) (h1 : i < l.length) : L2.atI l i = l[i.toNat]? := by
  unfold L2.atI L2.ixN
  rw [if_pos h0, if_pos h1]; rfl
theorem ixT {β : Type} {e : β → D} {l : List β} {i : Int} {x : β} (h0 : 0 ≤ i) (h : l[i.toNat]? = some x) : ixD (.tuple (l.map e)) (.int i) = okv (e x) := by
  have h1 := (List.getElem?_eq_some_iff.mp h).1
  show (match L2.atI (l.map e) i with | some d => okv d | none => R.no) = _
  rw [atI_nat h0 (by rw [List.length_map]; omega), List.getElem?_map, h]; rfl
theorem ixL {β : Type} {e : β → D} {l : List β} {i : Int} {x : β} (h0 : 0 ≤ i) (h : l[i.toNat]? = some x) : ixD (.list (l.map e)) (.int i) = okv (e x) := by
  have h1 := (List.getElem?_eq_some_iff.mp h).1
  show (match L2.atI (l.map e) i with | some d => okv d | none => R.no) = _
  rw [atI_nat h0 (by rw [List.length_map]; omega), List.getElem?_map, h]; rfl
theorem sl_take {ds : List D} {k : Nat} : cutD ds none (some (k : Int)) = ds.take k := by
  unfold cutD
  rw [HT.sIx_none, HT.sIx_nat, List.drop_zero, Nat.sub_zero]
  by_cases h : k ≤ ds.length
  · rw [Nat.min_eq_left h]
  · rw [Nat.min_eq_right (by omega), List.take_length, List.take_of_length_le (by omega)]
theorem sl_drop {ds : List D} {k : Nat} : cutD ds (some (k : Int)) none = ds.drop k := by
  unfold cutD
  rw [HT.sIx_none, HT.sIx_nat]
  by_cases h : k ≤ ds.length
  · rw [Nat.min_eq_left h, List.take_of_length_le (by simp)]
  · rw [Nat.min_eq_right (by omega), List.drop_eq_nil_of_le (Nat.le_refl _), List.drop_eq_nil_of_le (by omega)]
    simp
theorem rgL_map (n : Nat) : rgL n 0 = (List.range n).map fun i => ((i : Nat) : Int) := by rw [rgL_eq]; simp
theorem ble_big {n : Nat} (h : n ≤ 100000) : Nat.ble n 16777216 = true := Nat.ble_eq_true_of_le (Nat.le_trans h (by decide))
theorem rgB_nat {n : Nat} (h : n ≤ 100000) : rgB 0 (n : Int) = true := by
  have e : ((n : Int) - 0).toNat = n := by omega
  have h1 : decide (-(2 ^ 62) ≤ (0 : Int)) = true := decide_eq_true (by omega)
  have h2 : decide ((0 : Int) < 2 ^ 62) = true := decide_eq_true (by omega)
  have h3 : decide (-(2 ^ 62) ≤ (n : Int)) = true := decide_eq_true (by omega)
  have h4 : decide ((n : Int) < 2 ^ 62) = true := decide_eq_true (by omega)
  unfold rgB
  rw [e, h1, h2, h3, h4, ble_big h]; rfl
theorem rgItems_t {a b : Int} (h : rgB a b = true) : rgItems a b = .ok (.old, (rgL (b - a).toNat a).map .int) := by
  unfold rgItems
  split
  · rfl
  · rename_i h2; rw [h] at h2; cases h2
theorem rg_ok {n : Nat} (h : n ≤ 100000) : rgItems 0 (n : Int) = .ok (.old, ((List.range n).map fun i => ((i : Nat) : Int)).map .int) := by
  have e : ((n : Int) - 0).toNat = n := by omega
  rw [rgItems_t (rgB_nat h), e, rgL_map]
theorem log2_le {x : Nat} (h : x < 2 ^ 200) : Nat.ble (Nat.log2 x) 20000 = true := by
  by_cases h0 : x = 0
  · subst h0; rfl
  · exact Nat.ble_eq_true_of_le (Nat.le_trans (Nat.le_of_lt ((Nat.log2_lt h0).mpr h)) (by omega))
end Rf

namespace Rf
open PySem
/-! ### the draws that every law makes -/
def drawsB : Env → SO := (fSeq (fSet 2 (fLst fNil)) (fSeq (fSet 3 (cI 7)) (fSeq (fFor (.n 4) (iSeq (fSlH (fV 0) (cI 63))) (fSeq (fSet 6 (fBi (Bi.fn .abs) (fCons (fV 4) fNil))) (fSeq (fSet 3 (fOp (Bo.fn .mod) (fBi (Bi.fn .int) (fCons (fOp (Bo.fn .add) (fOp (Bo.fn .add) (fOp (Bo.fn .mul) (fV 3) (cI 48271)) (fV 6)) (cI 11)) fNil)) (cI 2147483647))) (fIfS (fTst (fOp (cmpD .ge) (fV 6) (fOp (Bo.fn .pow) (cI 10) (cI 18)))) (fFor (.n 5) (iRng1 (cI 60)) (fIfS (fTst (fOp (cmpD .gt) (fV 6) (cI 0))) (fSeq (fApp 2 (fOp (Bo.fn .mod) (fBi (Bi.fn .int) (fCons (fV 6) fNil)) (cI 1009))) (fSet 6 (fOp (Bo.fn .fdiv) (fV 6) (cI 1009)))) fPass)) (fApp 2 (fOp (Bo.fn .mod) (fOp (Bo.fn .fdiv) (fBi (Bi.fn .int) (fCons (fOp (Bo.fn .add) (fOp (Bo.fn .mul) (fV 3) (cI 16807)) (cI 5)) fNil)) (cI 3)) (cI 65521))))))) (fSeq (fFor (.n 5) (iRng1 (fV 1)) (fIfS (fTst (fOp (cmpD .lt) (fBi (Bi.fn .len) (fCons (fV 2) fNil)) (fV 1))) (fSeq (fSet 3 (fOp (Bo.fn .mod) (fBi (Bi.fn .int) (fCons (fOp (Bo.fn .add) (fOp (Bo.fn .add) (fOp (Bo.fn .mul) (fV 3) (cI 69621)) (fV 5)) (cI 1)) fNil)) (cI 2147483647))) (fApp 2 (fOp (Bo.fn .mod) (fOp (Bo.fn .fdiv) (fBi (Bi.fn .int) (fCons (fV 3) fNil)) (cI 7)) (cI 65521)))) fPass)) (fRet (fSlH (fV 2) (fV 1)))))))
theorem mulI {i j : Int} (h1 : i.natAbs < 2 ^ 200) (h2 : j.natAbs < 2 ^ 200) : mulD (.int i) (.int j) = okv (.int (i * j)) := by
  show chk (Nat.ble (Nat.log2 i.natAbs) 20000 && Nat.ble (Nat.log2 j.natAbs) 20000) (okv (.int (i * j))) = _
  rw [log2_le h1, log2_le h2]; rfl
theorem modI {i j : Int} (h : 0 < j) : modD (.int i) (.int j) = okv (.int (i % j)) := by
  show chk (decide (0 < j)) _ = _
  rw [decide_eq_true h]; rfl
theorem modE {i j : Int} (h : 0 < j) : Bo.fn .mod (.int i) (.int j) = .ok (.old, .int (i % j)) := modI h
theorem mulE {i j : Int} (h1 : i.natAbs < 2 ^ 200) (h2 : j.natAbs < 2 ^ 200) : Bo.fn .mul (.int i) (.int j) = .ok (.old, .int (i * j)) := mulI h1 h2
def Dr (l : List Int) : Prop := ∀ x ∈ l, 0 ≤ x ∧ x < 65521
theorem Dr.app {l : List Int} {x : Int} (h : Dr l) (h0 : 0 ≤ x) (h1 : x < 65521) : Dr (l ++ [x]) := fun y hy => by
  rcases List.mem_append.mp hy with hy | hy
  · exact h y hy
  · rw [List.mem_singleton.mp hy]; exact ⟨h0, h1⟩
theorem iSeq_new {fa : Env → RV} {env : Env} {k : Kd} {ds : List D} (h : fa env = .ok (k, .list ds)) : iSeq fa env = .ok (k, ds) := by unfold iSeq R.bind; rw [h]; rfl
theorem iR1_ok {fa : Env → RV} {env : Env} {k : Kd} {n : Nat} (h : fa env = .ok (k, .int n)) (hn : n ≤ 100000) : iRng1 fa env = .ok (.old, ((List.range n).map fun i => ((i : Nat) : Int)).map .int) := by
  unfold iRng1 R.bind; rw [h]; exact rg_ok hn
def dE (S : D) (many : Nat) (l : List Int) (seed : Int) (s4 s5 s6 : Sl) : Env := [.val S, .val (.int many), .own (.list (l.map .int)), .val (.int seed), s4, s5, s6]
def SeedOk (s : Int) : Prop := 0 ≤ s ∧ s < 2147483647
theorem seed_mul {s : Int} (h : SeedOk s) {c : Int} (hc : 0 ≤ c) (hc2 : c < 2 ^ 40) : mulD (.int s) (.int c) = okv (.int (s * c)) := by
  obtain ⟨h1, h2⟩ := h
  refine mulI ?_ ?_
  · have : s.natAbs < 2 ^ 40 := by omega
    exact Nat.lt_of_lt_of_le this (by decide)
  · have : c.natAbs < 2 ^ 40 := by omega
    exact Nat.lt_of_lt_of_le this (by decide)
theorem mod_seed (x : Int) : SeedOk (x % 2147483647) := ⟨Int.emod_nonneg _ (by decide), Int.emod_lt_of_pos _ (by decide)⟩
theorem op_ok {o : D → D → RV} {fa fb : Env → RV} {env : Env} {p q : Kd × D} {r : RV} (h1 : fa env = .ok p) (h2 : fb env = .ok q) (h : o p.2 q.2 = r) : fOp o fa fb env = r := by unfold fOp R.bind; rw [h1]; dsimp only; rw [h2]; exact h
theorem bi1_ok {o : List D → RV} {fa : Env → RV} {env : Env} {p : Kd × D} {r : RV} (h1 : fa env = .ok p) (h : o [p.2] = r) : fBi o (fCons fa fNil) env = r := by unfold fBi fCons R.bind; rw [h1]; exact h
theorem tst_ok {fa : Env → RV} {env : Env} {k : Kd} {b : Bool} (h : fa env = .ok (k, .bool b)) : fTst fa env = .ok b := by unfold fTst R.bind; rw [h]; rfl
section
variable {S : D} {many : Nat}
/-- what a cell's digits give -/
theorem draw_inner {l : List Int} {seed number : Int} {s4 s5 : Sl} (hl : Dr l) (hb : l.length ≤ 10000) :
    ∃ env', fFor (.n 5) (iRng1 (cI 60)) (fIfS (fTst (fOp (cmpD .gt) (fV 6) (cI 0))) (fSeq (fApp 2 (fOp (Bo.fn .mod) (fBi (Bi.fn .int) (fCons (fV 6) fNil)) (cI 1009))) (fSet 6 (fOp (Bo.fn .fdiv) (fV 6) (cI 1009)))) fPass) (dE S many l seed s4 s5 (.val (.int number))) = .nx env' ∧
      ∃ l' s5' s6', env' = dE S many l' seed s4 s5' s6' ∧ Dr l' ∧ l'.length ≤ l.length + 60 := by
  have step : ∀ (done rest : List Int) (x : Int) (env : Env), (List.range 60).map (fun i => ((i : Nat) : Int)) = done ++ x :: rest → (∃ l' s5' nb, env = dE S many l' seed s4 s5' (.val (.int nb)) ∧ Dr l' ∧ l'.length ≤ l.length + done.length) →
      ∃ env1 env', setT (.n 5) (.int x) env = .ok env1 ∧ fIfS (fTst (fOp (cmpD .gt) (fV 6) (cI 0))) (fSeq (fApp 2 (fOp (Bo.fn .mod) (fBi (Bi.fn .int) (fCons (fV 6) fNil)) (cI 1009))) (fSet 6 (fOp (Bo.fn .fdiv) (fV 6) (cI 1009)))) fPass env1 = .nx env' ∧
        ∃ l' s5' nb, env' = dE S many l' seed s4 s5' (.val (.int nb)) ∧ Dr l' ∧ l'.length ≤ l.length + (done ++ [x]).length := by
    rintro done rest x env hi ⟨l', s5', nb, rfl, h1, h2⟩
    have hd : done.length < 60 := by
      have := congrArg List.length hi
      simp at this; omega
    by_cases hp : 0 < nb
    · refine ⟨dE S many l' seed s4 (.val (.int x)) (.val (.int nb)), dE S many (l' ++ [nb % 1009]) seed s4 (.val (.int x)) (.val (.int (nb / 1009))), rfl, if_t ?_ (seq_nx (app_nx (ds := l'.map .int) rfl (p := (.old, .int (nb % 1009))) (op_ok (p := (.old, .int nb)) (q := (.old, .int 1009)) rfl rfl (modE (by decide))) rfl (by rw [List.length_map]; omega)) ?_), l' ++ [nb % 1009], _, _, rfl, ?_, ?_⟩
      · show R.ok (decide (0 < nb)) = _
        rw [decide_eq_true hp]
      · unfold dE
        rw [List.map_append]
        rfl
      · exact h1.app (Int.emod_nonneg _ (by decide)) (Int.lt_trans (Int.emod_lt_of_pos _ (by decide)) (by decide))
      · simp; omega
    · refine ⟨dE S many l' seed s4 (.val (.int x)) (.val (.int nb)), dE S many l' seed s4 (.val (.int x)) (.val (.int nb)), rfl, if_f ?_ rfl, l', _, _, rfl, h1, by simp; omega⟩
      show R.ok (decide (0 < nb)) = _
      rw [decide_eq_false hp]
  obtain ⟨env', e, l', s5', nb, rfl, h1, h2⟩ := for_ok (β := Int) (enc := .int) (items := (List.range 60).map fun i => ((i : Nat) : Int)) (kd := .old) (env := dE S many l seed s4 s5 (.val (.int number))) (T := .n 5) (src := iRng1 (cI 60))
    (fun done env => ∃ l' s5' nb, env = dE S many l' seed s4 s5' (.val (.int nb)) ∧ Dr l' ∧ l'.length ≤ l.length + done.length) (iR1_ok (n := 60) (k := .old) rfl (by decide)) rfl ⟨l, s5, number, rfl, hl, by simp⟩ step
  exact ⟨_, e, l', s5', _, rfl, h1, by simpa using h2⟩
def drawCell : Env → SO := (fSeq (fSet 6 (fBi (Bi.fn .abs) (fCons (fV 4) fNil))) (fSeq (fSet 3 (fOp (Bo.fn .mod) (fBi (Bi.fn .int) (fCons (fOp (Bo.fn .add) (fOp (Bo.fn .add) (fOp (Bo.fn .mul) (fV 3) (cI 48271)) (fV 6)) (cI 11)) fNil)) (cI 2147483647))) (fIfS (fTst (fOp (cmpD .ge) (fV 6) (fOp (Bo.fn .pow) (cI 10) (cI 18)))) (fFor (.n 5) (iRng1 (cI 60)) (fIfS (fTst (fOp (cmpD .gt) (fV 6) (cI 0))) (fSeq (fApp 2 (fOp (Bo.fn .mod) (fBi (Bi.fn .int) (fCons (fV 6) fNil)) (cI 1009))) (fSet 6 (fOp (Bo.fn .fdiv) (fV 6) (cI 1009)))) fPass)) (fApp 2 (fOp (Bo.fn .mod) (fOp (Bo.fn .fdiv) (fBi (Bi.fn .int) (fCons (fOp (Bo.fn .add) (fOp (Bo.fn .mul) (fV 3) (cI 16807)) (cI 5)) fNil)) (cI 3)) (cI 65521))))))
theorem pow18 : powD (.int 10) (.int 18) = okv (.int (10 ^ 18)) := rfl
theorem draw_cell {l : List Int} {seed x : Int} {s4 s5 s6 : Sl} (hl : Dr l) (hs : SeedOk seed) (hb : l.length ≤ 5000) :
    ∃ env', drawCell (dE S many l seed (.val (.int x)) s5 s6) = .nx env' ∧ ∃ l' seed' s5' s6', env' = dE S many l' seed' (.val (.int x)) s5' s6' ∧ Dr l' ∧ SeedOk seed' ∧ l'.length ≤ l.length + 60 := by
  have e1 : fSet 6 (fBi (Bi.fn .abs) (fCons (fV 4) fNil)) (dE S many l seed (.val (.int x)) s5 s6) = .nx (dE S many l seed (.val (.int x)) s5 (.val (.int (if x < 0 then -x else x)))) := rfl
  generalize (if x < 0 then -x else x) = number at e1
  have e2 : fSet 3 (fOp (Bo.fn .mod) (fBi (Bi.fn .int) (fCons (fOp (Bo.fn .add) (fOp (Bo.fn .add) (fOp (Bo.fn .mul) (fV 3) (cI 48271)) (fV 6)) (cI 11)) fNil)) (cI 2147483647)) (dE S many l seed (.val (.int x)) s5 (.val (.int number))) = .nx (dE S many l ((seed * 48271 + number + 11) % 2147483647) (.val (.int x)) s5 (.val (.int number))) :=
    set_nx (p := (.old, .int ((seed * 48271 + number + 11) % 2147483647))) (op_ok (p := (.old, .int (seed * 48271 + number + 11))) (q := (.old, .int 2147483647)) (bi1_ok (p := (.old, .int (seed * 48271 + number + 11))) (op_ok (p := (.old, .int (seed * 48271 + number))) (q := (.old, .int 11)) (op_ok (p := (.old, .int (seed * 48271))) (q := (.old, .int number)) (op_ok (p := (.old, .int seed)) (q := (.old, .int 48271)) rfl rfl (seed_mul hs (by decide) (by decide))) rfl rfl) rfl rfl) rfl) rfl (modE (by decide))) rfl
  have hs2 := mod_seed (seed * 48271 + number + 11)
  generalize (seed * 48271 + number + 11) % 2147483647 = seed2 at e2 hs2
  by_cases hp : (10 : Int) ^ 18 ≤ number
  · obtain ⟨env', e3, l', s5', s6', rfl, h1, h2⟩ := draw_inner (S := S) (many := many) (l := l) (seed := seed2) (number := number) (s4 := .val (.int x)) (s5 := s5) hl (by omega)
    refine ⟨_, seq_nx e1 (seq_nx e2 (if_t (tst_ok (k := .old) (op_ok (p := (.old, .int number)) (q := (.old, .int (10 ^ 18))) rfl (op_ok (p := (.old, .int 10)) (q := (.old, .int 18)) rfl rfl pow18) ?_)) e3)), l', _, _, _, rfl, h1, hs2, h2⟩
    show okv (.bool (decide ((10 : Int) ^ 18 ≤ number))) = _
    rw [decide_eq_true hp]; rfl
  · refine ⟨dE S many (l ++ [(seed2 * 16807 + 5) / 3 % 65521]) seed2 (.val (.int x)) s5 (.val (.int number)), seq_nx e1 (seq_nx e2 (if_f (tst_ok (k := .old) (op_ok (p := (.old, .int number)) (q := (.old, .int (10 ^ 18))) rfl (op_ok (p := (.old, .int 10)) (q := (.old, .int 18)) rfl rfl pow18) ?_)) ?_)), _, _, _, _, rfl, hl.app (Int.emod_nonneg _ (by decide)) (Int.emod_lt_of_pos _ (by decide)), hs2, by simp⟩
    · show okv (.bool (decide ((10 : Int) ^ 18 ≤ number))) = _
      rw [decide_eq_false hp]; rfl
    · refine (app_nx (ds := l.map .int) rfl (p := (.old, .int ((seed2 * 16807 + 5) / 3 % 65521))) (op_ok (p := (.old, .int ((seed2 * 16807 + 5) / 3))) (q := (.old, .int 65521)) (op_ok (p := (.old, .int (seed2 * 16807 + 5))) (q := (.old, .int 3)) (bi1_ok (p := (.old, .int (seed2 * 16807 + 5))) (op_ok (p := (.old, .int (seed2 * 16807))) (q := (.old, .int 5)) (op_ok (p := (.old, .int seed2)) (q := (.old, .int 16807)) rfl rfl (seed_mul hs2 (by decide) (by decide))) rfl rfl) rfl) rfl rfl) rfl (modE (by decide))) rfl (by rw [List.length_map]; omega)).trans ?_
      unfold dE
      rw [List.map_append]
      rfl
def drawMore : Env → SO := (fIfS (fTst (fOp (cmpD .lt) (fBi (Bi.fn .len) (fCons (fV 2) fNil)) (fV 1))) (fSeq (fSet 3 (fOp (Bo.fn .mod) (fBi (Bi.fn .int) (fCons (fOp (Bo.fn .add) (fOp (Bo.fn .add) (fOp (Bo.fn .mul) (fV 3) (cI 69621)) (fV 5)) (cI 1)) fNil)) (cI 2147483647))) (fApp 2 (fOp (Bo.fn .mod) (fOp (Bo.fn .fdiv) (fBi (Bi.fn .int) (fCons (fV 3) fNil)) (cI 7)) (cI 65521)))) fPass)
theorem draw_more {l : List Int} {seed x : Int} {s4 s6 : Sl} (hl : Dr l) (hs : SeedOk seed) (hb : l.length ≤ 10000) :
    ∃ env', drawMore (dE S many l seed s4 (.val (.int x)) s6) = .nx env' ∧ ∃ l' seed', env' = dE S many l' seed' s4 (.val (.int x)) s6 ∧ Dr l' ∧ SeedOk seed' ∧ l'.length ≤ l.length + 1 ∧ (l'.length = l.length + 1 ∨ many ≤ l'.length) := by
  by_cases hp : (l.length : Int) < many
  · have hs2 := mod_seed (seed * 69621 + x + 1)
    refine ⟨dE S many (l ++ [(seed * 69621 + x + 1) % 2147483647 / 7 % 65521]) ((seed * 69621 + x + 1) % 2147483647) s4 (.val (.int x)) s6, if_t ?_ (seq_nx (env' := dE S many l ((seed * 69621 + x + 1) % 2147483647) s4 (.val (.int x)) s6) (set_nx (p := (.old, .int ((seed * 69621 + x + 1) % 2147483647))) (op_ok (p := (.old, .int (seed * 69621 + x + 1))) (q := (.old, .int 2147483647)) (bi1_ok (p := (.old, .int (seed * 69621 + x + 1))) (op_ok (p := (.old, .int (seed * 69621 + x))) (q := (.old, .int 1)) (op_ok (p := (.old, .int (seed * 69621))) (q := (.old, .int x)) (op_ok (p := (.old, .int seed)) (q := (.old, .int 69621)) rfl rfl (seed_mul hs (by decide) (by decide))) rfl rfl) rfl rfl) rfl) rfl (modE (by decide))) rfl) ?_), _, _, rfl, hl.app (Int.emod_nonneg _ (by decide)) (Int.emod_lt_of_pos _ (by decide)), hs2, by simp, .inl (by simp)⟩
    · show R.ok (decide (((l.map PyData.int).length : Int) < many)) = _
      rw [List.length_map, decide_eq_true hp]
    · refine (app_nx (ds := l.map .int) rfl (p := (.old, .int ((seed * 69621 + x + 1) % 2147483647 / 7 % 65521))) (op_ok (p := (.old, .int ((seed * 69621 + x + 1) % 2147483647 / 7))) (q := (.old, .int 65521)) rfl rfl (modE (by decide))) rfl (by rw [List.length_map]; omega)).trans ?_
      unfold dE
      rw [List.map_append]
      rfl
  · refine ⟨_, if_f ?_ rfl, l, seed, rfl, hl, hs, by omega, .inr (by omega)⟩
    show R.ok (decide (((l.map PyData.int).length : Int) < many)) = _
    rw [List.length_map, decide_eq_false hp]
end
theorem draws_ok (ns : List Int) (hns : ns.length ≤ 63) (many : Nat) (hm : many ≤ 1000) : ∃ l : List Int, l.length = many ∧ Dr l ∧ runF 5 drawsB [.list (ns.map .int), .int many] = .ok (.new, .list (l.map .int)) := by
  have h63 : cutD (ns.map PyData.int) none (some (63 : Int)) = (ns.take 63).map PyData.int := by
    rw [show (63 : Int) = ((63 : Nat) : Int) from rfl, sl_take, List.map_take]
  obtain ⟨env1, e1, l1, seed1, s4, s5, s6, rfl, hl1, hs1, hb1⟩ := for_ok (β := Int) (enc := .int) (items := ns.take 63) (kd := .new) (env := dE (.list (ns.map .int)) many [] 7 .emp .emp .emp) (T := .n 4) (src := iSeq (fSlH (fV 0) (cI 63))) (gb := drawCell)
    (fun done env => ∃ l seed s4 s5 s6, env = dE (.list (ns.map .int)) many l seed s4 s5 s6 ∧ Dr l ∧ SeedOk seed ∧ l.length ≤ 60 * done.length)
    (iSeq_new (k := .new) (by show okn (.list (cutD _ _ _)) = _; rw [h63]; rfl)) rfl ⟨[], 7, .emp, .emp, .emp, rfl, (fun _ h => by cases h), ⟨by decide, by decide⟩, by simp⟩ (by
      rintro done rest x env hi ⟨l, seed, u4, u5, u6, rfl, hl, hs, hb⟩
      have hd : done.length ≤ 63 := by
        have := congrArg List.length hi
        simp at this; omega
      obtain ⟨env', e, l', seed', v5, v6, rfl, h1, h2, h3⟩ := draw_cell (S := .list (ns.map .int)) (many := many) (l := l) (seed := seed) (x := x) (s4 := u4) (s5 := u5) (s6 := u6) hl hs (by omega)
      exact ⟨_, _, rfl, e, l', seed', _, v5, v6, rfl, h1, h2, by simp; omega⟩)
  have hb1' : l1.length ≤ 3780 := by simp at hb1; omega
  obtain ⟨env2, e2, l2, seed2, t4, t5, t6, rfl, hl2, hs2, hb2, hc2⟩ := for_ok (β := Int) (enc := .int) (items := (List.range many).map fun i => ((i : Nat) : Int)) (kd := .old) (env := dE (.list (ns.map .int)) many l1 seed1 s4 s5 s6) (T := .n 5) (src := iRng1 (fV 1)) (gb := drawMore)
    (fun done env => ∃ l seed s4 s5 s6, env = dE (.list (ns.map .int)) many l seed s4 s5 s6 ∧ Dr l ∧ SeedOk seed ∧ l.length ≤ 3780 + done.length ∧ (done.length ≤ l.length ∨ many ≤ l.length))
    (iR1_ok (n := many) (k := .old) rfl (by omega)) rfl ⟨l1, seed1, s4, s5, s6, rfl, hl1, hs1, by simp; omega, .inl (by simp)⟩ (by
      rintro done rest x env hi ⟨l, seed, u4, u5, u6, rfl, hl, hs, hb, hc⟩
      have hd : done.length < many := by
        have := congrArg List.length hi
        simp at this; omega
      obtain ⟨env', e, l', seed', rfl, h1, h2, h3, h4⟩ := draw_more (S := .list (ns.map .int)) (many := many) (l := l) (seed := seed) (x := x) (s4 := u4) (s6 := u6) hl hs (by omega)
      exact ⟨_, _, rfl, e, l', seed', _, _, _, rfl, h1, h2, by simp; omega, by simp; omega⟩)
  have hlen : many ≤ l2.length := by simp at hc2; omega
  refine ⟨l2.take many, by rw [List.length_take]; omega, fun x hx => hl2 x (List.mem_of_mem_take hx), ?_⟩
  refine run_of (o := .rt .new (.list ((l2.take many).map .int))) (seq_nx rfl (seq_nx (env' := dE (.list (ns.map .int)) many [] 7 .emp .emp .emp) rfl (seq_nx e1 (seq_nx e2 (ret_rt (p := (.new, .list ((l2.take many).map .int))) ?_ rfl))))) rfl
  show okn (.list (cutD (l2.map PyData.int) none (some (many : Int)))) = _
  rw [sl_take, List.map_take]; rfl
end Rf

namespace Rf
open PySem
/-! ### a drawn order of places, a drawn move -/
def orderB : Env → SO := (fSeq (fPar 3 4 (fCons (fUn (rgD1 false) (fV 1)) (fCons (fLst fNil) fNil))) (fSeq (fFor (.n 2) (iRng1 (fV 1)) (fSeq (fSet 5 (fOp ixD (fV 3) (fOp (Bo.fn .mod) (fBi (Bi.fn .int) (fCons (fOp ixD (fV 0) (fV 2)) fNil)) (fBi (Bi.fn .len) (fCons (fV 3) fNil))))) (fSeq (fFz [5] (fApp 4 (fV 5))) (fSet 3 (fLc [6] (.n 6) (iSeq (fV 3)) (some (fTst (fOp (cmpD .ne) (fV 6) (fV 5)))) (fV 6)))))) (fRetV 4)))
theorem filter_ne_length {l : List Int} {x : Int} (nd : l.Nodup) (h : x ∈ l) : (l.filter fun y => !decide (y = x)).length = l.length - 1 := by
  have e : (l.filter fun y => !decide (y = x)) = l.erase x := by
    rw [nd.erase_eq_filter]
    refine List.filter_congr fun y _ => ?_
    by_cases q : y = x <;> simp [q]
  rw [e, List.length_erase_of_mem h]
theorem range_ints_nodup (n : Nat) : ((List.range n).map fun i => ((i : Nat) : Int)).Nodup := by
  rw [List.Nodup, List.pairwise_map]
  exact List.nodup_range.imp fun h z => h (by omega)
theorem rg1_ok {n : Nat} (h : n ≤ 100000) (t : Bool) : rgD1 t (.int n) = if t then okv (.tuple (((List.range n).map fun i => ((i : Nat) : Int)).map .int)) else okn (.list (((List.range n).map fun i => ((i : Nat) : Int)).map .int)) := by
  have e : ((n : Int) - 0).toNat = n := by omega
  show chk (rgB 0 n) (if t then okv (.tuple ((rgL ((n : Int) - 0).toNat 0).map .int)) else okn (.list ((rgL ((n : Int) - 0).toNat 0).map .int))) = _
  rw [rgB_nat h, e, rgL_map]; rfl
theorem un_ok {o : D → RV} {fa : Env → RV} {env : Env} {p : Kd × D} {r : RV} (h1 : fa env = .ok p) (h : o p.2 = r) : fUn o fa env = r := by unfold fUn R.bind; rw [h1]; exact h
theorem cons_ok {fa : Env → RV} {fr : Env → R (List (Kd × D))} {env : Env} {p : Kd × D} {l : List (Kd × D)} (h1 : fa env = .ok p) (h2 : fr env = .ok l) : fCons fa fr env = .ok (p :: l) := by unfold fCons R.bind; rw [h1]; dsimp only; rw [h2]
theorem order_ok (l : List Int) (hl : ∀ x ∈ l, 0 ≤ x) (n : Nat) (hn : n ≤ l.length) (hn2 : n ≤ 1000) : ∃ p : List Int, p.length = n ∧ p.Nodup ∧ (∀ x ∈ p, 0 ≤ x ∧ x < n) ∧ runF 5 orderB [.list (l.map .int), .int n] = .ok (.new, .list (p.map .int)) := by
  obtain ⟨env1, e1, f, r, s2, s5, s6, rfl, h1, h2, h3, h4⟩ := for_ok (β := Int) (enc := .int) (items := (List.range n).map fun i => ((i : Nat) : Int)) (kd := .old)
    (env := [.val (.list (l.map .int)), .val (.int n), .emp, .own (.list (((List.range n).map fun i => ((i : Nat) : Int)).map .int)), .own (.list []), .emp, .emp]) (T := .n 2) (src := iRng1 (fV 1))
    (gb := (fSeq (fSet 5 (fOp ixD (fV 3) (fOp (Bo.fn .mod) (fBi (Bi.fn .int) (fCons (fOp ixD (fV 0) (fV 2)) fNil)) (fBi (Bi.fn .len) (fCons (fV 3) fNil))))) (fSeq (fFz [5] (fApp 4 (fV 5))) (fSet 3 (fLc [6] (.n 6) (iSeq (fV 3)) (some (fTst (fOp (cmpD .ne) (fV 6) (fV 5)))) (fV 6))))))
    (fun done env => ∃ (f r : List Int) (s2 s5 s6 : Sl), env = [.val (.list (l.map .int)), .val (.int n), s2, .own (.list (r.map .int)), .own (.list (f.map .int)), s5, s6] ∧ f.length = done.length ∧ r.length = n - done.length ∧ (f ++ r).Nodup ∧ ∀ x ∈ f ++ r, 0 ≤ x ∧ x < n)
    (iR1_ok (n := n) (k := .old) rfl (by omega)) rfl ⟨[], _, _, _, _, rfl, rfl, by simp, by simpa using range_ints_nodup n, fun x hx => by
      simp only [List.nil_append, List.mem_map, List.mem_range] at hx
      obtain ⟨i, hi, rfl⟩ := hx
      omega⟩ (by
      rintro done rest x env hi ⟨f, r, s2, s5, s6, rfl, h1, h2, h3, h4⟩
      have hd : done.length < n := by
        have := congrArg List.length hi
        simp at this; omega
      have hx : x = (done.length : Int) := by
        have e : ((List.range n).map fun i => ((i : Nat) : Int))[done.length]? = some x := by rw [hi]; simp
        rw [List.getElem?_map, List.getElem?_range hd] at e
        simpa using e.symm
      subst hx
      have hl2 : done.length < l.length := by omega
      obtain ⟨dr, hdr⟩ : ∃ d, l[done.length]? = some d := ⟨_, List.getElem?_eq_getElem hl2⟩
      have hr : 0 < r.length := by omega
      have hj0 : 0 ≤ dr % (r.length : Int) := Int.emod_nonneg _ (by omega)
      have hj1 : dr % (r.length : Int) < r.length := Int.emod_lt_of_pos _ (by omega)
      obtain ⟨one, hone⟩ : ∃ o, r[(dr % (r.length : Int)).toNat]? = some o := ⟨_, List.getElem?_eq_getElem (by omega)⟩
      have hmem : one ∈ r := List.mem_of_getElem? hone
      have ndr : r.Nodup := (List.nodup_append.mp h3).2.1
      refine ⟨_, [.val (.list (l.map .int)), .val (.int n), .val (.int done.length), .own (.list ((r.filter fun y => !decide (y = one)).map .int)), .own (.list ((f ++ [one]).map .int)), .val (.int one), s6], rfl,
        seq_nx (env' := [.val (.list (l.map .int)), .val (.int n), .val (.int done.length), .own (.list (r.map .int)), .own (.list (f.map .int)), .val (.int one), s6]) (set_nx (p := (.old, .int one)) ?_ rfl)
          (seq_nx (env' := [.val (.list (l.map .int)), .val (.int n), .val (.int done.length), .own (.list (r.map .int)), .own (.list ((f ++ [one]).map .int)), .val (.int one), s6]) ?_ ?_), f ++ [one], r.filter fun y => !decide (y = one), _, _, _, rfl, by simp [h1], by rw [filter_ne_length ndr hmem, h2]; simp; omega, ?_, ?_⟩
      · refine op_ok (p := (.bor, .list (r.map .int))) (q := (.old, .int (dr % (r.length : Int)))) rfl ?_ (ixL hj0 hone)
        refine op_ok (p := (.old, .int dr)) (q := (.old, .int (r.length : Int))) (bi1_ok (p := (.old, .int dr)) (op_ok (p := (.old, .list (l.map .int))) (q := (.old, .int done.length)) rfl rfl (ixL (by omega) (by simpa using hdr))) rfl) (by show okv (.int ((r.map PyData.int).length : Nat)) = _; rw [List.length_map]; rfl) (modE (by omega))
      · refine (app_nx (ds := f.map .int) rfl (p := (.old, .int one)) rfl rfl (by rw [List.length_map]; omega)).trans ?_
        rw [List.map_append]; rfl
      · refine set_nx (p := (.new, .list ((r.filter fun y => !decide (y = one)).map .int))) ?_ rfl
        refine lcI_ok (β := Int) (enc := .int) (kd := .bor) (items := r) (f := .int) (t := fun y => !decide (y = one)) rfl (by omega) fun y hy => ⟨_, rfl, tst_ok (k := .old) (op_ok (p := (.old, .int y)) (q := (.old, .int one)) rfl rfl (cneI y one)), fun _ => ⟨(.old, .int y), rfl, rfl, rfl⟩⟩
      · obtain ⟨n1, n2, n3⟩ := List.nodup_append.mp h3
        rw [List.append_assoc]
        refine List.nodup_append.mpr ⟨n1, ?_, fun a ha b hb => ?_⟩
        · rw [List.singleton_append, List.nodup_cons]
          exact ⟨fun z => by simp at z, List.Nodup.sublist List.filter_sublist n2⟩
        · rw [List.singleton_append, List.mem_cons] at hb
          rcases hb with rfl | hb
          · exact n3 a ha _ hmem
          · exact n3 a ha _ (List.mem_filter.mp hb).1
      · intro y hy
        simp only [List.append_assoc, List.singleton_append, List.mem_append, List.mem_cons] at hy
        rcases hy with hy | rfl | hy
        · exact h4 y (by simp [hy])
        · exact h4 _ (by simp [hmem])
        · exact h4 y (by simp [(List.mem_filter.mp hy).1]))
  have hfl : f.length = n := by simpa using h1
  have hr0 : r = [] := by
    have : r.length = 0 := by rw [h2]; simp
    exact List.length_eq_zero_iff.mp this
  subst hr0
  rw [List.append_nil] at h3 h4
  refine ⟨f, hfl, h3, h4, run_of (o := .rt .new (.list (f.map .int))) (seq_nx (par_nx (p := (.new, .list (((List.range n).map fun i => ((i : Nat) : Int)).map .int))) (q := (.new, .list [])) ?_ rfl) (seq_nx e1 rfl)) rfl⟩
  exact cons_ok (un_ok (p := (.old, .int n)) rfl (rg1_ok (by omega) false)) rfl
end Rf

namespace Rf
open PySem
/-! ### moves, told by lists of pairs -/
abbrev Mv := List (Int × Int)
def eP (p : Int × Int) : D := .tuple [.int p.1, .int p.2]
def eM (m : Mv) : D := .tuple (m.map eP)
theorem encP : Enc eP 1 := Enc.int.pair Enc.int
theorem encM : Enc eM 2 := encP.tup
def atM (m : Mv) (i : Int) : Int × Int := m.getD i.toNat (0, 0)
def comp (a b : Mv) : Mv := a.map fun p => ((atM b p.1).1, (p.2 + (atM b p.1).2) % 4)
def restM (n : Nat) : Mv := (List.range n).map fun i => (((i : Nat) : Int), 0)
def itM (m : Mv) : Nat → Mv
  | 0 => restM m.length
  | k + 1 => comp (itM m k) m
/-- a move of n places -/
structure VM (n : Nat) (m : Mv) : Prop where
  len : m.length = n
  nd : (m.map (·.1)).Nodup
  rg : ∀ p ∈ m, 0 ≤ p.1 ∧ p.1 < n
  tn : ∀ p ∈ m, 0 ≤ p.2 ∧ p.2 < 4
theorem atM_get {m : Mv} {i : Nat} (h : i < m.length) : m[i]? = some (atM m i) := by
  unfold atM
  rw [Int.toNat_natCast, List.getD_eq_getElem?_getD, List.getElem?_eq_getElem h]; rfl
theorem atM_mem {m : Mv} {i : Int} (h0 : 0 ≤ i) (h : i < m.length) : atM m i ∈ m := by
  have e : ((i.toNat : Nat) : Int) = i := by omega
  rw [← e]
  exact List.mem_of_getElem? (atM_get (by omega))
section
variable {n : Nat} {m : Mv}
theorem VM.s_rg (v : VM n m) {x : Int} (h0 : 0 ≤ x) (h : x < n) : 0 ≤ (atM m x).1 ∧ (atM m x).1 < n := v.rg _ (atM_mem h0 (by rw [v.len]; exact h))
theorem VM.t_rg (v : VM n m) {x : Int} (h0 : 0 ≤ x) (h : x < n) : 0 ≤ (atM m x).2 ∧ (atM m x).2 < 4 := v.tn _ (atM_mem h0 (by rw [v.len]; exact h))
theorem VM.inj (v : VM n m) {x y : Int} (x0 : 0 ≤ x) (x1 : x < n) (y0 : 0 ≤ y) (y1 : y < n) (h : (atM m x).1 = (atM m y).1) : x = y := by
  have ex : ((x.toNat : Nat) : Int) = x := by omega
  have ey : ((y.toNat : Nat) : Int) = y := by omega
  have lx : x.toNat < (m.map (·.1)).length := by rw [List.length_map, v.len]; omega
  have ly : y.toNat < (m.map (·.1)).length := by rw [List.length_map, v.len]; omega
  have gx : (m.map (·.1))[x.toNat] = (atM m x).1 := by
    have := atM_get (m := m) (i := x.toNat) (by simpa using lx)
    rw [ex] at this
    rw [List.getElem_map]
    rw [List.getElem?_eq_getElem (by simpa using lx)] at this
    rw [Option.some.inj this]
  have gy : (m.map (·.1))[y.toNat] = (atM m y).1 := by
    have := atM_get (m := m) (i := y.toNat) (by simpa using ly)
    rw [ey] at this
    rw [List.getElem_map]
    rw [List.getElem?_eq_getElem (by simpa using ly)] at this
    rw [Option.some.inj this]
  have pw := List.pairwise_iff_getElem.mp v.nd
  rcases Nat.lt_trichotomy x.toNat y.toNat with q | q | q
  · exact absurd (by rw [gx, gy, h]) (pw _ _ lx ly q)
  · omega
  · exact absurd (by rw [gx, gy, h]) (pw _ _ ly lx q)
end
/-! ### pigeons -/
theorem nodup_le : ∀ (n : Nat) (l : List Int), l.Nodup → (∀ x ∈ l, 0 ≤ x ∧ x < n) → l.length ≤ n
  | 0, l, _, h => by
    cases l with
    | nil => simp
    | cons x l => have := h x List.mem_cons_self; omega
  | n + 1, l, nd, h => by
    have ih := nodup_le n (l.erase (n : Int)) (List.Nodup.sublist List.erase_sublist nd) (fun x hx => by
      have hm := List.mem_of_mem_erase hx
      have hne : x ≠ (n : Int) := fun z => by
        rw [z, nd.erase_eq_filter] at hx
        simp at hx
      have := h x hm
      omega)
    by_cases hm : (n : Int) ∈ l
    · rw [List.length_erase_of_mem hm] at ih; omega
    · rw [List.erase_of_not_mem hm] at ih; omega
theorem nodup_all {n : Nat} {l : List Int} (nd : l.Nodup) (h : ∀ x ∈ l, 0 ≤ x ∧ x < n) (hl : l.length = n) {y : Int} (y0 : 0 ≤ y) (y1 : y < n) : y ∈ l := by
  refine Classical.byContradiction fun z => ?_
  have := nodup_le n (y :: l) (List.nodup_cons.mpr ⟨z, nd⟩) (fun x hx => by
    rcases List.mem_cons.mp hx with rfl | hx
    · exact ⟨y0, y1⟩
    · exact h x hx)
  simp at this; omega
/-! ### where one comes to, by steps -/
def stM (m : Mv) (q : Int × Int) : Int × Int := ((atM m q.1).1, q.2 + (atM m q.1).2)
def orb (m : Mv) (x : Int) : Nat → Int
  | 0 => x
  | k + 1 => (atM m (orb m x k)).1
section
variable {n : Nat} {m : Mv}
theorem orb_rg (v : VM n m) {x : Int} (h0 : 0 ≤ x) (h : x < n) (k : Nat) : 0 ≤ orb m x k ∧ orb m x k < n := by
  induction k with
  | zero => exact ⟨h0, h⟩
  | succ k ih => exact v.s_rg ih.1 ih.2
theorem orb_inj (v : VM n m) {x : Int} (h0 : 0 ≤ x) (h : x < n) (i d : Nat) (e : orb m x i = orb m x (i + d)) : orb m x d = x := by
  induction i with
  | zero => rw [Nat.zero_add] at e; exact e.symm
  | succ i ih =>
    refine ih ?_
    have a := orb_rg v h0 h i
    have b := orb_rg v h0 h (i + d)
    refine v.inj a.1 a.2 b.1 b.2 ?_
    have e2 : i + 1 + d = (i + d) + 1 := by omega
    rw [e2] at e
    exact e
theorem orb_back (v : VM n m) {x : Int} (h0 : 0 ≤ x) (h : x < n) : ∃ b, 1 ≤ b ∧ b ≤ n ∧ orb m x b = x := by
  refine Classical.byContradiction fun z => ?_
  have nd : ((List.range (n + 1)).map (orb m x)).Nodup := by
    rw [List.Nodup, List.pairwise_map]
    refine (List.pairwise_iff_getElem.mpr fun i j hi hj hij => ?_)
    rw [List.getElem_range, List.getElem_range]
    intro e
    rw [List.length_range] at hj
    exact z ⟨j - i, by omega, by omega, orb_inj v h0 h i (j - i) (by rw [show i + (j - i) = j by omega]; exact e)⟩
  have := nodup_le n _ nd (fun y hy => by
    obtain ⟨i, _, rfl⟩ := List.mem_map.mp hy
    exact orb_rg v h0 h i)
  rw [List.length_map, List.length_range] at this
  omega
/-- the ring from x: L places -/
structure Ring (m : Mv) (x : Int) (L : Nat) : Prop where
  pos : 1 ≤ L
  back : orb m x L = x
  least : ∀ k, 1 ≤ k → k < L → orb m x k ≠ x
def ringL (m : Mv) (x : Int) (L : Nat) : List Int := (List.range L).map (orb m x)
def sumT (m : Mv) (x : Int) (k : Nat) : Int := ((List.range k).map fun i => (atM m (orb m x i)).2).sum
/-- where one comes to, from x in c steps -/
def goM (m : Mv) (x : Int) (L : Nat) (c : Int) : Int × Int := (orb m x (c % L).toNat, c / L * sumT m x L + sumT m x (c % L).toNat)
theorem sumT_succ (x : Int) (k : Nat) : sumT m x (k + 1) = sumT m x k + (atM m (orb m x k)).2 := by
  unfold sumT
  rw [List.range_succ, List.map_append, List.sum_append]
  simp
theorem goM_zero {x : Int} {L : Nat} (r : Ring m x L) : goM m x L 0 = (x, 0) := by
  unfold goM
  simp [sumT, orb]
theorem goM_succ {x : Int} {L : Nat} (r : Ring m x L) (c : Int) : goM m x L (c + 1) = stM m (goM m x L c) := by
  have hL : (0 : Int) < L := by have := r.pos; omega
  have h0 := Int.emod_nonneg c (b := (L : Int)) (by omega)
  have h1 := Int.emod_lt_of_pos c hL
  have hdm := Int.emod_add_mul_ediv c (L : Int)
  unfold goM stM
  dsimp only
  by_cases h : c % (L : Int) + 1 < L
  · have e1 : (c + 1) % (L : Int) = c % L + 1 := by
      rw [Int.add_emod]
      by_cases h1L : (L : Int) = 1
      · rw [h1L] at h; omega
      · rw [Int.emod_eq_of_lt (show (0 : Int) ≤ 1 by decide) (by omega), Int.emod_eq_of_lt (by omega) h]
    have e2 : (c + 1) / (L : Int) = c / L := by
      have a := Int.emod_add_mul_ediv (c + 1) (L : Int)
      rw [e1] at a
      have : (L : Int) * ((c + 1) / L) = L * (c / L) := by omega
      exact Int.eq_of_mul_eq_mul_left (by omega) this
    rw [e1, e2, show (c % (L : Int) + 1).toNat = (c % (L : Int)).toNat + 1 by omega, sumT_succ]
    exact Prod.ext rfl (by dsimp only; omega)
  · have hl : c % (L : Int) = L - 1 := by omega
    have e1 : (c + 1) % (L : Int) = 0 := by
      have : c + 1 = L * (c / L + 1) := by rw [Int.mul_add]; omega
      rw [this, Int.mul_emod_right]
    have e2 : (c + 1) / (L : Int) = c / L + 1 := by
      have : c + 1 = L * (c / L + 1) := by rw [Int.mul_add]; omega
      rw [this, Int.mul_ediv_cancel_left _ (by omega)]
    have e3 : (c % (L : Int)).toNat = L - 1 := by omega
    have e4 : sumT m x L = sumT m x (L - 1) + (atM m (orb m x (L - 1))).2 := by
      rw [← sumT_succ, show L - 1 + 1 = L by have := r.pos; omega]
    have e5 : (atM m (orb m x (L - 1))).1 = x := by
      have : orb m x (L - 1 + 1) = x := by rw [show L - 1 + 1 = L by have := r.pos; omega]; exact r.back
      exact this
    rw [e1, e2, e3, e5]
    refine Prod.ext rfl ?_
    dsimp only
    rw [show (0 : Int).toNat = 0 from rfl, Int.add_mul, Int.one_mul]
    have : sumT m x 0 = 0 := rfl
    omega
theorem goM_rg (v : VM n m) {x : Int} (h0 : 0 ≤ x) (h : x < n) (L : Nat) (c : Int) : 0 ≤ (goM m x L c).1 ∧ (goM m x L c).1 < n := orb_rg v h0 h _
/-- two ways that step alike and start alike are one -/
theorem go_unique (v : VM n m) {f g : Int → Int × Int} (f0 : f 0 = g 0) (fs : ∀ c, f (c + 1) = stM m (f c)) (gs : ∀ c, g (c + 1) = stM m (g c)) (fr : ∀ c, 0 ≤ (f c).1 ∧ (f c).1 < n) (gr : ∀ c, 0 ≤ (g c).1 ∧ (g c).1 < n) (c : Int) : f c = g c := by
  have up : ∀ k : Nat, f k = g k := fun k => by
    induction k with
    | zero => exact f0
    | succ k ih =>
      have e : ((k + 1 : Nat) : Int) = (k : Int) + 1 := by omega
      rw [e, fs, gs, ih]
  have down : ∀ k : Nat, f (-(k : Int)) = g (-(k : Int)) := fun k => by
    induction k with
    | zero => exact f0
    | succ k ih =>
      have e : -(k : Int) = -((k + 1 : Nat) : Int) + 1 := by omega
      rw [e, fs, gs] at ih
      unfold stM at ih
      have i1 : (atM m (f (-((k + 1 : Nat) : Int))).1).1 = (atM m (g (-((k + 1 : Nat) : Int))).1).1 := (Prod.ext_iff.mp ih).1
      have i2 : (f (-((k + 1 : Nat) : Int))).2 + (atM m (f (-((k + 1 : Nat) : Int))).1).2 = (g (-((k + 1 : Nat) : Int))).2 + (atM m (g (-((k + 1 : Nat) : Int))).1).2 := (Prod.ext_iff.mp ih).2
      have e1 := v.inj (fr _).1 (fr _).2 (gr _).1 (gr _).2 i1
      rw [e1] at i2
      exact Prod.ext e1 (by omega)
  by_cases hc : 0 ≤ c
  · have := up c.toNat
    rwa [show ((c.toNat : Nat) : Int) = c by omega] at this
  · have := down (-c).toNat
    rwa [show -(((-c).toNat : Nat) : Int) = c by omega] at this
theorem go_add (v : VM n m) {x : Int} (h0 : 0 ≤ x) (h : x < n) {L Ly : Nat} (r : Ring m x L) (a : Int) (ry : Ring m (goM m x L a).1 Ly) (b : Int) :
    goM m x L (a + b) = ((goM m (goM m x L a).1 Ly b).1, (goM m x L a).2 + (goM m (goM m x L a).1 Ly b).2) := by
  have y := goM_rg v h0 h L a
  refine go_unique v (f := fun b => goM m x L (a + b)) (g := fun b => ((goM m (goM m x L a).1 Ly b).1, (goM m x L a).2 + (goM m (goM m x L a).1 Ly b).2)) ?_ (fun c => ?_) (fun c => ?_) (fun c => goM_rg v h0 h L _) (fun c => goM_rg v y.1 y.2 Ly c) b
  · rw [goM_zero ry, Int.add_zero]
    exact Prod.ext rfl (by dsimp only; omega)
  · rw [← Int.add_assoc, goM_succ r]
  · rw [goM_succ ry]
    unfold stM
    exact Prod.ext rfl (by dsimp only; omega)
end
end Rf

namespace Rf
open PySem
section
variable {n : Nat} {m : Mv}
theorem ring_below (m : Mv) (x : Int) : ∀ b, 1 ≤ b → orb m x b = x → ∃ L, L ≤ b ∧ Ring m x L := by
  intro b
  induction b using Nat.strongRecOn with
  | _ b ih =>
    intro h1 h2
    by_cases h : ∃ k, 1 ≤ k ∧ k < b ∧ orb m x k = x
    · obtain ⟨k, k1, k2, k3⟩ := h
      obtain ⟨L, l1, l2⟩ := ih k k2 k1 k3
      exact ⟨L, by omega, l2⟩
    · exact ⟨b, Nat.le_refl _, h1, h2, fun k k1 k2 k3 => h ⟨k, k1, k2, k3⟩⟩
theorem ring_ex (v : VM n m) {x : Int} (h0 : 0 ≤ x) (h : x < n) : ∃ L, L ≤ n ∧ Ring m x L := by
  obtain ⟨b, b1, b2, b3⟩ := orb_back v h0 h
  obtain ⟨L, l1, l2⟩ := ring_below m x b b1 b3
  exact ⟨L, by omega, l2⟩
theorem mv_ext {a b : Mv} (hl : a.length = b.length) (h : ∀ i : Nat, i < a.length → atM a i = atM b i) : a = b := by
  refine List.ext_getElem? fun i => ?_
  by_cases hi : i < a.length
  · rw [atM_get hi, atM_get (by omega), h i hi]
  · rw [List.getElem?_eq_none (by omega), List.getElem?_eq_none (by omega)]
theorem comp_len (a b : Mv) : (comp a b).length = a.length := by simp [comp]
theorem atM_comp {a b : Mv} {i : Nat} (h : i < a.length) : atM (comp a b) i = ((atM b (atM a i).1).1, ((atM a i).2 + (atM b (atM a i).1).2) % 4) := by
  have h1 := atM_get (m := comp a b) (i := i) (by rw [comp_len]; exact h)
  unfold comp at h1
  rw [List.getElem?_map, atM_get h] at h1
  exact (Option.some.inj h1).symm
theorem restM_len (n : Nat) : (restM n).length = n := by simp [restM]
theorem atM_rest {n i : Nat} (h : i < n) : atM (restM n) i = ((i : Int), 0) := by
  have h1 := atM_get (m := restM n) (i := i) (by rw [restM_len]; exact h)
  unfold restM at h1
  rw [List.getElem?_map, List.getElem?_range h] at h1
  exact (Option.some.inj h1).symm
theorem itM_len (m : Mv) (k : Nat) : (itM m k).length = m.length := by
  induction k with
  | zero => exact restM_len _
  | succ k ih => exact (comp_len _ _).trans ih
theorem atM_it (v : VM n m) {x : Nat} (h : x < n) {L : Nat} (r : Ring m x L) (k : Nat) : atM (itM m k) x = ((goM m x L k).1, (goM m x L k).2 % 4) := by
  have hx : (x : Int) < n := by omega
  induction k with
  | zero =>
    show atM (restM m.length) x = _
    rw [atM_rest (by rw [v.len]; exact h)]
    have := goM_zero r
    rw [show ((0 : Nat) : Int) = 0 from rfl, this]; rfl
  | succ k ih =>
    show atM (comp (itM m k) m) x = _
    rw [atM_comp (by rw [itM_len, v.len]; exact h), ih, show ((k + 1 : Nat) : Int) = (k : Int) + 1 by omega, goM_succ r]
    unfold stM
    refine Prod.ext rfl ?_
    show ((goM m x L k).2 % 4 + (atM m (goM m x L k).1).2) % 4 = ((goM m x L k).2 + (atM m (goM m x L k).1).2) % 4
    omega
theorem it_rg (v : VM n m) (k : Nat) : ∀ p ∈ itM m k, 0 ≤ p.1 ∧ p.1 < n := by
  intro p hp
  obtain ⟨i, hi, e⟩ := List.mem_iff_getElem.mp hp
  rw [itM_len, v.len] at hi
  obtain ⟨L, _, r⟩ := ring_ex v (x := (i : Int)) (by omega) (by omega)
  have h1 := atM_it v hi r k
  have h2 := atM_get (m := itM m k) (i := i) (by rw [itM_len, v.len]; exact hi)
  rw [List.getElem?_eq_getElem (by rw [itM_len, v.len]; exact hi), e] at h2
  rw [Option.some.inj h2, h1]
  exact goM_rg v (by omega) (by omega) L k
theorem comp_it (v : VM n m) (a b : Nat) : comp (itM m a) (itM m b) = itM m (a + b) := by
  refine mv_ext (by rw [comp_len, itM_len, itM_len]) fun i hi => ?_
  rw [comp_len, itM_len, v.len] at hi
  obtain ⟨L, _, r⟩ := ring_ex v (x := (i : Int)) (by omega) (by omega)
  have y := goM_rg v (x := (i : Int)) (by omega) (by omega) L a
  obtain ⟨Ly, _, ry⟩ := ring_ex v y.1 y.2
  rw [atM_comp (by rw [itM_len, v.len]; exact hi), atM_it v hi r, atM_it v hi r, show ((a + b : Nat) : Int) = (a : Int) + b by omega, go_add v (by omega) (by omega) r a ry b]
  dsimp only
  have ey : (((goM m i L a).1.toNat : Nat) : Int) = (goM m i L a).1 := by omega
  have h2 := atM_it v (x := (goM m i L a).1.toNat) (by omega) (L := Ly) (by rw [ey]; exact ry) b
  rw [ey] at h2
  rw [h2]
  refine Prod.ext rfl ?_
  dsimp only
  omega
theorem it_one (v : VM n m) : itM m 1 = m := by
  refine mv_ext (itM_len m 1) fun i hi => ?_
  rw [itM_len, v.len] at hi
  show atM (comp (restM m.length) m) i = _
  rw [atM_comp (by rw [restM_len, v.len]; exact hi), atM_rest (by rw [v.len]; exact hi)]
  have t := v.t_rg (x := (i : Int)) (by omega) (by omega)
  refine Prod.ext rfl ?_
  dsimp only
  omega
/-- so often done, all is as at first -/
theorem it_whole (v : VM n m) (hn : n ≤ 8) : itM m 3360 = restM n := by
  refine mv_ext (by rw [itM_len, restM_len, v.len]) fun i hi => ?_
  rw [itM_len, v.len] at hi
  obtain ⟨L, hL, r⟩ := ring_ex v (x := (i : Int)) (by omega) (by omega)
  rw [atM_it v hi r, atM_rest hi]
  have l8 : L ≤ 8 := by omega
  have l1 := r.pos
  have key : ((3360 : Nat) : Int) % (L : Int) = 0 ∧ ∃ q : Int, ((3360 : Nat) : Int) / (L : Int) = 4 * q := by
    have : L = 1 ∨ L = 2 ∨ L = 3 ∨ L = 4 ∨ L = 5 ∨ L = 6 ∨ L = 7 ∨ L = 8 := by omega
    rcases this with rfl | rfl | rfl | rfl | rfl | rfl | rfl | rfl
    · exact ⟨rfl, 840, rfl⟩
    · exact ⟨rfl, 420, rfl⟩
    · exact ⟨rfl, 280, rfl⟩
    · exact ⟨rfl, 210, rfl⟩
    · exact ⟨rfl, 168, rfl⟩
    · exact ⟨rfl, 140, rfl⟩
    · exact ⟨rfl, 120, rfl⟩
    · exact ⟨rfl, 105, rfl⟩
  obtain ⟨k1, q, k2⟩ := key
  unfold goM
  dsimp only
  rw [k1, k2]
  refine Prod.ext rfl ?_
  show (4 * q * sumT m i L + 0) % 4 = 0
  rw [Int.add_zero, Int.mul_assoc, Int.mul_emod_right]
/-- what comes back after w steps comes back after each number of times w more -/
theorem go_more (v : VM n m) {w : Nat} (hw : itM m w = restM n) {x : Nat} (h : x < n) {L : Nat} (r : Ring m x L) (c M : Int) : (goM m x L (c + w * M)).1 = (goM m x L c).1 ∧ (goM m x L (c + w * M)).2 % 4 = (goM m x L c).2 % 4 := by
  have one : ∀ c : Int, (goM m x L (c + w)).1 = (goM m x L c).1 ∧ (goM m x L (c + w)).2 % 4 = (goM m x L c).2 % 4 := fun c => by
    have y := goM_rg v (x := (x : Int)) (by omega) (by omega) L c
    obtain ⟨Ly, _, ry⟩ := ring_ex v y.1 y.2
    have ey : (((goM m x L c).1.toNat : Nat) : Int) = (goM m x L c).1 := by omega
    have h2 := atM_it v (x := (goM m x L c).1.toNat) (by omega) (L := Ly) (by rw [ey]; exact ry) w
    rw [hw, atM_rest (by omega), ey] at h2
    rw [go_add v (by omega) (by omega) r c ry w]
    have e1 : (goM m x L c).1 = (goM m (goM m x L c).1 Ly w).1 := (Prod.ext_iff.mp h2).1
    have e2 : (0 : Int) = (goM m (goM m x L c).1 Ly w).2 % 4 := (Prod.ext_iff.mp h2).2
    refine ⟨e1.symm, ?_⟩
    dsimp only
    omega
  have up : ∀ (k : Nat) (c : Int), (goM m x L (c + w * (k : Int))).1 = (goM m x L c).1 ∧ (goM m x L (c + w * (k : Int))).2 % 4 = (goM m x L c).2 % 4 := fun k => by
    induction k with
    | zero => intro c; rw [show c + (w : Int) * ((0 : Nat) : Int) = c by simp]; exact ⟨rfl, rfl⟩
    | succ k ih =>
      intro c
      have a := one (c + w * (k : Int))
      have b := ih c
      rw [show c + (w : Int) * ((k + 1 : Nat) : Int) = c + w * (k : Int) + w by rw [show ((k + 1 : Nat) : Int) = (k : Int) + 1 by omega, Int.mul_add]; omega]
      exact ⟨a.1.trans b.1, a.2.trans b.2⟩
  by_cases hM : 0 ≤ M
  · have := up M.toNat c
    rwa [show ((M.toNat : Nat) : Int) = M by omega] at this
  · have := up (-M).toNat (c + w * M)
    rw [show (((-M).toNat : Nat) : Int) = -M by omega, show c + (w : Int) * M + w * -M = c by rw [Int.mul_neg]; omega] at this
    exact ⟨this.1.symm, this.2.symm⟩
/-- undone -/
def invM (m : Mv) : Mv := (List.range m.length).map fun y : Nat => ((((m.map (·.1)).idxOf (y : Int) : Nat) : Int), (0 - (atM m (((m.map (·.1)).idxOf (y : Int) : Nat) : Int)).2) % 4)
theorem invM_len (m : Mv) : (invM m).length = m.length := by simp [invM]
theorem idx_of (v : VM n m) {x : Nat} (h : x < n) : (m.map (·.1)).idxOf (atM m x).1 = x := by
  have hx : x < (m.map (·.1)).length := by rw [List.length_map, v.len]; exact h
  have e : (m.map (·.1))[x] = (atM m x).1 := by
    have := atM_get (m := m) (i := x) (by rw [v.len]; exact h)
    rw [List.getElem_map]
    rw [List.getElem?_eq_getElem (by rw [v.len]; exact h)] at this
    rw [Option.some.inj this]
  rw [← e]
  exact List.Nodup.idxOf_getElem v.nd x hx
theorem atM_invY (m : Mv) {y : Nat} (h : y < m.length) : atM (invM m) y = ((((m.map (·.1)).idxOf (y : Int) : Nat) : Int), (0 - (atM m (((m.map (·.1)).idxOf (y : Int) : Nat) : Int)).2) % 4) := by
  have h1 := atM_get (m := invM m) (i := y) (by rw [invM_len]; exact h)
  have h2 : (invM m)[y]? = some ((((m.map (·.1)).idxOf (y : Int) : Nat) : Int), (0 - (atM m (((m.map (·.1)).idxOf (y : Int) : Nat) : Int)).2) % 4) := by
    unfold invM
    rw [List.getElem?_map, List.getElem?_range h]; rfl
  rw [h1] at h2
  exact Option.some.inj h2
theorem atM_inv (v : VM n m) {x : Nat} (h : x < n) : atM (invM m) (atM m x).1 = ((x : Int), (0 - (atM m x).2) % 4) := by
  have s := v.s_rg (x := (x : Int)) (by omega) (by omega)
  have es : (((atM m x).1.toNat : Nat) : Int) = (atM m x).1 := by omega
  have h1 := atM_invY m (y := (atM m x).1.toNat) (by rw [v.len]; omega)
  rw [es, idx_of v h] at h1
  exact h1
theorem pre_ex (v : VM n m) {y : Int} (y0 : 0 ≤ y) (y1 : y < n) : ∃ x : Nat, x < n ∧ (atM m x).1 = y := by
  have hm := nodup_all v.nd (fun x hx => by
    obtain ⟨p, hp, rfl⟩ := List.mem_map.mp hx
    exact v.rg p hp) (by rw [List.length_map, v.len]) y0 y1
  obtain ⟨p, hp, rfl⟩ := List.mem_map.mp hm
  obtain ⟨i, hi, e⟩ := List.mem_iff_getElem.mp hp
  refine ⟨i, by rw [← v.len]; exact hi, ?_⟩
  have := atM_get hi
  rw [List.getElem?_eq_getElem hi, e] at this
  rw [Option.some.inj this]
theorem atM_itinv (v : VM n m) {x : Nat} (h : x < n) {L : Nat} (r : Ring m x L) (k : Nat) : atM (itM (invM m) k) x = ((goM m x L (-(k : Int))).1, (goM m x L (-(k : Int))).2 % 4) := by
  induction k with
  | zero =>
    show atM (restM (invM m).length) x = _
    rw [atM_rest (by rw [invM_len, v.len]; exact h)]
    have := goM_zero r
    rw [show -((0 : Nat) : Int) = 0 from rfl, this]; rfl
  | succ k ih =>
    show atM (comp (itM (invM m) k) (invM m)) x = _
    have e : -(k : Int) = -((k + 1 : Nat) : Int) + 1 := by omega
    rw [atM_comp (by rw [itM_len, invM_len, v.len]; exact h), ih]
    have s := goM_succ r (-((k + 1 : Nat) : Int))
    rw [← e] at s
    have y := goM_rg v (x := (x : Int)) (by omega) (by omega) L (-((k + 1 : Nat) : Int))
    have ey : (((goM m x L (-((k + 1 : Nat) : Int))).1.toNat : Nat) : Int) = (goM m x L (-((k + 1 : Nat) : Int))).1 := by omega
    have hi := atM_inv v (x := (goM m x L (-((k + 1 : Nat) : Int))).1.toNat) (by omega)
    rw [ey] at hi
    rw [s]
    unfold stM
    dsimp only
    rw [hi]
    refine Prod.ext rfl ?_
    dsimp only
    omega
end
end Rf

namespace Rf
open PySem
theorem mem_insI {x y : Int} : ∀ {l : List Int}, y ∈ insI x l ↔ y = x ∨ y ∈ l
  | [] => by simp [insI]
  | z :: r => by
    unfold insI
    split
    · simp
    · rw [List.mem_cons, mem_insI, List.mem_cons]
      constructor
      · rintro (h | h | h)
        · exact .inr (.inl h)
        · exact .inl h
        · exact .inr (.inr h)
      · rintro (h | h | h)
        · exact .inr (.inl h)
        · exact .inl h
        · exact .inr (.inr h)
theorem len_insI {x : Int} : ∀ {l : List Int}, (insI x l).length = l.length + 1
  | [] => rfl
  | z :: r => by
    unfold insI
    split
    · rfl
    · simp [len_insI (l := r)]
theorem insI_lt {x : Int} : ∀ {l : List Int}, l.Pairwise (· < ·) → x ∉ l → (insI x l).Pairwise (· < ·)
  | [], _, _ => by simp [insI]
  | z :: r, h, hx => by
    rw [List.pairwise_cons] at h
    rw [List.mem_cons, not_or] at hx
    unfold insI
    split
    · rename_i q
      have q := of_decide_eq_true q
      rw [List.pairwise_cons, List.pairwise_cons]
      refine ⟨fun a ha => ?_, h⟩
      rcases List.mem_cons.mp ha with rfl | ha
      · omega
      · have := h.1 a ha; omega
    · rename_i q
      have q := of_decide_eq_false q
      rw [List.pairwise_cons]
      refine ⟨fun a ha => ?_, insI_lt h.2 hx.2⟩
      rcases mem_insI.mp ha with rfl | ha
      · omega
      · exact h.1 a ha
theorem mem_sortI {y : Int} : ∀ {l : List Int}, y ∈ sortI l ↔ y ∈ l
  | [] => by simp [sortI]
  | x :: l => by unfold sortI; rw [mem_insI, mem_sortI, List.mem_cons]
theorem len_sortI : ∀ {l : List Int}, (sortI l).length = l.length
  | [] => rfl
  | x :: l => by unfold sortI; rw [len_insI, len_sortI]; rfl
theorem sortI_lt : ∀ {l : List Int}, l.Nodup → (sortI l).Pairwise (· < ·)
  | [], _ => by simp [sortI]
  | x :: l, h => by
    rw [List.nodup_cons] at h
    unfold sortI
    exact insI_lt (sortI_lt h.2) fun z => h.1 (mem_sortI.mp z)
theorem lt_range : ∀ (l : List Int) (a : Int), l.Pairwise (· < ·) → (∀ x ∈ l, a ≤ x ∧ x < a + l.length) → l = (List.range l.length).map fun i => a + ((i : Nat) : Int)
  | [], _, _, _ => rfl
  | x :: l, a, h, hr => by
    rw [List.pairwise_cons] at h
    -- the rest lies above x
    have len_le : ∀ (l : List Int) (lo hi : Int), l.Pairwise (· < ·) → lo ≤ hi → (∀ y ∈ l, lo ≤ y ∧ y < hi) → (l.length : Int) ≤ hi - lo := by
      intro l
      induction l with
      | nil => intro lo hi _ h _; simp; omega
      | cons z l ih =>
        intro lo hi hp hle hb
        rw [List.pairwise_cons] at hp
        have hz := hb z List.mem_cons_self
        have := ih (z + 1) hi hp.2 (by omega) (fun y hy => by
          have a := hp.1 y hy
          have b := hb y (List.mem_cons_of_mem _ hy)
          omega)
        simp only [List.length_cons]
        omega
    have hx := hr x List.mem_cons_self
    simp only [List.length_cons] at hx hr
    have b := len_le l (x + 1) (a + ((l.length + 1 : Nat) : Int)) h.2 (by omega) (fun y hy => by
      have q := h.1 y hy
      have r := hr y (List.mem_cons_of_mem _ hy)
      omega)
    have ex : x = a := by omega
    subst ex
    have ih := lt_range l (x + 1) h.2 (fun y hy => by
      have q := h.1 y hy
      have r := hr y (List.mem_cons_of_mem _ hy)
      omega)
    rw [List.length_cons, List.range_succ_eq_map, List.map_cons, List.map_map]
    refine congr (congrArg List.cons (by simp)) ?_
    rw [ih]
    rw [List.length_map, List.length_range]
    refine List.map_congr_left fun i _ => ?_
    show x + 1 + (i : Int) = x + ((i + 1 : Nat) : Int)
    omega
theorem sortI_range {n : Nat} {l : List Int} (nd : l.Nodup) (h : ∀ x ∈ l, 0 ≤ x ∧ x < n) (hl : l.length = n) : sortI l = (List.range n).map fun i => ((i : Nat) : Int) := by
  have := lt_range (sortI l) 0 (sortI_lt nd) (fun x hx => by
    have := h x (mem_sortI.mp hx)
    rw [len_sortI, hl]; omega)
  rw [len_sortI, hl] at this
  rw [this]
  refine List.map_congr_left fun i _ => by omega
end Rf

namespace Zk07
open PySem PySem.Spec L2 Rf
open PyProof.Rows hiding St
def top (i : Nat) : Stmt := PySem.Challenge.pw_reelwright_k07_whole_numbers_of_times.main.body.getD i (.Pass ⟨0, 0, 0, 0⟩)
def nm : Nat → Str
  | 1 => "BadMove"
  | 2 => "BadTimes"
  | 3 => "BadPlace"
  | _ => "ReelError"
def sub_ReelError : Nat → Bool
  | 1 => true
  | 2 => true
  | 3 => true
  | _ => true
def is_BadTimes : Nat → Bool
  | 1 => false
  | 2 => true
  | 3 => false
  | _ => false
structure Gl (W : Wd) (exc : Nat → Addr) : Prop where
  n_abs : W.mg "abs" = none
  n_all : W.mg "all" = none
  n_bool : W.mg "bool" = none
  n_enumerate : W.mg "enumerate" = none
  n_int : W.mg "int" = none
  n_isinstance : W.mg "isinstance" = none
  n_len : W.mg "len" = none
  n_list : W.mg "list" = none
  n_range : W.mg "range" = none
  n_sorted : W.mg "sorted" = none
  n_sum : W.mg "sum" = none
  n_tuple : W.mg "tuple" = none
  i_MOST_PLACES : ∃ t, W.mg "MOST_PLACES" = some (Value.int 8 t)
  i_QUARTERS : ∃ t, W.mg "QUARTERS" = some (Value.int 4 t)
  x_ReelError : Exc W exc 0 "ReelError"
  x_BadMove : Exc W exc 1 "BadMove"
  x_BadTimes : Exc W exc 2 "BadTimes"
  x_BadPlace : Exc W exc 3 "BadPlace"
  m_ReelError : ∀ c, PySem.W.exmOne W.K (.ref (exc c)) (.ref (exc 0)) = some (sub_ReelError c)
  k_BadTimes : ∀ c, PySem.W.kitOne W.K (.ref (exc c)) (.ref (exc 2)) = some (is_BadTimes c)
  eC : ∀ c, ExcC W.K (exc c)
def N__law_draws : List Str := ["script", "many", "draws", "seed", "cell", "k", "number"]
def b__law_draws (fu : Nat) : Rf.Env → SO := (fSeq (fSet 2 (fLst fNil)) (fSeq (fSet 3 (cI 7)) (fSeq (fFor (.n 4) (iSeq (fSlH (fV 0) (cI 63))) (fSeq (fSet 6 (fBi (Bi.fn .abs) (fCons (fV 4) fNil))) (fSeq (fSet 3 (fOp (Bo.fn .mod) (fBi (Bi.fn .int) (fCons (fOp (Bo.fn .add) (fOp (Bo.fn .add) (fOp (Bo.fn .mul) (fV 3) (cI 48271)) (fV 6)) (cI 11)) fNil)) (cI 2147483647))) (fIfS (fTst (fOp (cmpD .ge) (fV 6) (fOp (Bo.fn .pow) (cI 10) (cI 18)))) (fFor (.n 5) (iRng1 (cI 60)) (fIfS (fTst (fOp (cmpD .gt) (fV 6) (cI 0))) (fSeq (fApp 2 (fOp (Bo.fn .mod) (fBi (Bi.fn .int) (fCons (fV 6) fNil)) (cI 1009))) (fSet 6 (fOp (Bo.fn .fdiv) (fV 6) (cI 1009)))) fPass)) (fApp 2 (fOp (Bo.fn .mod) (fOp (Bo.fn .fdiv) (fBi (Bi.fn .int) (fCons (fOp (Bo.fn .add) (fOp (Bo.fn .mul) (fV 3) (cI 16807)) (cI 5)) fNil)) (cI 3)) (cI 65521))))))) (fSeq (fFor (.n 5) (iRng1 (fV 1)) (fIfS (fTst (fOp (cmpD .lt) (fBi (Bi.fn .len) (fCons (fV 2) fNil)) (fV 1))) (fSeq (fSet 3 (fOp (Bo.fn .mod) (fBi (Bi.fn .int) (fCons (fOp (Bo.fn .add) (fOp (Bo.fn .add) (fOp (Bo.fn .mul) (fV 3) (cI 69621)) (fV 5)) (cI 1)) fNil)) (cI 2147483647))) (fApp 2 (fOp (Bo.fn .mod) (fOp (Bo.fn .fdiv) (fBi (Bi.fn .int) (fCons (fV 3) fNil)) (cI 7)) (cI 65521)))) fPass)) (fRet (fSlH (fV 2) (fV 1)))))))
def g__law_draws (fu : Nat) : List D → RV := runF 5 (b__law_draws fu)
def N__law_order_of : List Str := ["draws", "many", "k", "left", "found", "one", "other"]
def b__law_order_of (fu : Nat) : Rf.Env → SO := (fSeq (fPar 3 4 (fCons (fUn (rgD1 false) (fV 1)) (fCons (fLst fNil) fNil))) (fSeq (fFor (.n 2) (iRng1 (fV 1)) (fSeq (fSet 5 (fOp ixD (fV 3) (fOp (Bo.fn .mod) (fBi (Bi.fn .int) (fCons (fOp ixD (fV 0) (fV 2)) fNil)) (fBi (Bi.fn .len) (fCons (fV 3) fNil))))) (fSeq (fFz [5] (fApp 4 (fV 5))) (fSet 3 (fLc [6] (.n 6) (iSeq (fV 3)) (some (fTst (fOp (cmpD .ne) (fV 6) (fV 5)))) (fV 6)))))) (fRetV 4)))
def g__law_order_of (fu : Nat) : List D → RV := runF 5 (b__law_order_of fu)
def N__law_move : List Str := ["draws", "many", "places", "kind", "k"]
def b__law_move (fu : Nat) : Rf.Env → SO := (fSeq (fAsg (.t (.cons (.n 2) (.cons (.n 3) .nil))) (fTup (fCons (fCall (g__law_order_of fu) (fCons (fV 0) (fCons (fV 1) fNil))) (fCons (fOp (Bo.fn .mod) (fBi (Bi.fn .int) (fCons (fOp ixD (fV 0) (cI 8)) fNil)) (cI 3)) fNil)))) (fRet (fBi (Bi.fn .tuple) (fCons (fLc [4] (.n 4) (iRng1 (fV 1)) none (fTup (fCons (fOp ixD (fV 2) (fV 4)) (fCons (fIf (fTst (fOp (cmpD .eq) (fV 3) (cI 0))) (cI 0) (fOp (Bo.fn .mod) (fOp (Bo.fn .fdiv) (fBi (Bi.fn .int) (fCons (fOp ixD (fV 0) (cI 9)) fNil)) (fOp (Bo.fn .add) (cI 1) (fOp (Bo.fn .mul) (cI 4) (fV 4)))) (cI 4))) fNil)))) fNil))))
def g__law_move (fu : Nat) : List D → RV := runF 3 (b__law_move fu)
def N__law_back : List Str := ["move", "found", "k"]
def b__law_back (fu : Nat) : Rf.Env → SO := (fSeq (fSet 1 cD0) (fSeq (fFor (.n 2) (iRng1 (fBi (Bi.fn .len) (fCons (fV 0) fNil))) (fFz [2] (fPut 1 (fTup (fCons (fV 2) (fCons (fOp (Bo.fn .mod) (fBi (Bi.fn .int) (fCons (fOp (Bo.fn .sub) (cI 4) (fOp ixD (fOp ixD (fV 0) (fV 2)) (cI 1))) fNil)) (cI 4)) fNil))) (fOp ixD (fOp ixD (fV 0) (fV 2)) (cI 0))))) (fRet (fBi (Bi.fn .tuple) (fCons (fLc [2] (.n 2) (iRng1 (fBi (Bi.fn .len) (fCons (fV 0) fNil))) none (fOp ixD (fV 1) (fV 2))) fNil)))))
def g__law_back (fu : Nat) : List D → RV := runF 2 (b__law_back fu)
def N_is_whole : List Str := ["value", "least", "most"]
def b_is_whole (fu : Nat) : Rf.Env → SO := (fRet (fAnd (fIsi .int (fV 0)) (fAnd (fUn notD (fIsi .bool (fV 0))) (fCh (cmpD .le) (cmpD .le) (fV 1) (fV 0) (fV 2)))))
def g_is_whole (fu : Nat) : List D → RV := runF 0 (b_is_whole fu)
def N__are_pairs : List Str := ["value", "most", "other", "pair"]
def b__are_pairs (fu : Nat) : Rf.Env → SO := (fSeq (fIfS (fOrT (fNotT (fTst (fIsi .tuple (fV 0)))) (fNotT (fTst (fCh (cmpD .le) (cmpD .le) (cI 1) (fBi (Bi.fn .len) (fCons (fV 0) fNil)) (cI 8))))) (fRet (cB false)) fPass) (fSeq (fFor (.n 3) (iSeq (fV 0)) (fSeq (fIfS (fOrT (fNotT (fTst (fIsi .tuple (fV 3)))) (fOrT (fTst (fOp (cmpD .ne) (fBi (Bi.fn .len) (fCons (fV 3) fNil)) (cI 2))) (fNotT (fTst (fCall (g_is_whole fu) (fCons (fOp ixD (fV 3) (cI 0)) (fCons (cI 0) (fCons (fV 1) fNil)))))))) (fRet (cB false)) fPass) (fIfS (fNotT (fTst (fCall (g_is_whole fu) (fCons (fOp ixD (fV 3) (cI 1)) (fCons (cI 0) (fCons (fV 2) fNil)))))) (fRet (cB false)) fPass))) (fRet (cB true))))
def g__are_pairs (fu : Nat) : List D → RV := runF 1 (b__are_pairs fu)
def N__is_each_once : List Str := ["value", "pair"]
def b__is_each_once (fu : Nat) : Rf.Env → SO := (fSeq (fIfS (fNotT (fTst (fCall (g__are_pairs fu) (fCons (fV 0) (fCons (fOp (Bo.fn .sub) (cI 8) (cI 1)) (fCons (fOp (Bo.fn .sub) (cI 4) (cI 1)) fNil)))))) (fRet (cB false)) fPass) (fRet (fOp (cmpD .eq) (fBi (Bi.fn .sorted) (fCons (fLc [1] (.n 1) (iSeq (fV 0)) none (fOp ixD (fV 1) (cI 0))) fNil)) (fUn (rgD1 false) (fBi (Bi.fn .len) (fCons (fV 0) fNil))))))
def g__is_each_once (fu : Nat) : List D → RV := runF 1 (b__is_each_once fu)
def N_is_move : List Str := ["value"]
def b_is_move (fu : Nat) : Rf.Env → SO := (fRet (fCall (g__is_each_once fu) (fCons (fV 0) fNil)))
def g_is_move (fu : Nat) : List D → RV := runF 0 (b_is_move fu)
def N_check_move : List Str := ["move"]
def b_check_move (fu : Nat) : Rf.Env → SO := (fIfS (fNotT (fTst (fCall (g_is_move fu) (fCons (fV 0) fNil)))) (fRaise 1) fPass)
def g_check_move (fu : Nat) : List D → RV := runF 0 (b_check_move fu)
def N_still_move : List Str := ["count", "place"]
def b_still_move (fu : Nat) : Rf.Env → SO := (fRet (fBi (Bi.fn .tuple) (fCons (fLc [1] (.n 1) (iRng1 (fV 0)) none (fTup (fCons (fV 1) (fCons (cI 0) fNil)))) fNil)))
def g_still_move (fu : Nat) : List D → RV := runF 1 (b_still_move fu)
def N_compose : List Str := ["move", "other", "found", "place", "turn", "there", "more"]
def b_compose (fu : Nat) : Rf.Env → SO := (fSeq (fSet 2 (fLst fNil)) (fSeq (fFor (.t (.cons (.n 3) (.cons (.n 4) .nil))) (iSeq (fV 0)) (fSeq (fAsg (.t (.cons (.n 5) (.cons (.n 6) .nil))) (fOp ixD (fV 1) (fV 3))) (fFz [5] (fApp 2 (fTup (fCons (fV 5) (fCons (fOp (Bo.fn .mod) (fOp (Bo.fn .add) (fV 4) (fV 6)) (cI 4)) fNil))))))) (fRet (fBi (Bi.fn .tuple) (fCons (fV 2) fNil)))))
def g_compose (fu : Nat) : List D → RV := runF 5 (b_compose fu)
def N_order : List Str := ["move", "rest", "count", "here"]
def b_order (fu : Nat) : Rf.Env → SO := (fSeq (fSet 1 (fCall (g_still_move fu) (fCons (fBi (Bi.fn .len) (fCons (fV 0) fNil)) fNil))) (fSeq (fPar 2 3 (fCons (cI 1) (fCons (fV 0) fNil))) (fSeq (fWhile (fTst (fOp (cmpD .ne) (fV 3) (fV 1))) (fSeq (fFz [3] (fSet 3 (fCall (g_compose fu) (fCons (fV 3) (fCons (fV 0) fNil))))) (fAug .add 2 (cI 1))) fu) (fRetV 2))))
def g_order (fu : Nat) : List D → RV := runF 3 (b_order fu)
def N_order_of : List Str := ["move"]
def b_order_of (fu : Nat) : Rf.Env → SO := (fSeq (fExpr (fCall (g_check_move fu) (fCons (fV 0) fNil))) (fRet (fCall (g_order fu) (fCons (fV 0) fNil))))
def g_order_of (fu : Nat) : List D → RV := runF 0 (b_order_of fu)
def N__law_rest : List Str := ["many", "k"]
def b__law_rest (fu : Nat) : Rf.Env → SO := (fRet (fBi (Bi.fn .tuple) (fCons (fLc [1] (.n 1) (iRng1 (fV 0)) none (fTup (fCons (fV 1) (fCons (cI 0) fNil)))) fNil)))
def g__law_rest (fu : Nat) : List D → RV := runF 1 (b__law_rest fu)
def N__law_then : List Str := ["move", "other", "place", "turn"]
def b__law_then (fu : Nat) : Rf.Env → SO := (fRet (fBi (Bi.fn .tuple) (fCons (fLc [2, 3] (.t (.cons (.n 2) (.cons (.n 3) .nil))) (iSeq (fV 0)) none (fTup (fCons (fOp ixD (fOp ixD (fV 1) (fV 2)) (cI 0)) (fCons (fOp (Bo.fn .mod) (fBi (Bi.fn .int) (fCons (fOp (Bo.fn .add) (fV 3) (fOp ixD (fOp ixD (fV 1) (fV 2)) (cI 1))) fNil)) (cI 4)) fNil)))) fNil)))
def g__law_then (fu : Nat) : List D → RV := runF 2 (b__law_then fu)
def N__law_times : List Str := ["move", "count", "found", "k"]
def b__law_times (fu : Nat) : Rf.Env → SO := (fSeq (fSet 2 (fCall (g__law_rest fu) (fCons (fBi (Bi.fn .len) (fCons (fV 0) fNil)) fNil))) (fSeq (fFor (.n 3) (iRng1 (fV 1)) (fFz [2] (fSet 2 (fCall (g__law_then fu) (fCons (fV 2) (fCons (fV 0) fNil)))))) (fRetV 2)))
def g__law_times (fu : Nat) : List D → RV := runF 2 (b__law_times fu)
def N__check_place : List Str := ["move", "place"]
def b__check_place (fu : Nat) : Rf.Env → SO := (fSeq (fExpr (fCall (g_check_move fu) (fCons (fV 0) fNil))) (fIfS (fNotT (fTst (fCall (g_is_whole fu) (fCons (fV 1) (fCons (cI 0) (fCons (fOp (Bo.fn .sub) (fBi (Bi.fn .len) (fCons (fV 0) fNil)) (cI 1)) fNil)))))) (fRaise 3) fPass))
def g__check_place (fu : Nat) : List D → RV := runF 0 (b__check_place fu)
def N_ring_from : List Str := ["move", "place", "found"]
def b_ring_from (fu : Nat) : Rf.Env → SO := (fSeq (fSet 2 (fLst (fCons (fV 1) fNil))) (fSeq (fWhile (fTst (fOp (cmpD .ne) (fOp ixD (fOp ixD (fV 0) (fOp ixD (fV 2) (fUn negD (cI 1)))) (cI 0)) (fV 1))) (fApp 2 (fOp ixD (fOp ixD (fV 0) (fOp ixD (fV 2) (fUn negD (cI 1)))) (cI 0))) fu) (fRetV 2)))
def g_ring_from (fu : Nat) : List D → RV := runF 1 (b_ring_from fu)
def N_landed : List Str := ["move", "place", "count", "ring", "turns", "around", "left", "one"]
def b_landed (fu : Nat) : Rf.Env → SO := (fSeq (fSet 3 (fCall (g_ring_from fu) (fCons (fV 0) (fCons (fV 1) fNil)))) (fSeq (fPar 5 6 (fCons (fOp (Bo.fn .fdiv) (fV 2) (fBi (Bi.fn .len) (fCons (fV 3) fNil))) (fCons (fOp (Bo.fn .mod) (fV 2) (fBi (Bi.fn .len) (fCons (fV 3) fNil))) fNil))) (fSeq (fSet 4 (fOp (Bo.fn .add) (fOp (Bo.fn .mul) (fV 5) (fBi (Bi.fn .sum) (fCons (fLc [7] (.n 7) (iSeq (fV 3)) none (fOp ixD (fOp ixD (fV 0) (fV 7)) (cI 1))) fNil))) (fBi (Bi.fn .sum) (fCons (fLc [7] (.n 7) (iSeq (fSlH (fV 3) (fV 6))) none (fOp ixD (fOp ixD (fV 0) (fV 7)) (cI 1))) fNil)))) (fRet (fTup (fCons (fOp ixD (fV 3) (fV 6)) (fCons (fOp (Bo.fn .mod) (fV 4) (cI 4)) fNil)))))))
def g_landed (fu : Nat) : List D → RV := runF 5 (b_landed fu)
def N_after : List Str := ["move", "place", "count"]
def b_after (fu : Nat) : Rf.Env → SO := (fSeq (fExpr (fCall (g__check_place fu) (fCons (fV 0) (fCons (fV 1) fNil)))) (fSeq (fIfS (fOrT (fNotT (fTst (fIsi .int (fV 2)))) (fTst (fIsi .bool (fV 2)))) (fRaise 2) fPass) (fRet (fCall (g_landed fu) (fCons (fV 0) (fCons (fV 1) (fCons (fV 2) fNil)))))))
def g_after (fu : Nat) : List D → RV := runF 0 (b_after fu)
def N_power : List Str := ["move", "count", "found", "base"]
def b_power (fu : Nat) : Rf.Env → SO := (fSeq (fSet 2 (fCall (g_still_move fu) (fCons (fBi (Bi.fn .len) (fCons (fV 0) fNil)) fNil))) (fSeq (fSet 3 (fV 0)) (fSeq (fWhile (fTst (fOp (cmpD .gt) (fV 1) (cI 0))) (fSeq (fIfS (fTst (fOp (cmpD .eq) (fOp (Bo.fn .mod) (fV 1) (cI 2)) (cI 1))) (fFz [2, 3] (fSet 2 (fCall (g_compose fu) (fCons (fV 2) (fCons (fV 3) fNil))))) fPass) (fSeq (fFz [3] (fSet 3 (fCall (g_compose fu) (fCons (fV 3) (fCons (fV 3) fNil))))) (fAug .fdiv 1 (cI 2)))) fu) (fRetV 2))))
def g_power (fu : Nat) : List D → RV := runF 2 (b_power fu)
def N_inverse : List Str := ["move", "found", "start", "place", "turn"]
def b_inverse (fu : Nat) : Rf.Env → SO := (fSeq (fSet 1 (fOp (Bo.fn .mul) (fLst (fCons cN fNil)) (fBi (Bi.fn .len) (fCons (fV 0) fNil)))) (fSeq (fFor (.t (.cons (.n 2) (.cons (.t (.cons (.n 3) (.cons (.n 4) .nil))) .nil))) (iEnumD (fV 0)) (fFz [2] (fPut 1 (fTup (fCons (fV 2) (fCons (fOp (Bo.fn .mod) (fOp (Bo.fn .sub) (cI 0) (fV 4)) (cI 4)) fNil))) (fV 3)))) (fRet (fBi (Bi.fn .tuple) (fCons (fV 1) fNil)))))
def g_inverse (fu : Nat) : List D → RV := runF 4 (b_inverse fu)
def N_times : List Str := ["move", "count"]
def b_times (fu : Nat) : Rf.Env → SO := (fSeq (fExpr (fCall (g_check_move fu) (fCons (fV 0) fNil))) (fSeq (fIfS (fOrT (fNotT (fTst (fIsi .int (fV 1)))) (fTst (fIsi .bool (fV 1)))) (fRaise 2) fPass) (fRet (fIf (fTst (fOp (cmpD .ge) (fV 1) (cI 0))) (fCall (g_power fu) (fCons (fV 0) (fCons (fV 1) fNil))) (fCall (g_power fu) (fCons (fCall (g_inverse fu) (fCons (fV 0) fNil)) (fCons (fOp (Bo.fn .sub) (cI 0) (fV 1)) fNil)))))))
def g_times (fu : Nat) : List D → RV := runF 0 (b_times fu)
def N__law_refused : List Str := ["move", "count", "e"]
def b__law_refused (fu : Nat) : Rf.Env → SO := (fSeq (fTry (fExpr (fCall (g_after fu) (fCons (fV 0) (fCons (cI 0) (fCons (fV 1) fNil))))) (fun c => match sub_ReelError c with | true => some ((fun c => .bool (is_BadTimes c)) c) | false => (fun _ => none) c)) (fRet (cB false)))
def g__law_refused (fu : Nat) : List D → RV := runF 1 (b__law_refused fu)
def N_law : List Str := ["script", "draws", "turn", "many", "move", "count", "place", "whole", "back", "late", "one", "two", "forth", "other", "there", "first", "last", "second", "wrong"]
def b_law (fu : Nat) : Rf.Env → SO := (fSeq (fSet 1 (fCall (g__law_draws fu) (fCons (fV 0) (fCons (cI 60) fNil)))) (fSeq (fFor (.n 2) (iRng1 (cI 5)) (fSeq (fSet 3 (fOp (Bo.fn .add) (cI 1) (fOp (Bo.fn .mod) (fBi (Bi.fn .int) (fCons (fOp ixD (fV 1) (fOp (Bo.fn .add) (cI 50) (fV 2))) fNil)) (cI 8)))) (fSeq (fFz [3] (fSet 4 (fCall (g__law_move fu) (fCons (fOp (Bo.fn .add) (fSlL (fV 1) (fOp (Bo.fn .mul) (cI 9) (fV 2))) (fV 1)) (fCons (fV 3) fNil))))) (fSeq (fFz [4] (fPar 7 8 (fCons (fCall (g_order_of fu) (fCons (fV 4) fNil)) (fCons (fCall (g__law_back fu) (fCons (fV 4) fNil)) fNil)))) (fSeq (fFor (.n 5) (iSeq (fLst (fCons (cI 0) (fCons (cI 1) (fCons (cI 2) (fCons (cI 3) (fCons (cI 7) (fCons (fOp (Bo.fn .mod) (fBi (Bi.fn .int) (fCons (fOp ixD (fV 1) (fOp (Bo.fn .add) (cI 40) (fV 2))) fNil)) (cI 100)) fNil)))))))) (fSeq (fFz [4, 5, 8] (fPar 12 13 (fCons (fCall (g__law_times fu) (fCons (fV 4) (fCons (fV 5) fNil))) (fCons (fCall (g__law_times fu) (fCons (fV 8) (fCons (fV 5) fNil))) fNil)))) (fSeq (fFz [4, 5, 6] (fIfS (fOrT (fTst (fOp (cmpD .ne) (fBi (Bi.fn .tuple) (fCons (fLc [6] (.n 6) (iRng1 (fV 3)) none (fCall (g_after fu) (fCons (fV 4) (fCons (fV 6) (fCons (fV 5) fNil))))) fNil)) (fV 12))) (fTst (fOp (cmpD .ne) (fBi (Bi.fn .tuple) (fCons (fLc [6] (.n 6) (iRng1 (fV 3)) none (fCall (g_after fu) (fCons (fV 4) (fCons (fV 6) (fCons (fOp (Bo.fn .sub) (cI 0) (fV 5)) fNil))))) fNil)) (fV 13)))) (fRet (cB false)) fPass)) (fSeq (fFz [4, 5] (fIfS (fOrT (fTst (fOp (cmpD .ne) (fCall (g_times fu) (fCons (fV 4) (fCons (fV 5) fNil))) (fV 12))) (fTst (fOp (cmpD .ne) (fCall (g_times fu) (fCons (fV 4) (fCons (fOp (Bo.fn .sub) (cI 0) (fV 5)) fNil))) (fV 13)))) (fRet (cB false)) fPass)) (fSeq (fSet 9 (fOp (Bo.fn .add) (fV 5) (fOp (Bo.fn .mul) (fV 7) (fOp (Bo.fn .add) (fOp (Bo.fn .pow) (cI 10) (cI 30)) (fBi (Bi.fn .int) (fCons (fOp ixD (fV 1) (fOp (Bo.fn .add) (cI 45) (fV 2))) fNil)))))) (fFz [3] (fFor (.n 6) (iRng1 (fV 3)) (fFz [4, 6, 9] (fIfS (fOrT (fTst (fOp (cmpD .ne) (fCall (g_after fu) (fCons (fV 4) (fCons (fV 6) (fCons (fV 9) fNil)))) (fOp ixD (fV 12) (fV 6)))) (fTst (fOp (cmpD .ne) (fCall (g_after fu) (fCons (fV 4) (fCons (fV 6) (fCons (fOp (Bo.fn .sub) (fV 5) (fOp (Bo.fn .mul) (fV 7) (fOp (Bo.fn .pow) (cI 10) (cI 25)))) fNil)))) (fOp ixD (fV 12) (fV 6))))) (fRet (cB false)) fPass))))))))) (fSeq (fPar 10 11 (fCons (fOp (Bo.fn .sub) (fOp (Bo.fn .mod) (fBi (Bi.fn .int) (fCons (fOp ixD (fV 1) (fOp (Bo.fn .add) (cI 30) (fV 2))) fNil)) (cI 500)) (cI 250)) (fCons (fOp (Bo.fn .mul) (fBi (Bi.fn .int) (fCons (fOp ixD (fV 1) (fOp (Bo.fn .add) (cI 35) (fV 2))) fNil)) (fOp (Bo.fn .pow) (cI 10) (cI 9))) fNil))) (fSeq (fFz [3] (fFor (.n 6) (iRng1 (fV 3)) (fSeq (fFz [4, 6, 10] (fAsg (.t (.cons (.n 14) (.cons (.n 15) .nil))) (fCall (g_after fu) (fCons (fV 4) (fCons (fV 6) (fCons (fV 10) fNil)))))) (fSeq (fFz [4, 11, 14] (fAsg (.t (.cons (.n 16) (.cons (.n 17) .nil))) (fCall (g_after fu) (fCons (fV 4) (fCons (fV 14) (fCons (fV 11) fNil)))))) (fFz [4, 6, 16] (fIfS (fTst (fOp (cmpD .ne) (fCall (g_after fu) (fCons (fV 4) (fCons (fV 6) (fCons (fOp (Bo.fn .add) (fV 10) (fV 11)) fNil)))) (fTup (fCons (fV 16) (fCons (fOp (Bo.fn .mod) (fBi (Bi.fn .int) (fCons (fOp (Bo.fn .add) (fV 15) (fV 17)) fNil)) (cI 4)) fNil))))) (fRet (cB false)) fPass)))))) (fFz [4] (fIfS (fNotT (fTst (fBi (Bi.fn .all) (fCons (fLc [18] (.n 18) (iSeq (fLst (fCons cN (fCons (cB true) (fCons (cS "1") (fCons (fTup (fCons (cI 1) fNil)) fNil)))))) none (fCall (g__law_refused fu) (fCons (fV 4) (fCons (fV 18) fNil)))) fNil)))) (fRet (cB false)) fPass))))))))) (fRet (fAnd (fOp (cmpD .eq) (fCall (g_after fu) (fCons (fTup (fCons (fTup (fCons (cI 1) (fCons (cI 1) fNil))) (fCons (fTup (fCons (cI 0) (fCons (cI 1) fNil))) fNil))) (fCons (cI 0) (fCons (cI 3) fNil)))) (fTup (fCons (cI 1) (fCons (cI 3) fNil)))) (fOp (cmpD .eq) (fCall (g_after fu) (fCons (fTup (fCons (fTup (fCons (cI 0) (fCons (cI 1) fNil))) fNil)) (fCons (cI 0) (fCons (fUn negD (cI 1)) fNil)))) (fTup (fCons (cI 0) (fCons (cI 3) fNil))))))))
def g_law (fu : Nat) : List D → RV := runF 18 (b_law fu)
section
variable {W : Wd} {exc : Nat → Addr} {k fu : Nat}
theorem s__law_draws (G : Gl W exc) (X : Cx) (H0 : Hp) (S0 : Addr → Prop) (i : In W X) (c : CxF k N__law_draws (defScope (top 26)) X) : SSs X exc H0 S0 (defBody (top 26)) (b__law_draws fu) := (sss_cons (sSet c (by decide +kernel) rfl (se_lst aN)) (sss_cons (sSet c (by decide +kernel) rfl xI) (sss_cons (ss_for c rfl (si_seq (se_slH (xV c.ok (by decide +kernel)) xI)) (gN c.ok (by decide +kernel)) (sss_cons (sSet c (by decide +kernel) rfl (xBi c.ok .abs (i.none G.n_abs) (by decide +kernel) (aC rfl (xV c.ok (by decide +kernel)) aN))) (sss_cons (sSet c (by decide +kernel) rfl (se_op .mod (xBi c.ok .int (i.none G.n_int) (by decide +kernel) (aC rfl (se_op .add (se_op .add (se_op .mul (xV c.ok (by decide +kernel)) xI) (xV c.ok (by decide +kernel))) xI) aN)) xI)) (sss_one (ss_if (tCm c.ok .ge rfl (xV c.ok (by decide +kernel)) (se_op .pow xI xI)) (sss_one (ss_for c rfl (iR1 c.ok (i.none G.n_range) (by decide +kernel) xI) (gN c.ok (by decide +kernel)) (sss_one (ss_if (tCm c.ok .gt rfl (xV c.ok (by decide +kernel)) xI) (sss_cons (sApp c (by decide +kernel) rfl (se_op .mod (xBi c.ok .int (i.none G.n_int) (by decide +kernel) (aC rfl (xV c.ok (by decide +kernel)) aN)) xI)) (sss_one (sSet c (by decide +kernel) rfl (se_op .fdiv (xV c.ok (by decide +kernel)) xI)))) sss_nil)))) (sss_one (sApp c (by decide +kernel) rfl (se_op .mod (se_op .fdiv (xBi c.ok .int (i.none G.n_int) (by decide +kernel) (aC rfl (se_op .add (se_op .mul (xV c.ok (by decide +kernel)) xI) xI) aN)) xI) xI)))))))) (sss_cons (ss_for c rfl (iR1 c.ok (i.none G.n_range) (by decide +kernel) (xV c.ok (by decide +kernel))) (gN c.ok (by decide +kernel)) (sss_one (ss_if (tCm c.ok .lt rfl (xBi c.ok .len (i.none G.n_len) (by decide +kernel) (aC rfl (xV c.ok (by decide +kernel)) aN)) (xV c.ok (by decide +kernel))) (sss_cons (sSet c (by decide +kernel) rfl (se_op .mod (xBi c.ok .int (i.none G.n_int) (by decide +kernel) (aC rfl (se_op .add (se_op .add (se_op .mul (xV c.ok (by decide +kernel)) xI) (xV c.ok (by decide +kernel))) xI) aN)) xI)) (sss_one (sApp c (by decide +kernel) rfl (se_op .mod (se_op .fdiv (xBi c.ok .int (i.none G.n_int) (by decide +kernel) (aC rfl (xV c.ok (by decide +kernel)) aN)) xI) xI)))) sss_nil))) (sss_one (ss_ret (se_slH (xV c.ok (by decide +kernel)) (xV c.ok (by decide +kernel)))))))))
theorem s__law_order_of (G : Gl W exc) (X : Cx) (H0 : Hp) (S0 : Addr → Prop) (i : In W X) (c : CxF k N__law_order_of (defScope (top 27)) X) : SSs X exc H0 S0 (defBody (top 27)) (b__law_order_of fu) := (sss_cons (sPar c (by decide +kernel) (by kernel_rfl) (aC rfl (xLr1 c.ok (i.none G.n_list) (i.none G.n_range) (by decide +kernel) (xV c.ok (by decide +kernel))) (aC rfl (se_lst aN) aN))) (sss_cons (ss_for c rfl (iR1 c.ok (i.none G.n_range) (by decide +kernel) (xV c.ok (by decide +kernel))) (gN c.ok (by decide +kernel)) (sss_cons (sSet c (by decide +kernel) rfl (se_ix c.ok rfl (xV c.ok (by decide +kernel)) (se_op .mod (xBi c.ok .int (i.none G.n_int) (by decide +kernel) (aC rfl (se_ix c.ok rfl (xV c.ok (by decide +kernel)) (xV c.ok (by decide +kernel))) aN)) (xBi c.ok .len (i.none G.n_len) (by decide +kernel) (aC rfl (xV c.ok (by decide +kernel)) aN))))) (sss_cons (ss_frz [5] (sApp c (by decide +kernel) rfl (xV c.ok (by decide +kernel)))) (sss_one (sSetLcI (own := [("other", 6)]) c (by decide +kernel) (by kernel_rfl) (by decide +kernel) (si_seq (xV c.ok (by decide +kernel))) (fun Y c1 i1 => (gN c1 (by decide +kernel))) (fun Y c1 i1 => (tCm c1 .ne rfl (xV c1 (by decide +kernel)) (xV c1 (by decide +kernel)))) (fun Y c1 i1 => (xV c1 (by decide +kernel))) i))))) (sss_one (sRetV c (by decide +kernel)))))
theorem s__law_move (G : Gl W exc) (F__law_order_of : Fn W exc k "_law_order_of" 2 (g__law_order_of fu)) (X : Cx) (H0 : Hp) (S0 : Addr → Prop) (i : In W X) (c : CxF k N__law_move (defScope (top 28)) X) : SSs X exc H0 S0 (defBody (top 28)) (b__law_move fu) := (sss_cons (sAsg c (gT c.ok (by decide +kernel) (sgs_cons rfl (gN c.ok (by decide +kernel)) (sgs_cons rfl (gN c.ok (by decide +kernel)) sgs_nil))) rfl (by kernel_rfl) rfl (se_tup (aC rfl (xCall c.ok i F__law_order_of (len_cons (len_cons len_nil)) (by decide +kernel) (aC rfl (xV c.ok (by decide +kernel)) (aC rfl (xV c.ok (by decide +kernel)) aN))) (aC rfl (se_op .mod (xBi c.ok .int (i.none G.n_int) (by decide +kernel) (aC rfl (se_ix c.ok rfl (xV c.ok (by decide +kernel)) xI) aN)) xI) aN)))) (sss_one (ss_ret (xBi c.ok .tuple (i.none G.n_tuple) (by decide +kernel) (aC rfl (xLc (own := [("k", 4)]) c.ok (by decide +kernel) (iR1 c.ok (i.none G.n_range) (by decide +kernel) (xV c.ok (by decide +kernel))) (fun Y c1 i1 => (gN c1 (by decide +kernel))) (fun Y c1 i1 => (se_tup (aC rfl (se_ix c1 rfl (xV c1 (by decide +kernel)) (xV c1 (by decide +kernel))) (aC rfl (se_if (tCm c1 .eq rfl (xV c1 (by decide +kernel)) xI) xI (se_op .mod (se_op .fdiv (xBi c1 .int (i1.none G.n_int) (by decide +kernel) (aC rfl (se_ix c1 rfl (xV c1 (by decide +kernel)) xI) aN)) (se_op .add xI (se_op .mul xI (xV c1 (by decide +kernel))))) xI)) aN)))) i) aN)))))
theorem s__law_back (G : Gl W exc) (X : Cx) (H0 : Hp) (S0 : Addr → Prop) (i : In W X) (c : CxF k N__law_back (defScope (top 32)) X) : SSs X exc H0 S0 (defBody (top 32)) (b__law_back fu) := (sss_cons (sSet c (by decide +kernel) rfl xD0) (sss_cons (ss_for c rfl (iR1 c.ok (i.none G.n_range) (by decide +kernel) (xBi c.ok .len (i.none G.n_len) (by decide +kernel) (aC rfl (xV c.ok (by decide +kernel)) aN))) (gN c.ok (by decide +kernel)) (sss_one (ss_frz [2] (sPut c (by decide +kernel) rfl (fun _ => rfl) (se_tup (aC rfl (xV c.ok (by decide +kernel)) (aC rfl (se_op .mod (xBi c.ok .int (i.none G.n_int) (by decide +kernel) (aC rfl (se_op .sub xI (se_ix c.ok rfl (se_ix c.ok rfl (xV c.ok (by decide +kernel)) (xV c.ok (by decide +kernel))) xI)) aN)) xI) aN))) (se_ix c.ok rfl (se_ix c.ok rfl (xV c.ok (by decide +kernel)) (xV c.ok (by decide +kernel))) xI))))) (sss_one (ss_ret (xBi c.ok .tuple (i.none G.n_tuple) (by decide +kernel) (aC rfl (xLc (own := [("k", 2)]) c.ok (by decide +kernel) (iR1 c.ok (i.none G.n_range) (by decide +kernel) (xBi c.ok .len (i.none G.n_len) (by decide +kernel) (aC rfl (xV c.ok (by decide +kernel)) aN))) (fun Y c1 i1 => (gN c1 (by decide +kernel))) (fun Y c1 i1 => (se_ix c1 rfl (xV c1 (by decide +kernel)) (xV c1 (by decide +kernel)))) i) aN))))))
theorem s_is_whole (G : Gl W exc) (X : Cx) (H0 : Hp) (S0 : Addr → Prop) (i : In W X) (c : CxF k N_is_whole (defScope (top 8)) X) : SSs X exc H0 S0 (defBody (top 8)) (b_is_whole fu) := (sss_one (ss_ret (se_and (pos' := ⟨0, 0, 0, 0⟩) (xIsi c.ok .int (i.none G.n_isinstance) (i.none G.n_int) (by decide +kernel) (xV c.ok (by decide +kernel))) (se_and (pos' := ⟨0, 0, 0, 0⟩) (se_not (xIsi c.ok .bool (i.none G.n_isinstance) (i.none G.n_bool) (by decide +kernel) (xV c.ok (by decide +kernel)))) (se_one (xCh c.ok .le .le rfl (xV c.ok (by decide +kernel)) (xV c.ok (by decide +kernel)) (xV c.ok (by decide +kernel))))))))
theorem s__are_pairs (G : Gl W exc) (F_is_whole : Fn W exc k "is_whole" 3 (g_is_whole fu)) (X : Cx) (H0 : Hp) (S0 : Addr → Prop) (i : In W X) (c : CxF k N__are_pairs (defScope (top 9)) X) : SSs X exc H0 S0 (defBody (top 9)) (b__are_pairs fu) := (sss_cons (ss_if (sw_or (st_not (st_val (fun _ => rfl) (xIsi c.ok .tuple (i.none G.n_isinstance) (i.none G.n_tuple) (by decide +kernel) (xV c.ok (by decide +kernel))))) (sw_or1 (st_not (tCh c.ok .le .le rfl xI (xBi c.ok .len (i.none G.n_len) (by decide +kernel) (aC rfl (xV c.ok (by decide +kernel)) aN)) (xGI c.ok (i.int G.i_MOST_PLACES) (by decide +kernel)))))).st (sss_one (ss_ret xB)) sss_nil) (sss_cons (ss_for c rfl (si_seq (xV c.ok (by decide +kernel))) (gN c.ok (by decide +kernel)) (sss_cons (ss_if (sw_or (st_not (st_val (fun _ => rfl) (xIsi c.ok .tuple (i.none G.n_isinstance) (i.none G.n_tuple) (by decide +kernel) (xV c.ok (by decide +kernel))))) (sw_or (tCm c.ok .ne rfl (xBi c.ok .len (i.none G.n_len) (by decide +kernel) (aC rfl (xV c.ok (by decide +kernel)) aN)) xI) (sw_or1 (st_not (st_val (fun _ => rfl) (xCall c.ok i F_is_whole (len_cons (len_cons (len_cons len_nil))) (by decide +kernel) (aC rfl (se_ix c.ok rfl (xV c.ok (by decide +kernel)) xI) (aC rfl xI (aC rfl (xV c.ok (by decide +kernel)) aN))))))))).st (sss_one (ss_ret xB)) sss_nil) (sss_one (ss_if (st_not (st_val (fun _ => rfl) (xCall c.ok i F_is_whole (len_cons (len_cons (len_cons len_nil))) (by decide +kernel) (aC rfl (se_ix c.ok rfl (xV c.ok (by decide +kernel)) xI) (aC rfl xI (aC rfl (xV c.ok (by decide +kernel)) aN)))))) (sss_one (ss_ret xB)) sss_nil)))) (sss_one (ss_ret xB))))
theorem s__is_each_once (G : Gl W exc) (F__are_pairs : Fn W exc k "_are_pairs" 3 (g__are_pairs fu)) (X : Cx) (H0 : Hp) (S0 : Addr → Prop) (i : In W X) (c : CxF k N__is_each_once (defScope (top 10)) X) : SSs X exc H0 S0 (defBody (top 10)) (b__is_each_once fu) := (sss_cons (ss_if (st_not (st_val (fun _ => rfl) (xCall c.ok i F__are_pairs (len_cons (len_cons (len_cons len_nil))) (by decide +kernel) (aC rfl (xV c.ok (by decide +kernel)) (aC rfl (se_op .sub (xGI c.ok (i.int G.i_MOST_PLACES) (by decide +kernel)) xI) (aC rfl (se_op .sub (xGI c.ok (i.int G.i_QUARTERS) (by decide +kernel)) xI) aN)))))) (sss_one (ss_ret xB)) sss_nil) (sss_one (ss_ret (xCmp c.ok .eq rfl (xBi c.ok .sorted (i.none G.n_sorted) (by decide +kernel) (aC rfl (xLc (own := [("pair", 1)]) c.ok (by decide +kernel) (si_seq (xV c.ok (by decide +kernel))) (fun Y c1 i1 => (gN c1 (by decide +kernel))) (fun Y c1 i1 => (se_ix c1 rfl (xV c1 (by decide +kernel)) xI)) i) aN)) (xLr1 c.ok (i.none G.n_list) (i.none G.n_range) (by decide +kernel) (xBi c.ok .len (i.none G.n_len) (by decide +kernel) (aC rfl (xV c.ok (by decide +kernel)) aN)))))))
theorem s_is_move (G : Gl W exc) (F__is_each_once : Fn W exc k "_is_each_once" 1 (g__is_each_once fu)) (X : Cx) (H0 : Hp) (S0 : Addr → Prop) (i : In W X) (c : CxF k N_is_move (defScope (top 11)) X) : SSs X exc H0 S0 (defBody (top 11)) (b_is_move fu) := (sss_one (ss_ret (xCall c.ok i F__is_each_once (len_cons len_nil) (by decide +kernel) (aC rfl (xV c.ok (by decide +kernel)) aN))))
theorem s_check_move (G : Gl W exc) (F_is_move : Fn W exc k "is_move" 1 (g_is_move fu)) (X : Cx) (H0 : Hp) (S0 : Addr → Prop) (i : In W X) (c : CxF k N_check_move (defScope (top 12)) X) : SSs X exc H0 S0 (defBody (top 12)) (b_check_move fu) := (sss_one (ss_if (st_not (st_val (fun _ => rfl) (xCall c.ok i F_is_move (len_cons len_nil) (by decide +kernel) (aC rfl (xV c.ok (by decide +kernel)) aN)))) (sss_one (sRaise c (G.x_BadMove.at i) (by decide +kernel))) sss_nil))
theorem s_still_move (G : Gl W exc) (X : Cx) (H0 : Hp) (S0 : Addr → Prop) (i : In W X) (c : CxF k N_still_move (defScope (top 13)) X) : SSs X exc H0 S0 (defBody (top 13)) (b_still_move fu) := (sss_one (ss_ret (xBi c.ok .tuple (i.none G.n_tuple) (by decide +kernel) (aC rfl (xLc (own := [("place", 1)]) c.ok (by decide +kernel) (iR1 c.ok (i.none G.n_range) (by decide +kernel) (xV c.ok (by decide +kernel))) (fun Y c1 i1 => (gN c1 (by decide +kernel))) (fun Y c1 i1 => (se_tup (aC rfl (xV c1 (by decide +kernel)) (aC rfl xI aN)))) i) aN))))
theorem s_compose (G : Gl W exc) (X : Cx) (H0 : Hp) (S0 : Addr → Prop) (i : In W X) (c : CxF k N_compose (defScope (top 14)) X) : SSs X exc H0 S0 (defBody (top 14)) (b_compose fu) := (sss_cons (sSet c (by decide +kernel) rfl (se_lst aN)) (sss_cons (ss_for c rfl (si_seq (xV c.ok (by decide +kernel))) (gT c.ok (by decide +kernel) (sgs_cons rfl (gN c.ok (by decide +kernel)) (sgs_cons rfl (gN c.ok (by decide +kernel)) sgs_nil))) (sss_cons (sAsg c (gT c.ok (by decide +kernel) (sgs_cons rfl (gN c.ok (by decide +kernel)) (sgs_cons rfl (gN c.ok (by decide +kernel)) sgs_nil))) rfl (by kernel_rfl) rfl (se_ix c.ok rfl (xV c.ok (by decide +kernel)) (xV c.ok (by decide +kernel)))) (sss_one (ss_frz [5] (sApp c (by decide +kernel) rfl (se_tup (aC rfl (xV c.ok (by decide +kernel)) (aC rfl (se_op .mod (se_op .add (xV c.ok (by decide +kernel)) (xV c.ok (by decide +kernel))) (xGI c.ok (i.int G.i_QUARTERS) (by decide +kernel))) aN)))))))) (sss_one (ss_ret (xBi c.ok .tuple (i.none G.n_tuple) (by decide +kernel) (aC rfl (xV c.ok (by decide +kernel)) aN))))))
theorem s_order (G : Gl W exc) (F_still_move : Fn W exc k "still_move" 1 (g_still_move fu)) (F_compose : Fn W exc k "compose" 2 (g_compose fu)) (X : Cx) (H0 : Hp) (S0 : Addr → Prop) (i : In W X) (c : CxF k N_order (defScope (top 18)) X) : SSs X exc H0 S0 (defBody (top 18)) (b_order fu) := (sss_cons (sSet c (by decide +kernel) rfl (xCall c.ok i F_still_move (len_cons len_nil) (by decide +kernel) (aC rfl (xBi c.ok .len (i.none G.n_len) (by decide +kernel) (aC rfl (xV c.ok (by decide +kernel)) aN)) aN))) (sss_cons (sPar c (by decide +kernel) (by kernel_rfl) (aC rfl xI (aC rfl (xV c.ok (by decide +kernel)) aN))) (sss_cons (ss_while c fu (tCm c.ok .ne rfl (xV c.ok (by decide +kernel)) (xV c.ok (by decide +kernel))) (sss_cons (ss_frz [3] (sSet c (by decide +kernel) rfl (xCall c.ok i F_compose (len_cons (len_cons len_nil)) (by decide +kernel) (aC rfl (xV c.ok (by decide +kernel)) (aC rfl (xV c.ok (by decide +kernel)) aN))))) (sss_one (sAug c .add (by decide +kernel) xI)))) (sss_one (sRetV c (by decide +kernel))))))
theorem s_order_of (G : Gl W exc) (F_check_move : Fn W exc k "check_move" 1 (g_check_move fu)) (F_order : Fn W exc k "order" 1 (g_order fu)) (X : Cx) (H0 : Hp) (S0 : Addr → Prop) (i : In W X) (c : CxF k N_order_of (defScope (top 19)) X) : SSs X exc H0 S0 (defBody (top 19)) (b_order_of fu) := (sss_cons (ss_expr rfl (xCall c.ok i F_check_move (len_cons len_nil) (by decide +kernel) (aC rfl (xV c.ok (by decide +kernel)) aN))) (sss_one (ss_ret (xCall c.ok i F_order (len_cons len_nil) (by decide +kernel) (aC rfl (xV c.ok (by decide +kernel)) aN)))))
theorem s__law_rest (G : Gl W exc) (X : Cx) (H0 : Hp) (S0 : Addr → Prop) (i : In W X) (c : CxF k N__law_rest (defScope (top 30)) X) : SSs X exc H0 S0 (defBody (top 30)) (b__law_rest fu) := (sss_one (ss_ret (xBi c.ok .tuple (i.none G.n_tuple) (by decide +kernel) (aC rfl (xLc (own := [("k", 1)]) c.ok (by decide +kernel) (iR1 c.ok (i.none G.n_range) (by decide +kernel) (xV c.ok (by decide +kernel))) (fun Y c1 i1 => (gN c1 (by decide +kernel))) (fun Y c1 i1 => (se_tup (aC rfl (xV c1 (by decide +kernel)) (aC rfl xI aN)))) i) aN))))
theorem s__law_then (G : Gl W exc) (X : Cx) (H0 : Hp) (S0 : Addr → Prop) (i : In W X) (c : CxF k N__law_then (defScope (top 29)) X) : SSs X exc H0 S0 (defBody (top 29)) (b__law_then fu) := (sss_one (ss_ret (xBi c.ok .tuple (i.none G.n_tuple) (by decide +kernel) (aC rfl (xLc (own := [("place", 2), ("turn", 3)]) c.ok (by decide +kernel) (si_seq (xV c.ok (by decide +kernel))) (fun Y c1 i1 => (gT c1 (by decide +kernel) (sgs_cons rfl (gN c1 (by decide +kernel)) (sgs_cons rfl (gN c1 (by decide +kernel)) sgs_nil)))) (fun Y c1 i1 => (se_tup (aC rfl (se_ix c1 rfl (se_ix c1 rfl (xV c1 (by decide +kernel)) (xV c1 (by decide +kernel))) xI) (aC rfl (se_op .mod (xBi c1 .int (i1.none G.n_int) (by decide +kernel) (aC rfl (se_op .add (xV c1 (by decide +kernel)) (se_ix c1 rfl (se_ix c1 rfl (xV c1 (by decide +kernel)) (xV c1 (by decide +kernel))) xI)) aN)) xI) aN)))) i) aN))))
theorem s__law_times (G : Gl W exc) (F__law_rest : Fn W exc k "_law_rest" 1 (g__law_rest fu)) (F__law_then : Fn W exc k "_law_then" 2 (g__law_then fu)) (X : Cx) (H0 : Hp) (S0 : Addr → Prop) (i : In W X) (c : CxF k N__law_times (defScope (top 31)) X) : SSs X exc H0 S0 (defBody (top 31)) (b__law_times fu) := (sss_cons (sSet c (by decide +kernel) rfl (xCall c.ok i F__law_rest (len_cons len_nil) (by decide +kernel) (aC rfl (xBi c.ok .len (i.none G.n_len) (by decide +kernel) (aC rfl (xV c.ok (by decide +kernel)) aN)) aN))) (sss_cons (ss_for c rfl (iR1 c.ok (i.none G.n_range) (by decide +kernel) (xV c.ok (by decide +kernel))) (gN c.ok (by decide +kernel)) (sss_one (ss_frz [2] (sSet c (by decide +kernel) rfl (xCall c.ok i F__law_then (len_cons (len_cons len_nil)) (by decide +kernel) (aC rfl (xV c.ok (by decide +kernel)) (aC rfl (xV c.ok (by decide +kernel)) aN))))))) (sss_one (sRetV c (by decide +kernel)))))
theorem s__check_place (G : Gl W exc) (F_check_move : Fn W exc k "check_move" 1 (g_check_move fu)) (F_is_whole : Fn W exc k "is_whole" 3 (g_is_whole fu)) (X : Cx) (H0 : Hp) (S0 : Addr → Prop) (i : In W X) (c : CxF k N__check_place (defScope (top 22)) X) : SSs X exc H0 S0 (defBody (top 22)) (b__check_place fu) := (sss_cons (ss_expr rfl (xCall c.ok i F_check_move (len_cons len_nil) (by decide +kernel) (aC rfl (xV c.ok (by decide +kernel)) aN))) (sss_one (ss_if (st_not (st_val (fun _ => rfl) (xCall c.ok i F_is_whole (len_cons (len_cons (len_cons len_nil))) (by decide +kernel) (aC rfl (xV c.ok (by decide +kernel)) (aC rfl xI (aC rfl (se_op .sub (xBi c.ok .len (i.none G.n_len) (by decide +kernel) (aC rfl (xV c.ok (by decide +kernel)) aN)) xI) aN)))))) (sss_one (sRaise c (G.x_BadPlace.at i) (by decide +kernel))) sss_nil)))
theorem s_ring_from (G : Gl W exc) (X : Cx) (H0 : Hp) (S0 : Addr → Prop) (i : In W X) (c : CxF k N_ring_from (defScope (top 21)) X) : SSs X exc H0 S0 (defBody (top 21)) (b_ring_from fu) := (sss_cons (sSet c (by decide +kernel) rfl (se_lst (aC rfl (xV c.ok (by decide +kernel)) aN))) (sss_cons (ss_while c fu (tCm c.ok .ne rfl (se_ix c.ok rfl (se_ix c.ok rfl (xV c.ok (by decide +kernel)) (se_ix c.ok rfl (xV c.ok (by decide +kernel)) (se_neg xI))) xI) (xV c.ok (by decide +kernel))) (sss_one (sApp c (by decide +kernel) rfl (se_ix c.ok rfl (se_ix c.ok rfl (xV c.ok (by decide +kernel)) (se_ix c.ok rfl (xV c.ok (by decide +kernel)) (se_neg xI))) xI)))) (sss_one (sRetV c (by decide +kernel)))))
theorem s_landed (G : Gl W exc) (F_ring_from : Fn W exc k "ring_from" 2 (g_ring_from fu)) (X : Cx) (H0 : Hp) (S0 : Addr → Prop) (i : In W X) (c : CxF k N_landed (defScope (top 23)) X) : SSs X exc H0 S0 (defBody (top 23)) (b_landed fu) := (sss_cons (sSet c (by decide +kernel) rfl (xCall c.ok i F_ring_from (len_cons (len_cons len_nil)) (by decide +kernel) (aC rfl (xV c.ok (by decide +kernel)) (aC rfl (xV c.ok (by decide +kernel)) aN)))) (sss_cons (sPar c (by decide +kernel) (by kernel_rfl) (aC rfl (se_op .fdiv (xV c.ok (by decide +kernel)) (xBi c.ok .len (i.none G.n_len) (by decide +kernel) (aC rfl (xV c.ok (by decide +kernel)) aN))) (aC rfl (se_op .mod (xV c.ok (by decide +kernel)) (xBi c.ok .len (i.none G.n_len) (by decide +kernel) (aC rfl (xV c.ok (by decide +kernel)) aN))) aN))) (sss_cons (sSet c (by decide +kernel) rfl (se_op .add (se_op .mul (xV c.ok (by decide +kernel)) (xBi c.ok .sum (i.none G.n_sum) (by decide +kernel) (aC rfl (xLc (own := [("one", 7)]) c.ok (by decide +kernel) (si_seq (xV c.ok (by decide +kernel))) (fun Y c1 i1 => (gN c1 (by decide +kernel))) (fun Y c1 i1 => (se_ix c1 rfl (se_ix c1 rfl (xV c1 (by decide +kernel)) (xV c1 (by decide +kernel))) xI)) i) aN))) (xBi c.ok .sum (i.none G.n_sum) (by decide +kernel) (aC rfl (xLc (own := [("one", 7)]) c.ok (by decide +kernel) (si_seq (se_slH (xV c.ok (by decide +kernel)) (xV c.ok (by decide +kernel)))) (fun Y c1 i1 => (gN c1 (by decide +kernel))) (fun Y c1 i1 => (se_ix c1 rfl (se_ix c1 rfl (xV c1 (by decide +kernel)) (xV c1 (by decide +kernel))) xI)) i) aN)))) (sss_one (ss_ret (se_tup (aC rfl (se_ix c.ok rfl (xV c.ok (by decide +kernel)) (xV c.ok (by decide +kernel))) (aC rfl (se_op .mod (xV c.ok (by decide +kernel)) (xGI c.ok (i.int G.i_QUARTERS) (by decide +kernel))) aN))))))))
theorem s_after (G : Gl W exc) (F__check_place : Fn W exc k "_check_place" 2 (g__check_place fu)) (F_landed : Fn W exc k "landed" 3 (g_landed fu)) (X : Cx) (H0 : Hp) (S0 : Addr → Prop) (i : In W X) (c : CxF k N_after (defScope (top 24)) X) : SSs X exc H0 S0 (defBody (top 24)) (b_after fu) := (sss_cons (ss_expr rfl (xCall c.ok i F__check_place (len_cons (len_cons len_nil)) (by decide +kernel) (aC rfl (xV c.ok (by decide +kernel)) (aC rfl (xV c.ok (by decide +kernel)) aN)))) (sss_cons (ss_if (sw_or (st_not (st_val (fun _ => rfl) (xIsi c.ok .int (i.none G.n_isinstance) (i.none G.n_int) (by decide +kernel) (xV c.ok (by decide +kernel))))) (sw_or1 (st_val (fun _ => rfl) (xIsi c.ok .bool (i.none G.n_isinstance) (i.none G.n_bool) (by decide +kernel) (xV c.ok (by decide +kernel)))))).st (sss_one (sRaise c (G.x_BadTimes.at i) (by decide +kernel))) sss_nil) (sss_one (ss_ret (xCall c.ok i F_landed (len_cons (len_cons (len_cons len_nil))) (by decide +kernel) (aC rfl (xV c.ok (by decide +kernel)) (aC rfl (xV c.ok (by decide +kernel)) (aC rfl (xV c.ok (by decide +kernel)) aN))))))))
theorem s_power (G : Gl W exc) (F_still_move : Fn W exc k "still_move" 1 (g_still_move fu)) (F_compose : Fn W exc k "compose" 2 (g_compose fu)) (X : Cx) (H0 : Hp) (S0 : Addr → Prop) (i : In W X) (c : CxF k N_power (defScope (top 16)) X) : SSs X exc H0 S0 (defBody (top 16)) (b_power fu) := (sss_cons (sSet c (by decide +kernel) rfl (xCall c.ok i F_still_move (len_cons len_nil) (by decide +kernel) (aC rfl (xBi c.ok .len (i.none G.n_len) (by decide +kernel) (aC rfl (xV c.ok (by decide +kernel)) aN)) aN))) (sss_cons (sSet c (by decide +kernel) rfl (xV c.ok (by decide +kernel))) (sss_cons (ss_while c fu (tCm c.ok .gt rfl (xV c.ok (by decide +kernel)) xI) (sss_cons (ss_if (tCm c.ok .eq rfl (se_op .mod (xV c.ok (by decide +kernel)) xI) xI) (sss_one (ss_frz [2, 3] (sSet c (by decide +kernel) rfl (xCall c.ok i F_compose (len_cons (len_cons len_nil)) (by decide +kernel) (aC rfl (xV c.ok (by decide +kernel)) (aC rfl (xV c.ok (by decide +kernel)) aN)))))) sss_nil) (sss_cons (ss_frz [3] (sSet c (by decide +kernel) rfl (xCall c.ok i F_compose (len_cons (len_cons len_nil)) (by decide +kernel) (aC rfl (xV c.ok (by decide +kernel)) (aC rfl (xV c.ok (by decide +kernel)) aN))))) (sss_one (sAug c .fdiv (by decide +kernel) xI))))) (sss_one (sRetV c (by decide +kernel))))))
theorem s_inverse (G : Gl W exc) (X : Cx) (H0 : Hp) (S0 : Addr → Prop) (i : In W X) (c : CxF k N_inverse (defScope (top 15)) X) : SSs X exc H0 S0 (defBody (top 15)) (b_inverse fu) := (sss_cons (sSet c (by decide +kernel) rfl (se_op .mul (se_lst (aC rfl xN aN)) (xBi c.ok .len (i.none G.n_len) (by decide +kernel) (aC rfl (xV c.ok (by decide +kernel)) aN)))) (sss_cons (ss_for c rfl (iEn c.ok (i.none G.n_enumerate) (by decide +kernel) (xV c.ok (by decide +kernel))) (gT c.ok (by decide +kernel) (sgs_cons rfl (gN c.ok (by decide +kernel)) (sgs_cons rfl (gT c.ok (by decide +kernel) (sgs_cons rfl (gN c.ok (by decide +kernel)) (sgs_cons rfl (gN c.ok (by decide +kernel)) sgs_nil))) sgs_nil))) (sss_one (ss_frz [2] (sPut c (by decide +kernel) rfl (fun _ => rfl) (se_tup (aC rfl (xV c.ok (by decide +kernel)) (aC rfl (se_op .mod (se_op .sub xI (xV c.ok (by decide +kernel))) (xGI c.ok (i.int G.i_QUARTERS) (by decide +kernel))) aN))) (xV c.ok (by decide +kernel)))))) (sss_one (ss_ret (xBi c.ok .tuple (i.none G.n_tuple) (by decide +kernel) (aC rfl (xV c.ok (by decide +kernel)) aN))))))
theorem s_times (G : Gl W exc) (F_check_move : Fn W exc k "check_move" 1 (g_check_move fu)) (F_power : Fn W exc k "power" 2 (g_power fu)) (F_inverse : Fn W exc k "inverse" 1 (g_inverse fu)) (X : Cx) (H0 : Hp) (S0 : Addr → Prop) (i : In W X) (c : CxF k N_times (defScope (top 17)) X) : SSs X exc H0 S0 (defBody (top 17)) (b_times fu) := (sss_cons (ss_expr rfl (xCall c.ok i F_check_move (len_cons len_nil) (by decide +kernel) (aC rfl (xV c.ok (by decide +kernel)) aN))) (sss_cons (ss_if (sw_or (st_not (st_val (fun _ => rfl) (xIsi c.ok .int (i.none G.n_isinstance) (i.none G.n_int) (by decide +kernel) (xV c.ok (by decide +kernel))))) (sw_or1 (st_val (fun _ => rfl) (xIsi c.ok .bool (i.none G.n_isinstance) (i.none G.n_bool) (by decide +kernel) (xV c.ok (by decide +kernel)))))).st (sss_one (sRaise c (G.x_BadTimes.at i) (by decide +kernel))) sss_nil) (sss_one (ss_ret (se_if (tCm c.ok .ge rfl (xV c.ok (by decide +kernel)) xI) (xCall c.ok i F_power (len_cons (len_cons len_nil)) (by decide +kernel) (aC rfl (xV c.ok (by decide +kernel)) (aC rfl (xV c.ok (by decide +kernel)) aN))) (xCall c.ok i F_power (len_cons (len_cons len_nil)) (by decide +kernel) (aC rfl (xCall c.ok i F_inverse (len_cons len_nil) (by decide +kernel) (aC rfl (xV c.ok (by decide +kernel)) aN)) (aC rfl (se_op .sub xI (xV c.ok (by decide +kernel))) aN))))))))
theorem s__law_refused (G : Gl W exc) (F_after : Fn W exc k "after" 3 (g_after fu)) (X : Cx) (H0 : Hp) (S0 : Addr → Prop) (i : In W X) (c : CxF k N__law_refused (defScope (top 34)) X) : SSs X exc H0 S0 (defBody (top 34)) (b__law_refused fu) := (sss_cons (ss_try c (hsN 2 c (by decide +kernel) i (i.names G.x_ReelError c.ok (by decide +kernel)) G.m_ReelError (fun _ => rfl) (suIs c i G.eC G.k_BadTimes (by decide +kernel) G.n_isinstance G.x_BadTimes) HsOk.nil) (fun pn xe c50 => (sss_one (ss_expr rfl (xCall c50.ok (i.tr pn xe) F_after (len_cons (len_cons (len_cons len_nil))) (by decide +kernel) (aC rfl (xV c50.ok (by decide +kernel)) (aC rfl xI (aC rfl (xV c50.ok (by decide +kernel)) aN)))))))) (sss_one (ss_ret xB)))
theorem s_law (G : Gl W exc) (F__law_draws : Fn W exc k "_law_draws" 2 (g__law_draws fu)) (F__law_move : Fn W exc k "_law_move" 2 (g__law_move fu)) (F__law_back : Fn W exc k "_law_back" 1 (g__law_back fu)) (F_order_of : Fn W exc k "order_of" 1 (g_order_of fu)) (F__law_times : Fn W exc k "_law_times" 2 (g__law_times fu)) (F_after : Fn W exc k "after" 3 (g_after fu)) (F_times : Fn W exc k "times" 2 (g_times fu)) (F__law_refused : Fn W exc k "_law_refused" 2 (g__law_refused fu)) (X : Cx) (H0 : Hp) (S0 : Addr → Prop) (i : In W X) (c : CxF k N_law (defScope (top 35)) X) : SSs X exc H0 S0 (defBody (top 35)) (b_law fu) := (sss_cons (sSet c (by decide +kernel) rfl (xCall c.ok i F__law_draws (len_cons (len_cons len_nil)) (by decide +kernel) (aC rfl (xV c.ok (by decide +kernel)) (aC rfl xI aN)))) (sss_cons (ss_for c rfl (iR1 c.ok (i.none G.n_range) (by decide +kernel) xI) (gN c.ok (by decide +kernel)) (sss_cons (sSet c (by decide +kernel) rfl (se_op .add xI (se_op .mod (xBi c.ok .int (i.none G.n_int) (by decide +kernel) (aC rfl (se_ix c.ok rfl (xV c.ok (by decide +kernel)) (se_op .add xI (xV c.ok (by decide +kernel)))) aN)) xI))) (sss_cons (ss_frz [3] (sSet c (by decide +kernel) rfl (xCall c.ok i F__law_move (len_cons (len_cons len_nil)) (by decide +kernel) (aC rfl (se_op .add (se_slL (xV c.ok (by decide +kernel)) (se_op .mul xI (xV c.ok (by decide +kernel)))) (xV c.ok (by decide +kernel))) (aC rfl (xV c.ok (by decide +kernel)) aN))))) (sss_cons (ss_frz [4] (sPar c (by decide +kernel) (by kernel_rfl) (aC rfl (xCall c.ok i F_order_of (len_cons len_nil) (by decide +kernel) (aC rfl (xV c.ok (by decide +kernel)) aN)) (aC rfl (xCall c.ok i F__law_back (len_cons len_nil) (by decide +kernel) (aC rfl (xV c.ok (by decide +kernel)) aN)) aN)))) (sss_cons (ss_for c rfl (si_seq (se_lst (aC rfl xI (aC rfl xI (aC rfl xI (aC rfl xI (aC rfl xI (aC rfl (se_op .mod (xBi c.ok .int (i.none G.n_int) (by decide +kernel) (aC rfl (se_ix c.ok rfl (xV c.ok (by decide +kernel)) (se_op .add xI (xV c.ok (by decide +kernel)))) aN)) xI) aN)))))))) (gN c.ok (by decide +kernel)) (sss_cons (ss_frz [4, 5, 8] (sPar c (by decide +kernel) (by kernel_rfl) (aC rfl (xCall c.ok i F__law_times (len_cons (len_cons len_nil)) (by decide +kernel) (aC rfl (xV c.ok (by decide +kernel)) (aC rfl (xV c.ok (by decide +kernel)) aN))) (aC rfl (xCall c.ok i F__law_times (len_cons (len_cons len_nil)) (by decide +kernel) (aC rfl (xV c.ok (by decide +kernel)) (aC rfl (xV c.ok (by decide +kernel)) aN))) aN)))) (sss_cons (ss_frz [4, 5, 6] (ss_if (sw_or (tCm c.ok .ne rfl (xBi c.ok .tuple (i.none G.n_tuple) (by decide +kernel) (aC rfl (xLc (own := [("place", 6)]) c.ok (by decide +kernel) (iR1 c.ok (i.none G.n_range) (by decide +kernel) (xV c.ok (by decide +kernel))) (fun Y c1 i1 => (gN c1 (by decide +kernel))) (fun Y c1 i1 => (xCall c1 i1 F_after (len_cons (len_cons (len_cons len_nil))) (by decide +kernel) (aC rfl (xV c1 (by decide +kernel)) (aC rfl (xV c1 (by decide +kernel)) (aC rfl (xV c1 (by decide +kernel)) aN))))) i) aN)) (xV c.ok (by decide +kernel))) (sw_or1 (tCm c.ok .ne rfl (xBi c.ok .tuple (i.none G.n_tuple) (by decide +kernel) (aC rfl (xLc (own := [("place", 6)]) c.ok (by decide +kernel) (iR1 c.ok (i.none G.n_range) (by decide +kernel) (xV c.ok (by decide +kernel))) (fun Y c1 i1 => (gN c1 (by decide +kernel))) (fun Y c1 i1 => (xCall c1 i1 F_after (len_cons (len_cons (len_cons len_nil))) (by decide +kernel) (aC rfl (xV c1 (by decide +kernel)) (aC rfl (xV c1 (by decide +kernel)) (aC rfl (se_op .sub xI (xV c1 (by decide +kernel))) aN))))) i) aN)) (xV c.ok (by decide +kernel))))).st (sss_one (ss_ret xB)) sss_nil)) (sss_cons (ss_frz [4, 5] (ss_if (sw_or (tCm c.ok .ne rfl (xCall c.ok i F_times (len_cons (len_cons len_nil)) (by decide +kernel) (aC rfl (xV c.ok (by decide +kernel)) (aC rfl (xV c.ok (by decide +kernel)) aN))) (xV c.ok (by decide +kernel))) (sw_or1 (tCm c.ok .ne rfl (xCall c.ok i F_times (len_cons (len_cons len_nil)) (by decide +kernel) (aC rfl (xV c.ok (by decide +kernel)) (aC rfl (se_op .sub xI (xV c.ok (by decide +kernel))) aN))) (xV c.ok (by decide +kernel))))).st (sss_one (ss_ret xB)) sss_nil)) (sss_cons (sSet c (by decide +kernel) rfl (se_op .add (xV c.ok (by decide +kernel)) (se_op .mul (xV c.ok (by decide +kernel)) (se_op .add (se_op .pow xI xI) (xBi c.ok .int (i.none G.n_int) (by decide +kernel) (aC rfl (se_ix c.ok rfl (xV c.ok (by decide +kernel)) (se_op .add xI (xV c.ok (by decide +kernel)))) aN)))))) (sss_one (ss_frz [3] (ss_for c rfl (iR1 c.ok (i.none G.n_range) (by decide +kernel) (xV c.ok (by decide +kernel))) (gN c.ok (by decide +kernel)) (sss_one (ss_frz [4, 6, 9] (ss_if (sw_or (tCm c.ok .ne rfl (xCall c.ok i F_after (len_cons (len_cons (len_cons len_nil))) (by decide +kernel) (aC rfl (xV c.ok (by decide +kernel)) (aC rfl (xV c.ok (by decide +kernel)) (aC rfl (xV c.ok (by decide +kernel)) aN)))) (se_ix c.ok rfl (xV c.ok (by decide +kernel)) (xV c.ok (by decide +kernel)))) (sw_or1 (tCm c.ok .ne rfl (xCall c.ok i F_after (len_cons (len_cons (len_cons len_nil))) (by decide +kernel) (aC rfl (xV c.ok (by decide +kernel)) (aC rfl (xV c.ok (by decide +kernel)) (aC rfl (se_op .sub (xV c.ok (by decide +kernel)) (se_op .mul (xV c.ok (by decide +kernel)) (se_op .pow xI xI))) aN)))) (se_ix c.ok rfl (xV c.ok (by decide +kernel)) (xV c.ok (by decide +kernel)))))).st (sss_one (ss_ret xB)) sss_nil))))))))))) (sss_cons (sPar c (by decide +kernel) (by kernel_rfl) (aC rfl (se_op .sub (se_op .mod (xBi c.ok .int (i.none G.n_int) (by decide +kernel) (aC rfl (se_ix c.ok rfl (xV c.ok (by decide +kernel)) (se_op .add xI (xV c.ok (by decide +kernel)))) aN)) xI) xI) (aC rfl (se_op .mul (xBi c.ok .int (i.none G.n_int) (by decide +kernel) (aC rfl (se_ix c.ok rfl (xV c.ok (by decide +kernel)) (se_op .add xI (xV c.ok (by decide +kernel)))) aN)) (se_op .pow xI xI)) aN))) (sss_cons (ss_frz [3] (ss_for c rfl (iR1 c.ok (i.none G.n_range) (by decide +kernel) (xV c.ok (by decide +kernel))) (gN c.ok (by decide +kernel)) (sss_cons (ss_frz [4, 6, 10] (sAsg c (gT c.ok (by decide +kernel) (sgs_cons rfl (gN c.ok (by decide +kernel)) (sgs_cons rfl (gN c.ok (by decide +kernel)) sgs_nil))) rfl (by kernel_rfl) rfl (xCall c.ok i F_after (len_cons (len_cons (len_cons len_nil))) (by decide +kernel) (aC rfl (xV c.ok (by decide +kernel)) (aC rfl (xV c.ok (by decide +kernel)) (aC rfl (xV c.ok (by decide +kernel)) aN)))))) (sss_cons (ss_frz [4, 11, 14] (sAsg c (gT c.ok (by decide +kernel) (sgs_cons rfl (gN c.ok (by decide +kernel)) (sgs_cons rfl (gN c.ok (by decide +kernel)) sgs_nil))) rfl (by kernel_rfl) rfl (xCall c.ok i F_after (len_cons (len_cons (len_cons len_nil))) (by decide +kernel) (aC rfl (xV c.ok (by decide +kernel)) (aC rfl (xV c.ok (by decide +kernel)) (aC rfl (xV c.ok (by decide +kernel)) aN)))))) (sss_one (ss_frz [4, 6, 16] (ss_if (tCm c.ok .ne rfl (xCall c.ok i F_after (len_cons (len_cons (len_cons len_nil))) (by decide +kernel) (aC rfl (xV c.ok (by decide +kernel)) (aC rfl (xV c.ok (by decide +kernel)) (aC rfl (se_op .add (xV c.ok (by decide +kernel)) (xV c.ok (by decide +kernel))) aN)))) (se_tup (aC rfl (xV c.ok (by decide +kernel)) (aC rfl (se_op .mod (xBi c.ok .int (i.none G.n_int) (by decide +kernel) (aC rfl (se_op .add (xV c.ok (by decide +kernel)) (xV c.ok (by decide +kernel))) aN)) xI) aN)))) (sss_one (ss_ret xB)) sss_nil))))))) (sss_one (ss_frz [4] (ss_if (st_not (st_val (fun _ => rfl) (xBi c.ok .all (i.none G.n_all) (by decide +kernel) (aC rfl (xLc (own := [("wrong", 18)]) c.ok (by decide +kernel) (si_seq (se_lst (aC rfl xN (aC rfl xB (aC rfl xS (aC rfl (se_tup (aC rfl xI aN)) aN)))))) (fun Y c1 i1 => (gN c1 (by decide +kernel))) (fun Y c1 i1 => (xCall c1 i1 F__law_refused (len_cons (len_cons len_nil)) (by decide +kernel) (aC rfl (xV c1 (by decide +kernel)) (aC rfl (xV c1 (by decide +kernel)) aN)))) i) aN)))) (sss_one (ss_ret xB)) sss_nil)))))))))) (sss_one (ss_ret (se_and (pos' := ⟨0, 0, 0, 0⟩) (xCmp c.ok .eq rfl (xCall c.ok i F_after (len_cons (len_cons (len_cons len_nil))) (by decide +kernel) (aC rfl (se_tup (aC rfl (se_tup (aC rfl xI (aC rfl xI aN))) (aC rfl (se_tup (aC rfl xI (aC rfl xI aN))) aN))) (aC rfl xI (aC rfl xI aN)))) (se_tup (aC rfl xI (aC rfl xI aN)))) (se_one (xCmp c.ok .eq rfl (xCall c.ok i F_after (len_cons (len_cons (len_cons len_nil))) (by decide +kernel) (aC rfl (se_tup (aC rfl (se_tup (aC rfl xI (aC rfl xI aN))) aN)) (aC rfl xI (aC rfl (se_neg xI) aN)))) (se_tup (aC rfl xI (aC rfl xI aN))))))))))
end
end Zk07

namespace Zk07
open PySem PySem.Spec L2 Rf
open PyProof.Rows hiding St
def mk (i : Nat) (x : Str) : He.DefD := ⟨(x, none), x, x, defArgs (top i), defBody (top i), defScope (top i), [], []⟩
def fn : List He.DefD := [mk 26 "_law_draws", mk 27 "_law_order_of", mk 28 "_law_move", mk 32 "_law_back", mk 8 "is_whole", mk 9 "_are_pairs", mk 10 "_is_each_once", mk 11 "is_move", mk 12 "check_move", mk 13 "still_move", mk 14 "compose", mk 18 "order", mk 19 "order_of", mk 30 "_law_rest", mk 29 "_law_then", mk 31 "_law_times", mk 22 "_check_place", mk 21 "ring_from", mk 23 "landed", mk 24 "after", mk 16 "power", mk 15 "inverse", mk 17 "times", mk 34 "_law_refused", mk 35 "law"]
def fa : List He.Fa := [.glo "_law_draws", .glo "_law_order_of", .glo "_law_move", .glo "_law_back", .glo "is_whole", .glo "_are_pairs", .glo "_is_each_once", .glo "is_move", .glo "check_move", .glo "still_move", .glo "compose", .glo "order", .glo "order_of", .glo "_law_rest", .glo "_law_then", .glo "_law_times", .glo "_check_place", .glo "ring_from", .glo "landed", .glo "after", .glo "power", .glo "inverse", .glo "times", .glo "_law_refused", .glo "law", .glo "ReelError", .exc "ReelError", .glo "BadMove", .exc "BadMove", .glo "BadTimes", .exc "BadTimes", .glo "BadPlace", .exc "BadPlace", .int "MOST_PLACES" 8, .int "QUARTERS" 4, .free "abs", .free "all", .free "bool", .free "enumerate", .free "int", .free "isinstance", .free "len", .free "list", .free "range", .free "sorted", .free "sum", .free "tuple", .exm "ReelError" "ReelError" true, .exm "BadMove" "ReelError" true, .exm "BadTimes" "ReelError" true, .exm "BadPlace" "ReelError" true]
def exl : List Str := ["ReelError", "BadMove", "BadTimes", "BadPlace"]
def exm : List (Str × Str × Bool) := [("ReelError", "BadTimes", false), ("BadMove", "BadTimes", false), ("BadTimes", "BadTimes", true), ("BadPlace", "BadTimes", false)]
abbrev Rw : PySem.W.OpenRow := PySem.W.OpenLaw.row PySem.Challenge.rw_reelwright_k07_whole_numbers_of_times
abbrev hk : PySem.W.Hook := hookR 4 fa fn (exB exl exm)
def ob (s : PySem.W.SharedT) : AlR := obsR 4 fa fn (exB exl exm) (HandSHeadRun.getT s)
theorem ob_eq (s : PySem.W.SharedT) : ob s = hk.obs s.abs := obsR_eq (HandSHeadRun.getT_eq s)
def loose0 : List Str := ["ReelError", "BadMove", "BadTimes", "BadPlace", "MOST_PLACES", "QUARTERS", "is_whole", "_are_pairs", "_is_each_once", "is_move", "check_move", "still_move", "compose", "inverse", "power", "times", "order", "order_of", "ring_from", "_check_place", "landed", "after", "_law_draws", "_law_order_of", "_law_move", "_law_then", "_law_rest", "_law_times", "_law_back", "_law_rings"]
def loose1 : List Str := ["_law_refused"]
def loose : List Str := loose0 ++ loose1
theorem run (w : World) : HandSHeadRun.RunEq Rw (PySem.W.view Rw.prog [35]) hk ob 4000 loose w := by
  intro os
  kernel_rfl
def exc (K : PySem.W.Frag) (c : Nat) : Addr := He.ga K (nm c)
section
variable {P : Program} {w : World} {K : PySem.W.Frag} {h : Heap} {mg : Str → Option Value}
theorem glob (X : K.In h) (G : h.Ns mainGlobals mg) (cx : He.SaysD fa fn K) (ce : exB exl exm K = true) (base : Heap) : Gl ⟨P, w, K, mg, base⟩ (exc K) where
  n_abs := He.free_ok X G (cx.facts (f := .free "abs") (List.mem_of_getElem? (i := 35) rfl))
  n_all := He.free_ok X G (cx.facts (f := .free "all") (List.mem_of_getElem? (i := 36) rfl))
  n_bool := He.free_ok X G (cx.facts (f := .free "bool") (List.mem_of_getElem? (i := 37) rfl))
  n_enumerate := He.free_ok X G (cx.facts (f := .free "enumerate") (List.mem_of_getElem? (i := 38) rfl))
  n_int := He.free_ok X G (cx.facts (f := .free "int") (List.mem_of_getElem? (i := 39) rfl))
  n_isinstance := He.free_ok X G (cx.facts (f := .free "isinstance") (List.mem_of_getElem? (i := 40) rfl))
  n_len := He.free_ok X G (cx.facts (f := .free "len") (List.mem_of_getElem? (i := 41) rfl))
  n_list := He.free_ok X G (cx.facts (f := .free "list") (List.mem_of_getElem? (i := 42) rfl))
  n_range := He.free_ok X G (cx.facts (f := .free "range") (List.mem_of_getElem? (i := 43) rfl))
  n_sorted := He.free_ok X G (cx.facts (f := .free "sorted") (List.mem_of_getElem? (i := 44) rfl))
  n_sum := He.free_ok X G (cx.facts (f := .free "sum") (List.mem_of_getElem? (i := 45) rfl))
  n_tuple := He.free_ok X G (cx.facts (f := .free "tuple") (List.mem_of_getElem? (i := 46) rfl))
  i_MOST_PLACES := He.int_ok X G (cx.facts (f := .int "MOST_PLACES" 8) (List.mem_of_getElem? (i := 33) rfl))
  i_QUARTERS := He.int_ok X G (cx.facts (f := .int "QUARTERS" 4) (List.mem_of_getElem? (i := 34) rfl))
  x_ReelError := let ⟨a, b, c, d⟩ := He.exc_ok (cx.facts (f := .exc "ReelError") (List.mem_of_getElem? (i := 26) rfl)); ⟨a, He.glo_ok X G (cx.facts (f := .glo "ReelError") (List.mem_of_getElem? (i := 25) rfl)), b, c, d⟩
  x_BadMove := let ⟨a, b, c, d⟩ := He.exc_ok (cx.facts (f := .exc "BadMove") (List.mem_of_getElem? (i := 28) rfl)); ⟨a, He.glo_ok X G (cx.facts (f := .glo "BadMove") (List.mem_of_getElem? (i := 27) rfl)), b, c, d⟩
  x_BadTimes := let ⟨a, b, c, d⟩ := He.exc_ok (cx.facts (f := .exc "BadTimes") (List.mem_of_getElem? (i := 30) rfl)); ⟨a, He.glo_ok X G (cx.facts (f := .glo "BadTimes") (List.mem_of_getElem? (i := 29) rfl)), b, c, d⟩
  x_BadPlace := let ⟨a, b, c, d⟩ := He.exc_ok (cx.facts (f := .exc "BadPlace") (List.mem_of_getElem? (i := 32) rfl)); ⟨a, He.glo_ok X G (cx.facts (f := .glo "BadPlace") (List.mem_of_getElem? (i := 31) rfl)), b, c, d⟩
  m_ReelError := fun c => match c with
    | 0 => He.exm_ok (cx.facts (f := .exm "ReelError" "ReelError" true) (List.mem_of_getElem? (i := 47) rfl))
    | 1 => He.exm_ok (cx.facts (f := .exm "BadMove" "ReelError" true) (List.mem_of_getElem? (i := 48) rfl))
    | 2 => He.exm_ok (cx.facts (f := .exm "BadTimes" "ReelError" true) (List.mem_of_getElem? (i := 49) rfl))
    | 3 => He.exm_ok (cx.facts (f := .exm "BadPlace" "ReelError" true) (List.mem_of_getElem? (i := 50) rfl))
    | n + 4 => He.exm_ok (cx.facts (f := .exm "ReelError" "ReelError" true) (List.mem_of_getElem? (i := 47) rfl))
  k_BadTimes := fun c => match c with
    | 0 => exB_k ce (x := "ReelError") (y := "BadTimes") (b := false) (List.mem_of_getElem? (i := 0) rfl)
    | 1 => exB_k ce (x := "BadMove") (y := "BadTimes") (b := false) (List.mem_of_getElem? (i := 1) rfl)
    | 2 => exB_k ce (x := "BadTimes") (y := "BadTimes") (b := true) (List.mem_of_getElem? (i := 2) rfl)
    | 3 => exB_k ce (x := "BadPlace") (y := "BadTimes") (b := false) (List.mem_of_getElem? (i := 3) rfl)
    | n + 4 => exB_k ce (x := "ReelError") (y := "BadTimes") (b := false) (List.mem_of_getElem? (i := 0) rfl)
  eC := fun c => match c with
    | 0 => exB_c ce (x := "ReelError") (List.mem_of_getElem? (i := 0) rfl)
    | 1 => exB_c ce (x := "BadMove") (List.mem_of_getElem? (i := 1) rfl)
    | 2 => exB_c ce (x := "BadTimes") (List.mem_of_getElem? (i := 2) rfl)
    | 3 => exB_c ce (x := "BadPlace") (List.mem_of_getElem? (i := 3) rfl)
    | n + 4 => exB_c ce (x := "ReelError") (List.mem_of_getElem? (i := 0) rfl)
theorem f__law_draws (X : K.In h) (G : h.Ns mainGlobals mg) (cx : He.SaysD fa fn K) (ce : exB exl exm K = true) (base : Heap) (fu : Nat) : Fn ⟨P, w, K, mg, base⟩ (exc K) 1 "_law_draws" 2 (g__law_draws fu) :=
  Fn.of (st := top 26) (N := N__law_draws) (ps := ["script", "many"]) (cx.defs (d := mk 26 "_law_draws") (by exact List.mem_of_getElem? (i := 0) rfl)) (scopeB_ok (by decide +kernel)) rfl rfl (He.glo_ok X G (cx.facts (f := .glo "_law_draws") (List.mem_of_getElem? (i := 0) rfl))) (fun _ _ _ _ _ _ us hl => match us, hl with | [_, _], _ => rfl) (s__law_draws (glob X G cx ce base))
theorem f__law_order_of (X : K.In h) (G : h.Ns mainGlobals mg) (cx : He.SaysD fa fn K) (ce : exB exl exm K = true) (base : Heap) (fu : Nat) : Fn ⟨P, w, K, mg, base⟩ (exc K) 1 "_law_order_of" 2 (g__law_order_of fu) :=
  Fn.of (st := top 27) (N := N__law_order_of) (ps := ["draws", "many"]) (cx.defs (d := mk 27 "_law_order_of") (by exact List.mem_of_getElem? (i := 1) rfl)) (scopeB_ok (by decide +kernel)) rfl rfl (He.glo_ok X G (cx.facts (f := .glo "_law_order_of") (List.mem_of_getElem? (i := 1) rfl))) (fun _ _ _ _ _ _ us hl => match us, hl with | [_, _], _ => rfl) (s__law_order_of (glob X G cx ce base))
theorem f__law_move (X : K.In h) (G : h.Ns mainGlobals mg) (cx : He.SaysD fa fn K) (ce : exB exl exm K = true) (base : Heap) (fu : Nat) (k__law_order_of : Fn ⟨P, w, K, mg, base⟩ (exc K) 1 "_law_order_of" 2 (g__law_order_of fu)) : Fn ⟨P, w, K, mg, base⟩ (exc K) 2 "_law_move" 2 (g__law_move fu) :=
  Fn.of (st := top 28) (N := N__law_move) (ps := ["draws", "many"]) (cx.defs (d := mk 28 "_law_move") (by exact List.mem_of_getElem? (i := 2) rfl)) (scopeB_ok (by decide +kernel)) rfl rfl (He.glo_ok X G (cx.facts (f := .glo "_law_move") (List.mem_of_getElem? (i := 2) rfl))) (fun _ _ _ _ _ _ us hl => match us, hl with | [_, _], _ => rfl) (s__law_move (glob X G cx ce base) (k__law_order_of.mono (by decide)))
theorem f__law_back (X : K.In h) (G : h.Ns mainGlobals mg) (cx : He.SaysD fa fn K) (ce : exB exl exm K = true) (base : Heap) (fu : Nat) : Fn ⟨P, w, K, mg, base⟩ (exc K) 1 "_law_back" 1 (g__law_back fu) :=
  Fn.of (st := top 32) (N := N__law_back) (ps := ["move"]) (cx.defs (d := mk 32 "_law_back") (by exact List.mem_of_getElem? (i := 3) rfl)) (scopeB_ok (by decide +kernel)) rfl rfl (He.glo_ok X G (cx.facts (f := .glo "_law_back") (List.mem_of_getElem? (i := 3) rfl))) (fun _ _ _ _ _ _ us hl => match us, hl with | [_], _ => rfl) (s__law_back (glob X G cx ce base))
theorem f_is_whole (X : K.In h) (G : h.Ns mainGlobals mg) (cx : He.SaysD fa fn K) (ce : exB exl exm K = true) (base : Heap) (fu : Nat) : Fn ⟨P, w, K, mg, base⟩ (exc K) 1 "is_whole" 3 (g_is_whole fu) :=
  Fn.of (st := top 8) (N := N_is_whole) (ps := ["value", "least", "most"]) (cx.defs (d := mk 8 "is_whole") (by exact List.mem_of_getElem? (i := 4) rfl)) (scopeB_ok (by decide +kernel)) rfl rfl (He.glo_ok X G (cx.facts (f := .glo "is_whole") (List.mem_of_getElem? (i := 4) rfl))) (fun _ _ _ _ _ _ us hl => match us, hl with | [_, _, _], _ => rfl) (s_is_whole (glob X G cx ce base))
theorem f__are_pairs (X : K.In h) (G : h.Ns mainGlobals mg) (cx : He.SaysD fa fn K) (ce : exB exl exm K = true) (base : Heap) (fu : Nat) (k_is_whole : Fn ⟨P, w, K, mg, base⟩ (exc K) 1 "is_whole" 3 (g_is_whole fu)) : Fn ⟨P, w, K, mg, base⟩ (exc K) 2 "_are_pairs" 3 (g__are_pairs fu) :=
  Fn.of (st := top 9) (N := N__are_pairs) (ps := ["value", "most", "other"]) (cx.defs (d := mk 9 "_are_pairs") (by exact List.mem_of_getElem? (i := 5) rfl)) (scopeB_ok (by decide +kernel)) rfl rfl (He.glo_ok X G (cx.facts (f := .glo "_are_pairs") (List.mem_of_getElem? (i := 5) rfl))) (fun _ _ _ _ _ _ us hl => match us, hl with | [_, _, _], _ => rfl) (s__are_pairs (glob X G cx ce base) (k_is_whole.mono (by decide)))
theorem f__is_each_once (X : K.In h) (G : h.Ns mainGlobals mg) (cx : He.SaysD fa fn K) (ce : exB exl exm K = true) (base : Heap) (fu : Nat) (k__are_pairs : Fn ⟨P, w, K, mg, base⟩ (exc K) 2 "_are_pairs" 3 (g__are_pairs fu)) : Fn ⟨P, w, K, mg, base⟩ (exc K) 3 "_is_each_once" 1 (g__is_each_once fu) :=
  Fn.of (st := top 10) (N := N__is_each_once) (ps := ["value"]) (cx.defs (d := mk 10 "_is_each_once") (by exact List.mem_of_getElem? (i := 6) rfl)) (scopeB_ok (by decide +kernel)) rfl rfl (He.glo_ok X G (cx.facts (f := .glo "_is_each_once") (List.mem_of_getElem? (i := 6) rfl))) (fun _ _ _ _ _ _ us hl => match us, hl with | [_], _ => rfl) (s__is_each_once (glob X G cx ce base) (k__are_pairs.mono (by decide)))
theorem f_is_move (X : K.In h) (G : h.Ns mainGlobals mg) (cx : He.SaysD fa fn K) (ce : exB exl exm K = true) (base : Heap) (fu : Nat) (k__is_each_once : Fn ⟨P, w, K, mg, base⟩ (exc K) 3 "_is_each_once" 1 (g__is_each_once fu)) : Fn ⟨P, w, K, mg, base⟩ (exc K) 4 "is_move" 1 (g_is_move fu) :=
  Fn.of (st := top 11) (N := N_is_move) (ps := ["value"]) (cx.defs (d := mk 11 "is_move") (by exact List.mem_of_getElem? (i := 7) rfl)) (scopeB_ok (by decide +kernel)) rfl rfl (He.glo_ok X G (cx.facts (f := .glo "is_move") (List.mem_of_getElem? (i := 7) rfl))) (fun _ _ _ _ _ _ us hl => match us, hl with | [_], _ => rfl) (s_is_move (glob X G cx ce base) (k__is_each_once.mono (by decide)))
theorem f_check_move (X : K.In h) (G : h.Ns mainGlobals mg) (cx : He.SaysD fa fn K) (ce : exB exl exm K = true) (base : Heap) (fu : Nat) (k_is_move : Fn ⟨P, w, K, mg, base⟩ (exc K) 4 "is_move" 1 (g_is_move fu)) : Fn ⟨P, w, K, mg, base⟩ (exc K) 5 "check_move" 1 (g_check_move fu) :=
  Fn.of (st := top 12) (N := N_check_move) (ps := ["move"]) (cx.defs (d := mk 12 "check_move") (by exact List.mem_of_getElem? (i := 8) rfl)) (scopeB_ok (by decide +kernel)) rfl rfl (He.glo_ok X G (cx.facts (f := .glo "check_move") (List.mem_of_getElem? (i := 8) rfl))) (fun _ _ _ _ _ _ us hl => match us, hl with | [_], _ => rfl) (s_check_move (glob X G cx ce base) (k_is_move.mono (by decide)))
theorem f_still_move (X : K.In h) (G : h.Ns mainGlobals mg) (cx : He.SaysD fa fn K) (ce : exB exl exm K = true) (base : Heap) (fu : Nat) : Fn ⟨P, w, K, mg, base⟩ (exc K) 1 "still_move" 1 (g_still_move fu) :=
  Fn.of (st := top 13) (N := N_still_move) (ps := ["count"]) (cx.defs (d := mk 13 "still_move") (by exact List.mem_of_getElem? (i := 9) rfl)) (scopeB_ok (by decide +kernel)) rfl rfl (He.glo_ok X G (cx.facts (f := .glo "still_move") (List.mem_of_getElem? (i := 9) rfl))) (fun _ _ _ _ _ _ us hl => match us, hl with | [_], _ => rfl) (s_still_move (glob X G cx ce base))
theorem f_compose (X : K.In h) (G : h.Ns mainGlobals mg) (cx : He.SaysD fa fn K) (ce : exB exl exm K = true) (base : Heap) (fu : Nat) : Fn ⟨P, w, K, mg, base⟩ (exc K) 1 "compose" 2 (g_compose fu) :=
  Fn.of (st := top 14) (N := N_compose) (ps := ["move", "other"]) (cx.defs (d := mk 14 "compose") (by exact List.mem_of_getElem? (i := 10) rfl)) (scopeB_ok (by decide +kernel)) rfl rfl (He.glo_ok X G (cx.facts (f := .glo "compose") (List.mem_of_getElem? (i := 10) rfl))) (fun _ _ _ _ _ _ us hl => match us, hl with | [_, _], _ => rfl) (s_compose (glob X G cx ce base))
theorem f_order (X : K.In h) (G : h.Ns mainGlobals mg) (cx : He.SaysD fa fn K) (ce : exB exl exm K = true) (base : Heap) (fu : Nat) (k_still_move : Fn ⟨P, w, K, mg, base⟩ (exc K) 1 "still_move" 1 (g_still_move fu)) (k_compose : Fn ⟨P, w, K, mg, base⟩ (exc K) 1 "compose" 2 (g_compose fu)) : Fn ⟨P, w, K, mg, base⟩ (exc K) 2 "order" 1 (g_order fu) :=
  Fn.of (st := top 18) (N := N_order) (ps := ["move"]) (cx.defs (d := mk 18 "order") (by exact List.mem_of_getElem? (i := 11) rfl)) (scopeB_ok (by decide +kernel)) rfl rfl (He.glo_ok X G (cx.facts (f := .glo "order") (List.mem_of_getElem? (i := 11) rfl))) (fun _ _ _ _ _ _ us hl => match us, hl with | [_], _ => rfl) (s_order (glob X G cx ce base) (k_still_move.mono (by decide)) (k_compose.mono (by decide)))
theorem f_order_of (X : K.In h) (G : h.Ns mainGlobals mg) (cx : He.SaysD fa fn K) (ce : exB exl exm K = true) (base : Heap) (fu : Nat) (k_check_move : Fn ⟨P, w, K, mg, base⟩ (exc K) 5 "check_move" 1 (g_check_move fu)) (k_order : Fn ⟨P, w, K, mg, base⟩ (exc K) 2 "order" 1 (g_order fu)) : Fn ⟨P, w, K, mg, base⟩ (exc K) 6 "order_of" 1 (g_order_of fu) :=
  Fn.of (st := top 19) (N := N_order_of) (ps := ["move"]) (cx.defs (d := mk 19 "order_of") (by exact List.mem_of_getElem? (i := 12) rfl)) (scopeB_ok (by decide +kernel)) rfl rfl (He.glo_ok X G (cx.facts (f := .glo "order_of") (List.mem_of_getElem? (i := 12) rfl))) (fun _ _ _ _ _ _ us hl => match us, hl with | [_], _ => rfl) (s_order_of (glob X G cx ce base) (k_check_move.mono (by decide)) (k_order.mono (by decide)))
theorem f__law_rest (X : K.In h) (G : h.Ns mainGlobals mg) (cx : He.SaysD fa fn K) (ce : exB exl exm K = true) (base : Heap) (fu : Nat) : Fn ⟨P, w, K, mg, base⟩ (exc K) 1 "_law_rest" 1 (g__law_rest fu) :=
  Fn.of (st := top 30) (N := N__law_rest) (ps := ["many"]) (cx.defs (d := mk 30 "_law_rest") (by exact List.mem_of_getElem? (i := 13) rfl)) (scopeB_ok (by decide +kernel)) rfl rfl (He.glo_ok X G (cx.facts (f := .glo "_law_rest") (List.mem_of_getElem? (i := 13) rfl))) (fun _ _ _ _ _ _ us hl => match us, hl with | [_], _ => rfl) (s__law_rest (glob X G cx ce base))
theorem f__law_then (X : K.In h) (G : h.Ns mainGlobals mg) (cx : He.SaysD fa fn K) (ce : exB exl exm K = true) (base : Heap) (fu : Nat) : Fn ⟨P, w, K, mg, base⟩ (exc K) 1 "_law_then" 2 (g__law_then fu) :=
  Fn.of (st := top 29) (N := N__law_then) (ps := ["move", "other"]) (cx.defs (d := mk 29 "_law_then") (by exact List.mem_of_getElem? (i := 14) rfl)) (scopeB_ok (by decide +kernel)) rfl rfl (He.glo_ok X G (cx.facts (f := .glo "_law_then") (List.mem_of_getElem? (i := 14) rfl))) (fun _ _ _ _ _ _ us hl => match us, hl with | [_, _], _ => rfl) (s__law_then (glob X G cx ce base))
theorem f__law_times (X : K.In h) (G : h.Ns mainGlobals mg) (cx : He.SaysD fa fn K) (ce : exB exl exm K = true) (base : Heap) (fu : Nat) (k__law_rest : Fn ⟨P, w, K, mg, base⟩ (exc K) 1 "_law_rest" 1 (g__law_rest fu)) (k__law_then : Fn ⟨P, w, K, mg, base⟩ (exc K) 1 "_law_then" 2 (g__law_then fu)) : Fn ⟨P, w, K, mg, base⟩ (exc K) 2 "_law_times" 2 (g__law_times fu) :=
  Fn.of (st := top 31) (N := N__law_times) (ps := ["move", "count"]) (cx.defs (d := mk 31 "_law_times") (by exact List.mem_of_getElem? (i := 15) rfl)) (scopeB_ok (by decide +kernel)) rfl rfl (He.glo_ok X G (cx.facts (f := .glo "_law_times") (List.mem_of_getElem? (i := 15) rfl))) (fun _ _ _ _ _ _ us hl => match us, hl with | [_, _], _ => rfl) (s__law_times (glob X G cx ce base) (k__law_rest.mono (by decide)) (k__law_then.mono (by decide)))
theorem f__check_place (X : K.In h) (G : h.Ns mainGlobals mg) (cx : He.SaysD fa fn K) (ce : exB exl exm K = true) (base : Heap) (fu : Nat) (k_check_move : Fn ⟨P, w, K, mg, base⟩ (exc K) 5 "check_move" 1 (g_check_move fu)) (k_is_whole : Fn ⟨P, w, K, mg, base⟩ (exc K) 1 "is_whole" 3 (g_is_whole fu)) : Fn ⟨P, w, K, mg, base⟩ (exc K) 6 "_check_place" 2 (g__check_place fu) :=
  Fn.of (st := top 22) (N := N__check_place) (ps := ["move", "place"]) (cx.defs (d := mk 22 "_check_place") (by exact List.mem_of_getElem? (i := 16) rfl)) (scopeB_ok (by decide +kernel)) rfl rfl (He.glo_ok X G (cx.facts (f := .glo "_check_place") (List.mem_of_getElem? (i := 16) rfl))) (fun _ _ _ _ _ _ us hl => match us, hl with | [_, _], _ => rfl) (s__check_place (glob X G cx ce base) (k_check_move.mono (by decide)) (k_is_whole.mono (by decide)))
theorem f_ring_from (X : K.In h) (G : h.Ns mainGlobals mg) (cx : He.SaysD fa fn K) (ce : exB exl exm K = true) (base : Heap) (fu : Nat) : Fn ⟨P, w, K, mg, base⟩ (exc K) 1 "ring_from" 2 (g_ring_from fu) :=
  Fn.of (st := top 21) (N := N_ring_from) (ps := ["move", "place"]) (cx.defs (d := mk 21 "ring_from") (by exact List.mem_of_getElem? (i := 17) rfl)) (scopeB_ok (by decide +kernel)) rfl rfl (He.glo_ok X G (cx.facts (f := .glo "ring_from") (List.mem_of_getElem? (i := 17) rfl))) (fun _ _ _ _ _ _ us hl => match us, hl with | [_, _], _ => rfl) (s_ring_from (glob X G cx ce base))
theorem f_landed (X : K.In h) (G : h.Ns mainGlobals mg) (cx : He.SaysD fa fn K) (ce : exB exl exm K = true) (base : Heap) (fu : Nat) (k_ring_from : Fn ⟨P, w, K, mg, base⟩ (exc K) 1 "ring_from" 2 (g_ring_from fu)) : Fn ⟨P, w, K, mg, base⟩ (exc K) 2 "landed" 3 (g_landed fu) :=
  Fn.of (st := top 23) (N := N_landed) (ps := ["move", "place", "count"]) (cx.defs (d := mk 23 "landed") (by exact List.mem_of_getElem? (i := 18) rfl)) (scopeB_ok (by decide +kernel)) rfl rfl (He.glo_ok X G (cx.facts (f := .glo "landed") (List.mem_of_getElem? (i := 18) rfl))) (fun _ _ _ _ _ _ us hl => match us, hl with | [_, _, _], _ => rfl) (s_landed (glob X G cx ce base) (k_ring_from.mono (by decide)))
theorem f_after (X : K.In h) (G : h.Ns mainGlobals mg) (cx : He.SaysD fa fn K) (ce : exB exl exm K = true) (base : Heap) (fu : Nat) (k__check_place : Fn ⟨P, w, K, mg, base⟩ (exc K) 6 "_check_place" 2 (g__check_place fu)) (k_landed : Fn ⟨P, w, K, mg, base⟩ (exc K) 2 "landed" 3 (g_landed fu)) : Fn ⟨P, w, K, mg, base⟩ (exc K) 7 "after" 3 (g_after fu) :=
  Fn.of (st := top 24) (N := N_after) (ps := ["move", "place", "count"]) (cx.defs (d := mk 24 "after") (by exact List.mem_of_getElem? (i := 19) rfl)) (scopeB_ok (by decide +kernel)) rfl rfl (He.glo_ok X G (cx.facts (f := .glo "after") (List.mem_of_getElem? (i := 19) rfl))) (fun _ _ _ _ _ _ us hl => match us, hl with | [_, _, _], _ => rfl) (s_after (glob X G cx ce base) (k__check_place.mono (by decide)) (k_landed.mono (by decide)))
theorem f_power (X : K.In h) (G : h.Ns mainGlobals mg) (cx : He.SaysD fa fn K) (ce : exB exl exm K = true) (base : Heap) (fu : Nat) (k_still_move : Fn ⟨P, w, K, mg, base⟩ (exc K) 1 "still_move" 1 (g_still_move fu)) (k_compose : Fn ⟨P, w, K, mg, base⟩ (exc K) 1 "compose" 2 (g_compose fu)) : Fn ⟨P, w, K, mg, base⟩ (exc K) 2 "power" 2 (g_power fu) :=
  Fn.of (st := top 16) (N := N_power) (ps := ["move", "count"]) (cx.defs (d := mk 16 "power") (by exact List.mem_of_getElem? (i := 20) rfl)) (scopeB_ok (by decide +kernel)) rfl rfl (He.glo_ok X G (cx.facts (f := .glo "power") (List.mem_of_getElem? (i := 20) rfl))) (fun _ _ _ _ _ _ us hl => match us, hl with | [_, _], _ => rfl) (s_power (glob X G cx ce base) (k_still_move.mono (by decide)) (k_compose.mono (by decide)))
theorem f_inverse (X : K.In h) (G : h.Ns mainGlobals mg) (cx : He.SaysD fa fn K) (ce : exB exl exm K = true) (base : Heap) (fu : Nat) : Fn ⟨P, w, K, mg, base⟩ (exc K) 1 "inverse" 1 (g_inverse fu) :=
  Fn.of (st := top 15) (N := N_inverse) (ps := ["move"]) (cx.defs (d := mk 15 "inverse") (by exact List.mem_of_getElem? (i := 21) rfl)) (scopeB_ok (by decide +kernel)) rfl rfl (He.glo_ok X G (cx.facts (f := .glo "inverse") (List.mem_of_getElem? (i := 21) rfl))) (fun _ _ _ _ _ _ us hl => match us, hl with | [_], _ => rfl) (s_inverse (glob X G cx ce base))
theorem f_times (X : K.In h) (G : h.Ns mainGlobals mg) (cx : He.SaysD fa fn K) (ce : exB exl exm K = true) (base : Heap) (fu : Nat) (k_check_move : Fn ⟨P, w, K, mg, base⟩ (exc K) 5 "check_move" 1 (g_check_move fu)) (k_power : Fn ⟨P, w, K, mg, base⟩ (exc K) 2 "power" 2 (g_power fu)) (k_inverse : Fn ⟨P, w, K, mg, base⟩ (exc K) 1 "inverse" 1 (g_inverse fu)) : Fn ⟨P, w, K, mg, base⟩ (exc K) 6 "times" 2 (g_times fu) :=
  Fn.of (st := top 17) (N := N_times) (ps := ["move", "count"]) (cx.defs (d := mk 17 "times") (by exact List.mem_of_getElem? (i := 22) rfl)) (scopeB_ok (by decide +kernel)) rfl rfl (He.glo_ok X G (cx.facts (f := .glo "times") (List.mem_of_getElem? (i := 22) rfl))) (fun _ _ _ _ _ _ us hl => match us, hl with | [_, _], _ => rfl) (s_times (glob X G cx ce base) (k_check_move.mono (by decide)) (k_power.mono (by decide)) (k_inverse.mono (by decide)))
theorem f__law_refused (X : K.In h) (G : h.Ns mainGlobals mg) (cx : He.SaysD fa fn K) (ce : exB exl exm K = true) (base : Heap) (fu : Nat) (k_after : Fn ⟨P, w, K, mg, base⟩ (exc K) 7 "after" 3 (g_after fu)) : Fn ⟨P, w, K, mg, base⟩ (exc K) 8 "_law_refused" 2 (g__law_refused fu) :=
  Fn.of (st := top 34) (N := N__law_refused) (ps := ["move", "count"]) (cx.defs (d := mk 34 "_law_refused") (by exact List.mem_of_getElem? (i := 23) rfl)) (scopeB_ok (by decide +kernel)) rfl rfl (He.glo_ok X G (cx.facts (f := .glo "_law_refused") (List.mem_of_getElem? (i := 23) rfl))) (fun _ _ _ _ _ _ us hl => match us, hl with | [_, _], _ => rfl) (s__law_refused (glob X G cx ce base) (k_after.mono (by decide)))
theorem facts (X : K.In h) (G : h.Ns mainGlobals mg) (cx : He.SaysD fa fn K) (ce : exB exl exm K = true) (fu : Nat) {f : Addr} (hm : mg "law" = some (.ref f)) : ∃ fd : FuncData, (∀ (s : Shared) (u : Value), BindsTo s fd ⟨[u], []⟩ [("script", u)]) ∧
    ∀ base : Heap, FnOk P w K mg base CX0 9 f fd ["script"] (fun vs H Q _ => spF K (exc K) 1 (g_law fu) vs H Q fun _ _ _ => False) := by
  obtain ⟨fd, F⟩ := cx.defs (d := mk 35 "law") (List.mem_of_getElem? (i := 24) rfl)
  have e := hm.symm.trans (He.glo_ok X G (cx.facts (f := .glo "law") (List.mem_of_getElem? (i := 24) rfl)))
  cases e
  have bb := FunD.bindsA (ps := ["script"]) F fun _ _ _ _ _ _ us hl => match us, hl with | [_], _ => rfl
  refine ⟨fd, fun s u => bb s [u] rfl, fun base => ?_⟩
  have k__law_draws := f__law_draws (P := P) (w := w) X G cx ce base fu
  have k__law_order_of := f__law_order_of (P := P) (w := w) X G cx ce base fu
  have k__law_move := f__law_move (P := P) (w := w) X G cx ce base fu k__law_order_of
  have k__law_back := f__law_back (P := P) (w := w) X G cx ce base fu
  have k_is_whole := f_is_whole (P := P) (w := w) X G cx ce base fu
  have k__are_pairs := f__are_pairs (P := P) (w := w) X G cx ce base fu k_is_whole
  have k__is_each_once := f__is_each_once (P := P) (w := w) X G cx ce base fu k__are_pairs
  have k_is_move := f_is_move (P := P) (w := w) X G cx ce base fu k__is_each_once
  have k_check_move := f_check_move (P := P) (w := w) X G cx ce base fu k_is_move
  have k_still_move := f_still_move (P := P) (w := w) X G cx ce base fu
  have k_compose := f_compose (P := P) (w := w) X G cx ce base fu
  have k_order := f_order (P := P) (w := w) X G cx ce base fu k_still_move k_compose
  have k_order_of := f_order_of (P := P) (w := w) X G cx ce base fu k_check_move k_order
  have k__law_rest := f__law_rest (P := P) (w := w) X G cx ce base fu
  have k__law_then := f__law_then (P := P) (w := w) X G cx ce base fu
  have k__law_times := f__law_times (P := P) (w := w) X G cx ce base fu k__law_rest k__law_then
  have k__check_place := f__check_place (P := P) (w := w) X G cx ce base fu k_check_move k_is_whole
  have k_ring_from := f_ring_from (P := P) (w := w) X G cx ce base fu
  have k_landed := f_landed (P := P) (w := w) X G cx ce base fu k_ring_from
  have k_after := f_after (P := P) (w := w) X G cx ce base fu k__check_place k_landed
  have k_power := f_power (P := P) (w := w) X G cx ce base fu k_still_move k_compose
  have k_inverse := f_inverse (P := P) (w := w) X G cx ce base fu
  have k_times := f_times (P := P) (w := w) X G cx ce base fu k_check_move k_power k_inverse
  have k__law_refused := f__law_refused (P := P) (w := w) X G cx ce base fu k_after
  exact law_of (W := ⟨P, w, K, mg, base⟩) (exc := exc K) (st := top 35) (N := N_law) F (scopeB_ok (by decide +kernel)) rfl (s_law (glob X G cx ce base) (k__law_draws.mono (by decide)) (k__law_move.mono (by decide)) (k__law_back.mono (by decide)) (k_order_of.mono (by decide)) (k__law_times.mono (by decide)) (k_after.mono (by decide)) (k_times.mono (by decide)) (k__law_refused.mono (by decide)))
end
end Zk07

namespace Zk07
open PySem Rf
variable {fu : Nat}
theorem ch_t {o o' : D → D → RV} {fa fb fc : Rf.Env → RV} {env : Rf.Env} {p q z : Kd × D} {r : RV} (h1 : fa env = .ok p) (h2 : fb env = .ok q) (h : o p.2 q.2 = okv (.bool true)) (h3 : fc env = .ok z) (h4 : o' q.2 z.2 = r) : fCh o o' fa fb fc env = r := by
  unfold fCh R.bind; rw [h1]; dsimp only; rw [h2]; dsimp only; rw [h]; unfold okv; dsimp only; rw [h3]; exact h4
theorem ch_f {o o' : D → D → RV} {fa fb fc : Rf.Env → RV} {env : Rf.Env} {p q : Kd × D} (h1 : fa env = .ok p) (h2 : fb env = .ok q) (h : o p.2 q.2 = okv (.bool false)) : fCh o o' fa fb fc env = okv (.bool false) := by
  unfold fCh R.bind; rw [h1]; dsimp only; rw [h2]; dsimp only; rw [h]; rfl
theorem whole_ok {v l m : Int} (h1 : l ≤ v) (h2 : v ≤ m) : g_is_whole fu [.int v, .int l, .int m] = .ok (.old, .bool true) := by
  have e1 : cmpD .le (.int l) (.int v) = okv (.bool true) := by show okv (.bool (decide (l ≤ v))) = _; rw [decide_eq_true h1]
  have e2 : cmpD .le (.int v) (.int m) = okv (.bool true) := by show okv (.bool (decide (v ≤ m))) = _; rw [decide_eq_true h2]
  have e3 : fCh (cmpD .le) (cmpD .le) (fV 1) (fV 0) (fV 2) [.val (.int v), .val (.int l), .val (.int m)] = okv (.bool true) := by
    exact ch_t (p := (.old, .int l)) (q := (.old, .int v)) (z := (.old, .int m)) rfl rfl e1 rfl e2
  refine run_of (o := .rt .old (.bool true)) (ret_rt (p := (.old, .bool true)) ?_ rfl) rfl
  exact e3
theorem still_ok {n : Nat} (h : n ≤ 1000) : g_still_move fu [.int n] = .ok (.old, eM (restM n)) := by
  refine run_of (o := .rt .old (eM (restM n))) (ret_rt (p := (.old, eM (restM n))) (bi1_ok (p := (.new, .list ((restM n).map eP))) ?_ rfl) rfl) rfl
  unfold restM
  rw [List.map_map]
  refine (lc_ok (β := Nat) (enc := fun i => .int ((i : Nat) : Int)) (kd := .old) (items := List.range n) (f := fun i => eP ((i : Int), 0)) (by have := iR1_ok (fa := fV 0) (env := [.val (.int n), .emp]) (k := .old) (n := n) rfl (by omega); rw [List.map_map] at this; exact this) (by simp; omega) fun i hi => ⟨_, (.old, eP ((i : Int), 0)), rfl, rfl, rfl, rfl⟩).trans rfl
theorem rest_ok {n : Nat} (h : n ≤ 1000) : g__law_rest fu [.int n] = .ok (.old, eM (restM n)) := still_ok (fu := fu) h
theorem ixM {m : Mv} {i : Int} (h0 : 0 ≤ i) (h : i < m.length) : ixD (eM m) (.int i) = .ok (.old, eP (atM m i)) := by
  have e : ((i.toNat : Nat) : Int) = i := by omega
  have := atM_get (m := m) (i := i.toNat) (by omega)
  rw [e] at this
  exact ixT (e := eP) h0 this
theorem then_ok {a b : Mv} (ha : a.length ≤ 1000) (h : ∀ p ∈ a, 0 ≤ p.1 ∧ p.1 < b.length) : g__law_then fu [eM a, eM b] = .ok (.old, eM (comp a b)) := by
  refine run_of (o := .rt .old (eM (comp a b))) (ret_rt (p := (.old, eM (comp a b))) (bi1_ok (p := (.new, .list ((comp a b).map eP))) ?_ rfl) rfl) rfl
  unfold comp
  rw [List.map_map]
  refine (lc_ok (β := Int × Int) (enc := eP) (kd := .old) (items := a) (f := fun p => eP ((atM b p.1).1, (p.2 + (atM b p.1).2) % 4)) rfl (by omega) fun p hp => ⟨[.val (eM a), .val (eM b), .val (.int p.1), .val (.int p.2)], (.old, eP ((atM b p.1).1, (p.2 + (atM b p.1).2) % 4)), rfl, ?_, rfl, rfl⟩).trans rfl
  have hx := ixM (m := b) (h p hp).1 (h p hp).2
  have e1 : fOp ixD (fV 1) (fV 2) [.val (eM a), .val (eM b), .val (.int p.1), .val (.int p.2)] = .ok (.old, eP (atM b p.1)) := op_ok (p := (.old, eM b)) (q := (.old, .int p.1)) rfl rfl hx
  have e2 : fOp ixD (fOp ixD (fV 1) (fV 2)) (cI 0) [.val (eM a), .val (eM b), .val (.int p.1), .val (.int p.2)] = .ok (.old, .int (atM b p.1).1) := op_ok (p := (.old, eP (atM b p.1))) (q := (.old, .int 0)) e1 rfl rfl
  have e3 : fOp ixD (fOp ixD (fV 1) (fV 2)) (cI 1) [.val (eM a), .val (eM b), .val (.int p.1), .val (.int p.2)] = .ok (.old, .int (atM b p.1).2) := op_ok (p := (.old, eP (atM b p.1))) (q := (.old, .int 1)) e1 rfl rfl
  have e4 := bi1_ok (o := Bi.fn .int) (p := (.old, .int (p.2 + (atM b p.1).2))) (r := .ok (.old, .int (p.2 + (atM b p.1).2))) (op_ok (o := Bo.fn .add) (fa := fV 3) (p := (.old, .int p.2)) (q := (.old, .int (atM b p.1).2)) rfl e3 rfl) rfl
  have e5 := op_ok (o := Bo.fn .mod) (fb := cI 4) (p := (.old, .int (p.2 + (atM b p.1).2))) (q := (.old, .int 4)) e4 rfl (modE (by decide))
  have e6 := cons_ok e2 (cons_ok e5 (show fNil _ = .ok [] from rfl))
  show fTup _ _ = _
  unfold fTup R.bind
  rw [e6]
  rfl
theorem ltimes_ok {n : Nat} {m : Mv} (v : VM n m) (hn : n ≤ 1000) {k : Nat} (hk : k ≤ 1000) : g__law_times fu [eM m, .int k] = .ok (.old, eM (itM m k)) := by
  have e0 : fSet 2 (fCall (g__law_rest fu) (fCons (fBi (Bi.fn .len) (fCons (fV 0) fNil)) fNil)) [.val (eM m), .val (.int k), .emp, .emp] = .nx [.val (eM m), .val (.int k), .val (eM (itM m 0)), .emp] := by
    refine set_nx (p := (.old, eM (restM m.length))) (call_ok (l := [(.old, .int (m.length : Nat))]) (cons_ok (bi1_ok (p := (.old, eM m)) rfl ?_) rfl) rfl (rest_ok (by rw [v.len]; exact hn)) rfl) rfl
    show okv (.int ((m.map eP).length : Nat)) = _
    rw [List.length_map]; rfl
  obtain ⟨env1, e1, s3, rfl⟩ := for_ok (β := Nat) (enc := fun i => .int ((i : Nat) : Int)) (items := List.range k) (kd := .old) (env := [.val (eM m), .val (.int k), .val (eM (itM m 0)), .emp]) (T := .n 3) (src := iRng1 (fV 1))
    (gb := fFz [2] (fSet 2 (fCall (g__law_then fu) (fCons (fV 2) (fCons (fV 0) fNil)))))
    (fun done env => ∃ s3, env = [.val (eM m), .val (.int k), .val (eM (itM m done.length)), s3])
    (by have := iR1_ok (fa := fV 1) (env := [.val (eM m), .val (.int k), .val (eM (itM m 0)), .emp]) (k := .old) (n := k) rfl (by omega); rw [List.map_map] at this; exact this) rfl ⟨_, rfl⟩ (by
      rintro done rest x env hi ⟨s3, rfl⟩
      refine ⟨_, _, rfl, set_nx (p := (.old, eM (itM m (done.length + 1)))) (call_ok (l := [(.old, eM (itM m done.length)), (.old, eM m)]) rfl rfl (then_ok (by rw [itM_len, v.len]; exact hn) (fun p hp => by rw [v.len]; exact it_rg v _ p hp)) rfl) rfl, _, by rw [List.length_append]; rfl⟩)
  rw [List.length_range] at e1
  exact run_of (o := .rt .old (eM (itM m k))) (seq_nx e0 (seq_nx e1 rfl)) rfl
theorem compose_ok {a b : Mv} (ha : a.length ≤ 1000) (h : ∀ p ∈ a, 0 ≤ p.1 ∧ p.1 < b.length) : g_compose fu [eM a, eM b] = .ok (.old, eM (comp a b)) := by
  obtain ⟨env1, e1, s3, s4, s5, s6, rfl⟩ := for_ok (β := Int × Int) (enc := eP) (items := a) (kd := .old) (env := [.val (eM a), .val (eM b), .own (.list []), .emp, .emp, .emp, .emp]) (T := .t (.cons (.n 3) (.cons (.n 4) .nil))) (src := iSeq (fV 0))
    (gb := (fSeq (fAsg (.t (.cons (.n 5) (.cons (.n 6) .nil))) (fOp ixD (fV 1) (fV 3))) (fFz [5] (fApp 2 (fTup (fCons (fV 5) (fCons (fOp (Bo.fn .mod) (fOp (Bo.fn .add) (fV 4) (fV 6)) (cI 4)) fNil)))))))
    (fun done env => ∃ s3 s4 s5 s6, env = [.val (eM a), .val (eM b), .own (.list ((comp done b).map eP)), s3, s4, s5, s6])
    rfl rfl ⟨_, _, _, _, rfl⟩ (by
      rintro done rest p env hi ⟨s3, s4, s5, s6, rfl⟩
      have hp : p ∈ a := by rw [hi]; simp
      have hd : done.length ≤ 1000 := by
        have := congrArg List.length hi
        simp at this; omega
      have hx := ixM (m := b) (h p hp).1 (h p hp).2
      refine ⟨_, _, rfl, seq_nx (env' := [.val (eM a), .val (eM b), .own (.list ((comp done b).map eP)), .val (.int p.1), .val (.int p.2), .val (.int (atM b p.1).1), .val (.int (atM b p.1).2)]) (asg_nx (p := (.old, eP (atM b p.1))) (op_ok (p := (.old, eM b)) (q := (.old, .int p.1)) rfl rfl hx) rfl rfl)
        (app_nx (ds := (comp done b).map eP) (p := (.old, eP ((atM b p.1).1, (p.2 + (atM b p.1).2) % 4))) rfl ?_ rfl (by rw [List.length_map, comp_len]; omega)), ?_⟩
      · show fTup _ _ = _
        unfold fTup R.bind
        rw [cons_ok (p := (.old, .int (atM b p.1).1)) rfl (cons_ok (op_ok (o := Bo.fn .mod) (p := (.old, .int (p.2 + (atM b p.1).2))) (q := (.old, .int 4)) rfl rfl (modE (by decide))) (show fNil _ = .ok [] from rfl))]
        rfl
      · refine ⟨.val (.int p.1), .val (.int p.2), .val (.int (atM b p.1).1), .val (.int (atM b p.1).2), ?_⟩
        unfold comp
        rw [List.map_append, List.map_append]
        rfl)
  exact run_of (o := .rt .old (eM (comp a b))) (seq_nx rfl (seq_nx e1 rfl)) rfl
end Zk07

namespace Zk07
open PySem Rf
variable {fu : Nat}
theorem notT_ok {fa : Rf.Env → Rf.R Bool} {env : Rf.Env} {b : Bool} (h : fa env = .ok b) : fNotT fa env = .ok (!b) := by unfold fNotT R.bind; rw [h]
theorem orT_f {fa fb : Rf.Env → Rf.R Bool} {env : Rf.Env} {r : Rf.R Bool} (h : fa env = .ok false) (h2 : fb env = r) : fOrT fa fb env = r := by unfold fOrT R.bind; rw [h]; exact h2
theorem orT_t {fa fb : Rf.Env → Rf.R Bool} {env : Rf.Env} (h : fa env = .ok true) : fOrT fa fb env = .ok true := by unfold fOrT R.bind; rw [h]
theorem lenM {m : Mv} {i : Nat} {env : Rf.Env} (h : fV i env = .ok (.old, eM m)) : fBi (Bi.fn .len) (fCons (fV i) fNil) env = .ok (.old, .int (m.length : Nat)) := bi1_ok h (by show okv (.int ((m.map eP).length : Nat)) = _; rw [List.length_map]; rfl)
theorem pairs_ok {n : Nat} {m : Mv} (v : VM n m) (h1 : 1 ≤ n) (h8 : n ≤ 8) : g__are_pairs fu [eM m, .int 7, .int 3] = .ok (.old, .bool true) := by
  have hl : (fNotT (fTst (fCh (cmpD .le) (cmpD .le) (cI 1) (fBi (Bi.fn .len) (fCons (fV 0) fNil)) (cI 8)))) [.val (eM m), .val (.int 7), .val (.int 3), .emp] = .ok false := by
    refine notT_ok (b := true) (tst_ok (k := .old) (ch_t (p := (.old, .int 1)) (q := (.old, .int (m.length : Nat))) (z := (.old, .int 8)) rfl (lenM rfl) ?_ rfl ?_))
    · show okv (.bool (decide ((1 : Int) ≤ (m.length : Nat)))) = _
      rw [decide_eq_true (by rw [v.len]; omega)]
    · show okv (.bool (decide (((m.length : Nat) : Int) ≤ 8))) = _
      rw [decide_eq_true (by rw [v.len]; omega)]; rfl
  obtain ⟨env1, e1, s3, rfl⟩ := for_ok (β := Int × Int) (enc := eP) (items := m) (kd := .old) (env := [.val (eM m), .val (.int 7), .val (.int 3), .emp]) (T := .n 3) (src := iSeq (fV 0))
    (gb := (fSeq (fIfS (fOrT (fNotT (fTst (fIsi .tuple (fV 3)))) (fOrT (fTst (fOp (cmpD .ne) (fBi (Bi.fn .len) (fCons (fV 3) fNil)) (cI 2))) (fNotT (fTst (fCall (g_is_whole fu) (fCons (fOp ixD (fV 3) (cI 0)) (fCons (cI 0) (fCons (fV 1) fNil)))))))) (fRet (cB false)) fPass) (fIfS (fNotT (fTst (fCall (g_is_whole fu) (fCons (fOp ixD (fV 3) (cI 1)) (fCons (cI 0) (fCons (fV 2) fNil)))))) (fRet (cB false)) fPass)))
    (fun done env => ∃ s3, env = [.val (eM m), .val (.int 7), .val (.int 3), s3]) rfl rfl ⟨_, rfl⟩ (by
      rintro done rest p env hi ⟨s3, rfl⟩
      have hp : p ∈ m := by rw [hi]; simp
      have a := v.rg p hp
      have b := v.tn p hp
      have w1 := whole_ok (fu := fu) (v := p.1) (l := 0) (m := 7) a.1 (by omega)
      have w2 := whole_ok (fu := fu) (v := p.2) (l := 0) (m := 3) b.1 (by omega)
      refine ⟨[.val (eM m), .val (.int 7), .val (.int 3), .val (eP p)], _, rfl, seq_nx (env' := [.val (eM m), .val (.int 7), .val (.int 3), .val (eP p)]) (if_f (orT_f rfl (orT_f (tst_ok (k := .old) (op_ok (p := (.old, .int 2)) (q := (.old, .int 2)) rfl rfl (cneI 2 2))) (notT_ok (b := true) (tst_ok (k := .old) (call_ok (l := [(.old, .int p.1), (.old, .int 0), (.old, .int 7)]) rfl rfl w1 rfl))))) rfl)
        (if_f (notT_ok (b := true) (tst_ok (k := .old) (call_ok (l := [(.old, .int p.2), (.old, .int 0), (.old, .int 3)]) rfl rfl w2 rfl))) rfl), _, rfl⟩)
  exact run_of (o := .rt .old (.bool true)) (seq_nx (if_f (orT_f rfl hl) rfl) (seq_nx e1 rfl)) rfl
theorem once_ok {n : Nat} {m : Mv} (v : VM n m) (h1 : 1 ≤ n) (h8 : n ≤ 8) : g__is_each_once fu [eM m] = .ok (.old, .bool true) := by
  have hs : sortI (m.map (·.1)) = (List.range n).map fun i => ((i : Nat) : Int) := sortI_range v.nd (fun x hx => by
    obtain ⟨p, hp, rfl⟩ := List.mem_map.mp hx
    exact v.rg p hp) (by rw [List.length_map, v.len])
  have e1 : fLc [1] (.n 1) (iSeq (fV 0)) none (fOp ixD (fV 1) (cI 0)) [.val (eM m), .emp] = .ok (.new, .list ((m.map (·.1)).map .int)) := by
    rw [List.map_map]
    exact lc_ok (β := Int × Int) (enc := eP) (kd := .old) (items := m) (f := fun p => .int p.1) rfl (by rw [v.len]; omega) fun p hp => ⟨_, (.old, .int p.1), rfl, rfl, rfl, rfl⟩
  have e2 : fBi (Bi.fn .sorted) (fCons (fLc [1] (.n 1) (iSeq (fV 0)) none (fOp ixD (fV 1) (cI 0))) fNil) [.val (eM m), .emp] = .ok (.new, .list (((List.range n).map fun i => ((i : Nat) : Int)).map .int)) := by
    refine bi1_ok e1 ?_
    show (match intsD ((m.map (·.1)).map PyData.int) with | some bs => okn (.list ((sortI bs).map PyData.int)) | none => Rf.R.no) = _
    rw [intsD_map]
    dsimp only
    rw [hs]; rfl
  have e3 : fUn (rgD1 false) (fBi (Bi.fn .len) (fCons (fV 0) fNil)) [.val (eM m), .emp] = .ok (.new, .list (((List.range n).map fun i => ((i : Nat) : Int)).map .int)) := by
    refine un_ok (p := (.old, .int (n : Nat))) ?_ (rg1_ok (by omega) false)
    have := lenM (m := m) (i := 0) (env := [.val (eM m), .emp]) rfl
    rw [v.len] at this
    exact this
  refine run_of (o := .rt .old (.bool true)) (seq_nx (env' := [.val (eM m), .emp]) (if_f (notT_ok (b := true) (tst_ok (k := .old) (call_ok (l := [(.old, eM m), (.old, .int 7), (.old, .int 3)]) rfl rfl (pairs_ok v h1 h8) rfl))) rfl) (ret_rt (p := (.old, .bool true)) (op_ok e2 e3 ?_) rfl)) rfl
  have := Enc.int.lst.ceq (by decide) ((List.range n).map fun i => ((i : Nat) : Int)) ((List.range n).map fun i => ((i : Nat) : Int))
  rw [decide_eq_true rfl] at this
  exact this
theorem check_ok {n : Nat} {m : Mv} (v : VM n m) (h1 : 1 ≤ n) (h8 : n ≤ 8) : g_check_move fu [eM m] = .ok (.old, .none) := by
  have e : g_is_move fu [eM m] = .ok (.old, .bool true) := run_of (o := .rt .old (.bool true)) (ret_rt (p := (.old, .bool true)) (call_ok (l := [(.old, eM m)]) rfl rfl (once_ok v h1 h8) rfl) rfl) rfl
  exact run_of (o := .nx [.val (eM m)]) (if_f (notT_ok (b := true) (tst_ok (k := .old) (call_ok (l := [(.old, eM m)]) rfl rfl e rfl))) rfl) rfl
theorem place_ok {n : Nat} {m : Mv} (v : VM n m) (h1 : 1 ≤ n) (h8 : n ≤ 8) {x : Int} (x0 : 0 ≤ x) (x1 : x < n) : g__check_place fu [eM m, .int x] = .ok (.old, .none) := by
  have w := whole_ok (fu := fu) (v := x) (l := 0) (m := (m.length : Nat) - 1) x0 (by rw [v.len]; omega)
  refine run_of (o := .nx [.val (eM m), .val (.int x)]) (seq_nx (env' := [.val (eM m), .val (.int x)]) (expr_nx (call_ok (l := [(.old, eM m)]) rfl rfl (check_ok v h1 h8) rfl)) (if_f (notT_ok (b := true) (tst_ok (k := .old) (call_ok (l := [(.old, .int x), (.old, .int 0), (.old, .int ((m.length : Nat) - 1))]) (cons_ok rfl (cons_ok rfl (cons_ok (op_ok (p := (.old, .int (m.length : Nat))) (q := (.old, .int 1)) (lenM rfl) rfl rfl) rfl))) rfl w rfl))) rfl)) rfl
/-- order -/
theorem order_ok {n : Nat} {m : Mv} (v : VM n m) (h8 : n ≤ 8) (hfu : 3400 ≤ fu) : ∃ w : Nat, 1 ≤ w ∧ w ≤ 3360 ∧ itM m w = restM n ∧ g_order fu [eM m] = .ok (.old, .int w) := by
  have e0 : fSet 1 (fCall (g_still_move fu) (fCons (fBi (Bi.fn .len) (fCons (fV 0) fNil)) fNil)) [.val (eM m), .emp, .emp, .emp] = .nx [.val (eM m), .val (eM (restM n)), .emp, .emp] := by
    refine set_nx (p := (.old, eM (restM n))) (call_ok (l := [(.old, .int (n : Nat))]) (cons_ok ?_ rfl) rfl (still_ok (by omega)) rfl) rfl
    have := lenM (m := m) (i := 0) (env := [.val (eM m), .emp, .emp, .emp]) rfl
    rw [v.len] at this
    exact this
  obtain ⟨env1, e1, w, w1, w2, hw, rfl⟩ := while_ok (fu := fu) (ft := fTst (fOp (cmpD .ne) (fV 3) (fV 1))) (gb := (fSeq (fFz [3] (fSet 3 (fCall (g_compose fu) (fCons (fV 3) (fCons (fV 0) fNil))))) (fAug .add 2 (cI 1))))
    (env := [.val (eM m), .val (eM (restM n)), .val (.int 1), .val (eM m)])
    (fun k env => ∃ w : Nat, k = 3361 - w ∧ 1 ≤ w ∧ w ≤ 3360 ∧ env = [.val (eM m), .val (eM (restM n)), .val (.int w), .val (eM (itM m w))])
    (fun env => ∃ w : Nat, 1 ≤ w ∧ w ≤ 3360 ∧ itM m w = restM n ∧ env = [.val (eM m), .val (eM (restM n)), .val (.int w), .val (eM (itM m w))]) 3360 ⟨1, rfl, by decide, by decide, by rw [it_one v]; rfl⟩ (by omega) (by
      rintro k env ⟨w, rfl, w1, w2, rfl⟩
      have cn := encM.cne (by decide) (itM m w) (restM n)
      by_cases hw : itM m w = restM n
      · refine .inl ⟨tst_ok (k := .old) (op_ok (p := (.old, eM (itM m w))) (q := (.old, eM (restM n))) rfl rfl ?_), w, w1, w2, hw, rfl⟩
        rw [cn, decide_eq_true hw]; rfl
      · refine .inr ⟨tst_ok (k := .old) (op_ok (p := (.old, eM (itM m w))) (q := (.old, eM (restM n))) rfl rfl ?_), 3361 - (w + 1), _, ?_, seq_nx (env' := [.val (eM m), .val (eM (restM n)), .val (.int w), .val (eM (itM m (w + 1)))]) (set_nx (p := (.old, eM (itM m (w + 1)))) (call_ok (l := [(.old, eM (itM m w)), (.old, eM m)]) rfl rfl (compose_ok (by rw [itM_len, v.len]; omega) (fun p hp => by rw [v.len]; exact it_rg v _ p hp)) rfl) rfl) (aug_nx (p := (.old, .int 1)) (q := (.old, .int (w + 1 : Nat))) rfl rfl rfl), w + 1, rfl, by omega, ?_, rfl⟩
        · rw [cn, decide_eq_false hw]; rfl
        · omega
        · by_cases q : w = 3360
          · subst q; exact absurd (it_whole v h8) hw
          · omega)
  exact ⟨w, w1, w2, hw, run_of (o := .rt .old (.int w)) (seq_nx e0 (seq_nx (par_nx (p := (.old, .int 1)) (q := (.old, eM m)) rfl rfl) (seq_nx e1 rfl))) rfl⟩
theorem order_of_ok {n : Nat} {m : Mv} (v : VM n m) (h1 : 1 ≤ n) (h8 : n ≤ 8) (hfu : 3400 ≤ fu) : ∃ w : Nat, 1 ≤ w ∧ w ≤ 3360 ∧ itM m w = restM n ∧ g_order_of fu [eM m] = .ok (.old, .int w) := by
  obtain ⟨w, w1, w2, w3, w4⟩ := order_ok (fu := fu) v h8 hfu
  exact ⟨w, w1, w2, w3, run_of (o := .rt .old (.int w)) (seq_nx (expr_nx (call_ok (l := [(.old, eM m)]) rfl rfl (check_ok v h1 h8) rfl)) (ret_rt (p := (.old, .int w)) (call_ok (l := [(.old, eM m)]) rfl rfl w4 rfl) rfl)) rfl⟩
end Zk07

namespace Zk07
open PySem Rf
variable {fu : Nat}
theorem ix_last {l : List Int} {x : Int} (h : l.getLast? = some x) : ixD (.list (l.map .int)) (.int (-1)) = .ok (.old, .int x) := by
  have hl : 0 < l.length := by
    cases l with
    | nil => cases h
    | cons a l => simp
  have e : L2.atI (l.map PyData.int) (-1) = some (.int x) := by
    unfold L2.atI L2.ixN
    rw [if_neg (by decide), List.length_map, if_pos (by omega)]
    show (l.map PyData.int)[(-1 + (l.length : Int)).toNat]? = _
    rw [List.getElem?_map, show (-1 + (l.length : Int)).toNat = l.length - 1 by omega, ← List.getLast?_eq_getElem?, h]; rfl
  show (match L2.atI (l.map PyData.int) (-1) with | some d => okv d | none => .no) = _
  rw [e]; rfl
theorem ring_ok {n : Nat} {m : Mv} (v : VM n m) (h8 : n ≤ 8) (hfu : 3400 ≤ fu) {x : Int} (x0 : 0 ≤ x) (x1 : x < n) {L : Nat} (r : Ring m x L) (hL : L ≤ n) : g_ring_from fu [eM m, .int x] = .ok (.new, .list ((ringL m x L).map .int)) := by
  have tail : ∀ k : Nat, k + 1 ≤ L → fOp ixD (fOp ixD (fV 0) (fOp ixD (fV 2) (fUn negD (cI 1)))) (cI 0) [.val (eM m), .val (.int x), .own (.list ((ringL m x (k + 1)).map .int))] = .ok (.old, .int (orb m x (k + 1))) := fun k hk => by
    have a := orb_rg v x0 x1 k
    have e1 : fOp ixD (fV 2) (fUn negD (cI 1)) [.val (eM m), .val (.int x), .own (.list ((ringL m x (k + 1)).map .int))] = .ok (.old, .int (orb m x k)) :=
      op_ok (p := (.bor, .list ((ringL m x (k + 1)).map .int))) (q := (.old, .int (-1))) rfl rfl (ix_last (by unfold ringL; rw [List.range_succ, List.map_append]; simp))
    exact op_ok (p := (.old, eP (atM m (orb m x k)))) (q := (.old, .int 0)) (op_ok (p := (.old, eM m)) (q := (.old, .int (orb m x k))) rfl e1 (ixM a.1 (by rw [v.len]; exact a.2))) rfl rfl
  obtain ⟨env1, e1, rfl⟩ := while_ok (fu := fu) (ft := (fTst (fOp (cmpD .ne) (fOp ixD (fOp ixD (fV 0) (fOp ixD (fV 2) (fUn negD (cI 1)))) (cI 0)) (fV 1)))) (gb := (fApp 2 (fOp ixD (fOp ixD (fV 0) (fOp ixD (fV 2) (fUn negD (cI 1)))) (cI 0))))
    (env := [.val (eM m), .val (.int x), .own (.list ((ringL m x 1).map .int))])
    (fun j env => ∃ k : Nat, j = L - k ∧ k + 1 ≤ L ∧ env = [.val (eM m), .val (.int x), .own (.list ((ringL m x (k + 1)).map .int))])
    (fun env => env = [.val (eM m), .val (.int x), .own (.list ((ringL m x L).map .int))]) L ⟨0, rfl, r.pos, rfl⟩ (by omega) (by
      rintro j env ⟨k, rfl, hk, rfl⟩
      have t := tail k hk
      have cn := cneI (orb m x (k + 1)) x
      by_cases q : k + 1 = L
      · refine .inl ⟨tst_ok (k := .old) (op_ok (p := (.old, .int (orb m x (k + 1)))) (q := (.old, .int x)) t rfl ?_), by rw [q]⟩
        rw [cn, q, r.back, decide_eq_true rfl]; rfl
      · refine .inr ⟨tst_ok (k := .old) (op_ok (p := (.old, .int (orb m x (k + 1)))) (q := (.old, .int x)) t rfl ?_), L - (k + 1), _, by omega, app_nx (ds := (ringL m x (k + 1)).map .int) (p := (.old, .int (orb m x (k + 1)))) rfl t rfl (by unfold ringL; simp; omega), k + 1, rfl, by omega, ?_⟩
        · rw [cn, decide_eq_false (r.least (k + 1) (by omega) (by omega))]; rfl
        · unfold ringL
          rw [List.range_succ (n := k + 1), List.map_append, List.map_append]
          rfl)
  exact run_of (o := .rt .new (.list ((ringL m x L).map .int))) (seq_nx rfl (seq_nx e1 rfl)) rfl
theorem sum_ring (m : Mv) (x : Int) (L : Nat) : ((ringL m x L).map fun o => (atM m o).2).sum = sumT m x L := by
  unfold ringL sumT
  rw [List.map_map]; rfl
theorem sum_b {n : Nat} {m : Mv} (v : VM n m) {x : Int} (x0 : 0 ≤ x) (x1 : x < n) (k : Nat) : 0 ≤ sumT m x k ∧ sumT m x k ≤ 3 * k := by
  induction k with
  | zero => exact ⟨Int.le_refl 0, Int.le_refl 0⟩
  | succ k ih =>
    rw [sumT_succ]
    have a := orb_rg v x0 x1 k
    have b := v.t_rg a.1 a.2
    omega
theorem landed_ok {n : Nat} {m : Mv} (v : VM n m) (h8 : n ≤ 8) (hfu : 3400 ≤ fu) {x : Int} (x0 : 0 ≤ x) (x1 : x < n) {L : Nat} (r : Ring m x L) (hL : L ≤ n) {c : Int} (hc : c.natAbs < 2 ^ 190) : g_landed fu [eM m, .int x, .int c] = .ok (.old, eP ((goM m x L c).1, (goM m x L c).2 % 4)) := by
  have hL1 := r.pos
  have h0 := Int.emod_nonneg c (b := (L : Int)) (by omega)
  have h1 := Int.emod_lt_of_pos c (b := (L : Int)) (by omega)
  have el : (((c % (L : Int)).toNat : Nat) : Int) = c % L := by omega
  have rl : (ringL m x L).length = L := by simp [ringL]
  have lenR : ∀ env : Rf.Env, fV 3 env = .ok (.bor, .list ((ringL m x L).map .int)) → fBi (Bi.fn .len) (fCons (fV 3) fNil) env = .ok (.old, .int (L : Nat)) := fun env h => bi1_ok h (by show okv (.int (((ringL m x L).map PyData.int).length : Nat)) = _; rw [List.length_map, rl]; rfl)
  have e1 : fSet 3 (fCall (g_ring_from fu) (fCons (fV 0) (fCons (fV 1) fNil))) [.val (eM m), .val (.int x), .val (.int c), .emp, .emp, .emp, .emp, .emp] = .nx [.val (eM m), .val (.int x), .val (.int c), .own (.list ((ringL m x L).map .int)), .emp, .emp, .emp, .emp] :=
    set_nx (p := (.new, .list ((ringL m x L).map .int))) (call_ok (l := [(.old, eM m), (.old, .int x)]) rfl rfl (ring_ok v h8 hfu x0 x1 r hL) rfl) rfl
  have e2 : fPar 5 6 (fCons (fOp (Bo.fn .fdiv) (fV 2) (fBi (Bi.fn .len) (fCons (fV 3) fNil))) (fCons (fOp (Bo.fn .mod) (fV 2) (fBi (Bi.fn .len) (fCons (fV 3) fNil))) fNil)) [.val (eM m), .val (.int x), .val (.int c), .own (.list ((ringL m x L).map .int)), .emp, .emp, .emp, .emp] = .nx [.val (eM m), .val (.int x), .val (.int c), .own (.list ((ringL m x L).map .int)), .emp, .val (.int (c / L)), .val (.int (c % L)), .emp] := by
    refine par_nx (p := (.old, .int (c / L))) (q := (.old, .int (c % L))) (cons_ok (op_ok (p := (.old, .int c)) (q := (.old, .int (L : Nat))) rfl (lenR _ rfl) ?_) (cons_ok (op_ok (p := (.old, .int c)) (q := (.old, .int (L : Nat))) rfl (lenR _ rfl) (modE (by omega))) rfl)) rfl
    show chk (decide ((0 : Int) < (L : Nat)) && decide (((L : Nat) : Int) < 1073741824)) _ = _
    rw [decide_eq_true (by omega), decide_eq_true (by omega)]; rfl
  have turn : ∀ (env : Rf.Env) (s7 : Sl) (o : Int), 0 ≤ o → o < n → fOp ixD (fOp ixD (fV 0) (fV 7)) (cI 1) [.val (eM m), .val (.int x), .val (.int c), .own (.list ((ringL m x L).map .int)), .emp, .val (.int (c / L)), .val (.int (c % L)), .val (.int o)] = .ok (.old, .int (atM m o).2) := fun env s7 o o0 o1 =>
    op_ok (p := (.old, eP (atM m o))) (q := (.old, .int 1)) (op_ok (p := (.old, eM m)) (q := (.old, .int o)) rfl rfl (ixM o0 (by rw [v.len]; exact o1))) rfl rfl
  have inR : ∀ (k : Nat), ∀ o ∈ ringL m x k, 0 ≤ o ∧ o < n := fun k o ho => by
    obtain ⟨i, _, rfl⟩ := List.mem_map.mp ho
    exact orb_rg v x0 x1 i
  have s1 : fBi (Bi.fn .sum) (fCons (fLc [7] (.n 7) (iSeq (fV 3)) none (fOp ixD (fOp ixD (fV 0) (fV 7)) (cI 1))) fNil) [.val (eM m), .val (.int x), .val (.int c), .own (.list ((ringL m x L).map .int)), .emp, .val (.int (c / L)), .val (.int (c % L)), .emp] = .ok (.old, .int (sumT m x L)) := by
    refine bi1_ok (p := (.new, .list (((ringL m x L).map fun o => (atM m o).2).map .int))) ?_ ?_
    · rw [List.map_map]
      exact lc_ok (β := Int) (enc := .int) (kd := .bor) (items := ringL m x L) (f := fun o => .int (atM m o).2) rfl (by rw [rl]; omega) fun o ho => ⟨_, (.old, .int (atM m o).2), rfl, turn [] .emp o (inR L o ho).1 (inR L o ho).2, rfl, rfl⟩
    · show (match intsD (((ringL m x L).map fun o => (atM m o).2).map PyData.int) with | some bs => okv (.int (sumI bs)) | none => Rf.R.no) = _
      rw [intsD_map]
      dsimp only
      rw [sumI_eq, sum_ring]; rfl
  have s2 : fBi (Bi.fn .sum) (fCons (fLc [7] (.n 7) (iSeq (fSlH (fV 3) (fV 6))) none (fOp ixD (fOp ixD (fV 0) (fV 7)) (cI 1))) fNil) [.val (eM m), .val (.int x), .val (.int c), .own (.list ((ringL m x L).map .int)), .emp, .val (.int (c / L)), .val (.int (c % L)), .emp] = .ok (.old, .int (sumT m x (c % (L : Int)).toNat)) := by
    have tk : (ringL m x L).take (c % (L : Int)).toNat = ringL m x (c % (L : Int)).toNat := by
      unfold ringL
      rw [← List.map_take, List.take_range, Nat.min_eq_left (by omega)]
    refine bi1_ok (p := (.new, .list (((ringL m x (c % (L : Int)).toNat).map fun o => (atM m o).2).map .int))) ?_ ?_
    · rw [List.map_map]
      refine lc_ok (β := Int) (enc := .int) (kd := .new) (items := ringL m x (c % (L : Int)).toNat) (f := fun o => .int (atM m o).2) (iSeq_new (k := .new) ?_) (by simp [ringL]; omega) fun o ho => ⟨_, (.old, .int (atM m o).2), rfl, turn [] .emp o (inR _ o ho).1 (inR _ o ho).2, rfl, rfl⟩
      show okn (.list (cutD ((ringL m x L).map PyData.int) none (some (c % (L : Int))))) = _
      rw [← el, sl_take, ← List.map_take, tk]; rfl
    · show (match intsD (((ringL m x (c % (L : Int)).toNat).map fun o => (atM m o).2).map PyData.int) with | some bs => okv (.int (sumI bs)) | none => Rf.R.no) = _
      rw [intsD_map]
      dsimp only
      rw [sumI_eq, sum_ring]; rfl
  have e3 : fSet 4 (fOp (Bo.fn .add) (fOp (Bo.fn .mul) (fV 5) (fBi (Bi.fn .sum) (fCons (fLc [7] (.n 7) (iSeq (fV 3)) none (fOp ixD (fOp ixD (fV 0) (fV 7)) (cI 1))) fNil))) (fBi (Bi.fn .sum) (fCons (fLc [7] (.n 7) (iSeq (fSlH (fV 3) (fV 6))) none (fOp ixD (fOp ixD (fV 0) (fV 7)) (cI 1))) fNil))) [.val (eM m), .val (.int x), .val (.int c), .own (.list ((ringL m x L).map .int)), .emp, .val (.int (c / L)), .val (.int (c % L)), .emp]
      = .nx [.val (eM m), .val (.int x), .val (.int c), .own (.list ((ringL m x L).map .int)), .val (.int (goM m x L c).2), .val (.int (c / L)), .val (.int (c % L)), .emp] := by
    have b := sum_b v x0 x1 L
    refine set_nx (p := (.old, .int (goM m x L c).2)) (op_ok (p := (.old, .int (c / L * sumT m x L))) (q := (.old, .int (sumT m x (c % (L : Int)).toNat))) (op_ok (p := (.old, .int (c / L))) (q := (.old, .int (sumT m x L))) rfl s1 (mulE ?_ ?_)) s2 rfl) rfl
    · have : (c / (L : Int)).natAbs ≤ c.natAbs + 8 := by
        have a := Int.emod_add_mul_ediv c (L : Int)
        have a1 : c / (L : Int) * 1 ≤ c / (L : Int) * L ∨ c / (L : Int) < 0 := by
          by_cases q : 0 ≤ c / (L : Int)
          · exact .inl (Int.mul_le_mul_of_nonneg_left (by omega) q)
          · exact .inr (by omega)
        have a2 : c / (L : Int) * L ≤ c / (L : Int) * 1 ∨ 0 ≤ c / (L : Int) := by
          by_cases q : 0 ≤ c / (L : Int)
          · exact .inr q
          · exact .inl (Int.mul_le_mul_of_nonpos_left (by omega) (by omega))
        rw [Int.mul_comm (L : Int)] at a
        omega
      omega
    · omega
  refine run_of (o := .rt .old (eP ((goM m x L c).1, (goM m x L c).2 % 4))) (seq_nx e1 (seq_nx e2 (seq_nx e3 (ret_rt (p := (.old, eP ((goM m x L c).1, (goM m x L c).2 % 4))) ?_ rfl)))) rfl
  show fTup _ _ = _
  unfold fTup R.bind
  rw [cons_ok (p := (.old, .int (goM m x L c).1)) (op_ok (p := (.bor, .list ((ringL m x L).map .int))) (q := (.old, .int (c % L))) rfl rfl (ixL h0 (x := (goM m x L c).1) (by
    unfold ringL
    rw [List.getElem?_map, List.getElem?_range (by omega)]; rfl))) (cons_ok (op_ok (p := (.old, .int (goM m x L c).2)) (q := (.old, .int 4)) rfl rfl (modE (by decide))) (show fNil _ = .ok [] from rfl))]
  rfl
theorem after_ok {n : Nat} {m : Mv} (v : VM n m) (h1 : 1 ≤ n) (h8 : n ≤ 8) (hfu : 3400 ≤ fu) {x : Int} (x0 : 0 ≤ x) (x1 : x < n) {L : Nat} (r : Ring m x L) (hL : L ≤ n) {c : Int} (hc : c.natAbs < 2 ^ 190) : g_after fu [eM m, .int x, .int c] = .ok (.old, eP ((goM m x L c).1, (goM m x L c).2 % 4)) :=
  run_of (o := .rt .old (eP ((goM m x L c).1, (goM m x L c).2 % 4))) (seq_nx (env' := [.val (eM m), .val (.int x), .val (.int c)]) (expr_nx (call_ok (l := [(.old, eM m), (.old, .int x)]) rfl rfl (place_ok v h1 h8 x0 x1) rfl)) (seq_nx (env' := [.val (eM m), .val (.int x), .val (.int c)]) (if_f (orT_f rfl rfl) rfl) (ret_rt (p := (.old, eP ((goM m x L c).1, (goM m x L c).2 % 4))) (call_ok (l := [(.old, eM m), (.old, .int x), (.old, .int c)]) rfl rfl (landed_ok v h8 hfu x0 x1 r hL hc) rfl) rfl))) rfl
end Zk07

namespace Zk07
open PySem Rf
variable {fu : Nat}
theorem power_ok {n : Nat} {m : Mv} (v : VM n m) (h8 : n ≤ 8) (hfu : 3400 ≤ fu) {k : Nat} (hk : k ≤ 1000) : g_power fu [eM m, .int k] = .ok (.old, eM (itM m k)) := by
  have e0 : fSet 2 (fCall (g_still_move fu) (fCons (fBi (Bi.fn .len) (fCons (fV 0) fNil)) fNil)) [.val (eM m), .val (.int k), .emp, .emp] = .nx [.val (eM m), .val (.int k), .val (eM (itM m 0)), .emp] :=
    set_nx (p := (.old, eM (restM m.length))) (call_ok (l := [(.old, .int (m.length : Nat))]) (cons_ok (lenM rfl) rfl) rfl (still_ok (by rw [v.len]; omega)) rfl) rfl
  have comp2 : ∀ a b : Nat, g_compose fu [eM (itM m a), eM (itM m b)] = .ok (.old, eM (itM m (a + b))) := fun a b => by
    rw [← comp_it v]
    exact compose_ok (by rw [itM_len, v.len]; omega) (fun p hp => by rw [itM_len, v.len]; exact it_rg v _ p hp)
  obtain ⟨env1, e1, s1, s3, rfl⟩ := while_ok (fu := fu) (ft := (fTst (fOp (cmpD .gt) (fV 1) (cI 0)))) (gb := (fSeq (fIfS (fTst (fOp (cmpD .eq) (fOp (Bo.fn .mod) (fV 1) (cI 2)) (cI 1))) (fFz [2, 3] (fSet 2 (fCall (g_compose fu) (fCons (fV 2) (fCons (fV 3) fNil))))) fPass) (fSeq (fFz [3] (fSet 3 (fCall (g_compose fu) (fCons (fV 3) (fCons (fV 3) fNil))))) (fAug .fdiv 1 (cI 2)))))
    (env := [.val (eM m), .val (.int k), .val (eM (itM m 0)), .val (eM (itM m 1))])
    (fun j env => ∃ a b c : Nat, j = c ∧ a + b * c = k ∧ env = [.val (eM m), .val (.int c), .val (eM (itM m a)), .val (eM (itM m b))])
    (fun env => ∃ s1 s3, env = [.val (eM m), s1, .val (eM (itM m k)), s3]) k ⟨0, 1, k, rfl, by omega, rfl⟩ (by omega) (by
      rintro j env ⟨a, b, c, rfl, habc, rfl⟩
      by_cases hc : 0 < j
      · have hj : (0 : Int) < (j : Nat) := by omega
        have hd : ((j : Nat) : Int) / 2 = ((j / 2 : Nat) : Int) := by omega
        refine .inr ⟨tst_ok (k := .old) (op_ok (p := (.old, .int j)) (q := (.old, .int 0)) rfl rfl (by show okv (.bool (decide ((0 : Int) < (j : Nat)))) = _; rw [decide_eq_true hj]; rfl)), j / 2, ?_⟩
        have mk : ∀ a' : Nat, (fSeq (fFz [3] (fSet 3 (fCall (g_compose fu) (fCons (fV 3) (fCons (fV 3) fNil))))) (fAug .fdiv 1 (cI 2))) [.val (eM m), .val (.int j), .val (eM (itM m a')), .val (eM (itM m b))] = .nx [.val (eM m), .val (.int ((j / 2 : Nat) : Int)), .val (eM (itM m a')), .val (eM (itM m (b + b)))] := fun a' =>
          seq_nx (env' := [.val (eM m), .val (.int j), .val (eM (itM m a')), .val (eM (itM m (b + b)))]) (set_nx (p := (.old, eM (itM m (b + b)))) (call_ok (l := [(.old, eM (itM m b)), (.old, eM (itM m b))]) rfl rfl (comp2 b b) rfl) rfl) (by rw [← hd]; exact aug_nx (p := (.old, .int 2)) (q := (.old, .int ((j : Nat) / 2 : Int))) rfl rfl rfl)
        by_cases ho : j % 2 = 1
        · refine ⟨_, by omega, seq_nx (env' := [.val (eM m), .val (.int j), .val (eM (itM m (a + b))), .val (eM (itM m b))]) (if_t (tst_ok (k := .old) (op_ok (p := (.old, .int (j % 2))) (q := (.old, .int 1)) (op_ok (p := (.old, .int j)) (q := (.old, .int 2)) rfl rfl (modE (by decide))) rfl (by rw [show (Kd.old, PyData.int ((j : Int) % 2)).2 = PyData.int ((j : Int) % 2) from rfl]; exact (ceqI _ _).trans (by rw [decide_eq_true (by omega)]; rfl)))) (set_nx (p := (.old, eM (itM m (a + b)))) (call_ok (l := [(.old, eM (itM m a)), (.old, eM (itM m b))]) rfl rfl (comp2 a b) rfl) rfl)) (mk (a + b)), a + b, b + b, j / 2, rfl, ?_, rfl⟩
          have e2 : j = 2 * (j / 2) + 1 := by omega
          have e3 : b * j = b * (2 * (j / 2)) + b := by
            have := congrArg (b * ·) e2
            simp only [Nat.mul_add, Nat.mul_one] at this
            exact this
          have e4 : (b + b) * (j / 2) = b * (2 * (j / 2)) := by rw [← Nat.two_mul, Nat.mul_comm 2 b, Nat.mul_assoc]
          rw [e4]; omega
        · refine ⟨_, by omega, seq_nx (env' := [.val (eM m), .val (.int j), .val (eM (itM m a)), .val (eM (itM m b))]) (if_f (tst_ok (k := .old) (op_ok (p := (.old, .int (j % 2))) (q := (.old, .int 1)) (op_ok (p := (.old, .int j)) (q := (.old, .int 2)) rfl rfl (modE (by decide))) rfl (by rw [show (Kd.old, PyData.int ((j : Int) % 2)).2 = PyData.int ((j : Int) % 2) from rfl]; exact (ceqI _ _).trans (by rw [decide_eq_false (by omega)]; rfl)))) rfl) (mk a), a, b + b, j / 2, rfl, ?_, rfl⟩
          have e2 : j = 2 * (j / 2) := by omega
          have e3 : b * j = b * (2 * (j / 2)) := congrArg (b * ·) e2
          have e4 : (b + b) * (j / 2) = b * (2 * (j / 2)) := by rw [← Nat.two_mul, Nat.mul_comm 2 b, Nat.mul_assoc]
          rw [e4]; omega
      · have e : j = 0 := by omega
        subst e
        refine .inl ⟨tst_ok (k := .old) (op_ok (p := (.old, .int 0)) (q := (.old, .int 0)) rfl rfl rfl), .val (.int ((0 : Nat) : Int)), .val (eM (itM m b)), ?_⟩
        rw [show a = k by omega])
  exact run_of (o := .rt .old (eM (itM m k))) (seq_nx e0 (seq_nx (env' := [.val (eM m), .val (.int k), .val (eM (itM m 0)), .val (eM (itM m 1))]) (by rw [it_one v]; rfl) (seq_nx e1 rfl))) rfl
/-! inverse -/
theorem enumL_zip (l : Mv) (n : Nat) : enumL n (l.map eP) = (l.zipIdx n).map fun q => .tuple [.int (q.2 : Nat), eP q.1] := by
  induction l generalizing n with
  | nil => rfl
  | cons p l ih => rw [List.map_cons, enumL, List.zipIdx_cons, List.map_cons, ih]
def part (n : Nat) (m : Mv) (k : Nat) : List D := (List.range n).map fun y : Nat => match decide ((m.map (·.1)).idxOf (y : Int) < k) with
  | true => eP (atM (invM m) (y : Int))
  | false => .none
theorem part_set {n : Nat} {m : Mv} (v : VM n m) {k : Nat} (hk : k < n) : (part n m k).set (atM m k).1.toNat (eP ((k : Int), (0 - (atM m k).2) % 4)) = part n m (k + 1) := by
  have s := v.s_rg (x := (k : Int)) (by omega) (by omega)
  have es : (((atM m k).1.toNat : Nat) : Int) = (atM m k).1 := by omega
  refine List.ext_getElem? fun y => ?_
  unfold part
  rw [List.getElem?_set]
  by_cases hy : y < n
  · rw [List.getElem?_map, List.getElem?_map, List.getElem?_range hy, List.length_map, List.length_range]
    by_cases e : (atM m k).1.toNat = y
    · rw [if_pos e, if_pos (by omega), ← e]
      dsimp only [Option.map]
      rw [es, idx_of v hk, decide_eq_true (Nat.lt_succ_self k), atM_inv v hk]
    · rw [if_neg e]
      dsimp only [Option.map]
      congr 1
      have hne : (m.map (·.1)).idxOf (y : Int) ≠ k := fun z => by
        obtain ⟨x, hx, ex⟩ := pre_ex v (y := (y : Int)) (by omega) (by omega)
        have := idx_of v hx
        rw [ex, z] at this
        subst this
        rw [ex] at e
        omega
      by_cases q : (m.map (·.1)).idxOf (y : Int) < k
      · rw [decide_eq_true q, decide_eq_true (by omega)]
      · rw [decide_eq_false q, decide_eq_false (by omega)]
  · rw [if_neg (by omega), List.getElem?_eq_none (by simp; omega), List.getElem?_eq_none (by simp; omega)]
theorem idx_lt {n : Nat} {m : Mv} (v : VM n m) {y : Nat} (hy : y < n) : (m.map (·.1)).idxOf (y : Int) < n := by
  obtain ⟨x, hx, ex⟩ := pre_ex v (y := (y : Int)) (by omega) (by omega)
  rw [← ex, idx_of v hx]; exact hx
theorem part_all {n : Nat} {m : Mv} (v : VM n m) : part n m n = (invM m).map eP := by
  refine List.ext_getElem? fun y => ?_
  by_cases hy : y < n
  · unfold part
    rw [List.getElem?_map, List.getElem?_map, List.getElem?_range hy, atM_get (by rw [invM_len, v.len]; exact hy)]
    dsimp only [Option.map]
    rw [decide_eq_true (idx_lt v hy)]
  · rw [List.getElem?_eq_none (by unfold part; simp; omega), List.getElem?_eq_none (by rw [List.length_map, invM_len, v.len]; omega)]
theorem part_none {n : Nat} {m : Mv} : part n m 0 = List.replicate n .none := by
  unfold part
  refine List.ext_getElem? fun y => ?_
  by_cases hy : y < n
  · rw [List.getElem?_map, List.getElem?_range hy, List.getElem?_replicate, if_pos hy]
    rfl
  · rw [List.getElem?_eq_none (by simp; omega), List.getElem?_eq_none (by simp; omega)]
theorem put_nx {i : Nat} {fe fi : Rf.Env → RV} {env : Rf.Env} {p q : Kd × D} {ds : List D} {z : Int} {j : Nat} (hi : env[i]? = some (.own (.list ds))) (h : fe env = .ok p) (nb : p.1.nb = true) (h2 : fi env = .ok q) (hq : q.2 = .int z) (hz : L2.ixN ds.length z = some j) : fPut i fe fi env = .nx (env.set i (.own (.list (ds.set j p.2)))) := by
  unfold fPut hasOwn sbind; rw [hi]; dsimp only; rw [h]; dsimp only; rw [nb]; dsimp only; rw [h2]; dsimp only
  unfold putE; rw [hi]; dsimp only; unfold putLD; rw [hq]; dsimp only; rw [hz]
theorem mulL {xs : List D} {k : Nat} (hk : k ≤ 100000) (hx : xs.length = 1) : mulD (.list xs) (.int (k : Int)) = okn (.list (List.replicate k xs).flatten) := by
  have e : ((k : Nat) : Int).toNat = k := by omega
  rw [mulD, hx, Nat.one_mul, e, ble_big hk, decide_eq_true (by omega), decide_eq_true (by omega)]
  rfl
theorem inverse_ok {n : Nat} {m : Mv} (v : VM n m) (h8 : n ≤ 8) : g_inverse fu [eM m] = .ok (.old, eM (invM m)) := by
  have e0 : fSet 1 (fOp (Bo.fn .mul) (fLst (fCons cN fNil)) (fBi (Bi.fn .len) (fCons (fV 0) fNil))) [.val (eM m), .emp, .emp, .emp, .emp] = .nx [.val (eM m), .own (.list (part n m 0)), .emp, .emp, .emp] := by
    refine set_nx (p := (.new, .list (part n m 0))) (op_ok (p := (.new, .list [.none])) (q := (.old, .int (m.length : Nat))) rfl (lenM rfl) ?_) rfl
    rw [part_none, v.len]
    refine (mulL (xs := [.none]) (k := n) (by omega) rfl).trans ?_
    rw [List.flatten_replicate_singleton]; rfl
  obtain ⟨env1, e1, s2, s3, s4, rfl⟩ := for_ok (β := (Int × Int) × Nat) (enc := fun q => .tuple [.int (q.2 : Nat), eP q.1]) (items := m.zipIdx 0) (kd := .old) (env := [.val (eM m), .own (.list (part n m 0)), .emp, .emp, .emp]) (T := .t (.cons (.n 2) (.cons (.t (.cons (.n 3) (.cons (.n 4) .nil))) .nil))) (src := iEnumD (fV 0))
    (gb := (fFz [2] (fPut 1 (fTup (fCons (fV 2) (fCons (fOp (Bo.fn .mod) (fOp (Bo.fn .sub) (cI 0) (fV 4)) (cI 4)) fNil))) (fV 3))))
    (fun done env => ∃ s2 s3 s4, env = [.val (eM m), .own (.list (part n m done.length)), s2, s3, s4])
    (by show Rf.R.ok (Kd.old, enumL 0 (m.map eP)) = _; rw [enumL_zip]) rfl ⟨_, _, _, rfl⟩ (by
      rintro done rest q env hi ⟨s2, s3, s4, rfl⟩
      have hd : done.length < n := by
        have := congrArg List.length hi
        rw [List.length_zipIdx, v.len] at this
        simp at this; omega
      have hq : q = (atM m done.length, done.length) := by
        have e : (m.zipIdx 0)[done.length]? = some q := by rw [hi]; simp
        rw [List.getElem?_zipIdx, atM_get (by rw [v.len]; exact hd)] at e
        simpa using e.symm
      subst hq
      have s := v.s_rg (x := (done.length : Int)) (by omega) (by omega)
      refine ⟨[.val (eM m), .own (.list (part n m done.length)), .val (.int done.length), .val (.int (atM m done.length).1), .val (.int (atM m done.length).2)], _, rfl, put_nx (ds := part n m done.length) (p := (.old, eP ((done.length : Int), (0 - (atM m done.length).2) % 4))) (q := (.old, .int (atM m done.length).1)) (z := (atM m done.length).1) (j := (atM m done.length).1.toNat) rfl ?_ rfl rfl rfl ?_, .val (.int done.length), .val (.int (atM m done.length).1), .val (.int (atM m done.length).2), ?_⟩
      · show fTup _ _ = _
        unfold fTup R.bind
        rw [cons_ok (p := (.old, .int done.length)) rfl (cons_ok (op_ok (o := Bo.fn .mod) (p := (.old, .int (0 - (atM m done.length).2))) (q := (.old, .int 4)) rfl rfl (modE (by decide))) (show fNil _ = .ok [] from rfl))]
        rfl
      · unfold L2.ixN
        rw [if_pos s.1, if_pos (by unfold part; simp; exact s.2)]
      · show [Sl.val (eM m), .own (.list ((part n m done.length).set (atM m done.length).1.toNat (eP ((done.length : Int), (0 - (atM m done.length).2) % 4)))), .val (.int done.length), .val (.int (atM m done.length).1), .val (.int (atM m done.length).2)] = _
        rw [part_set v hd, List.length_append]; rfl)
  rw [List.length_zipIdx, v.len, part_all v] at e1
  exact run_of (o := .rt .old (eM (invM m))) (seq_nx e0 (seq_nx e1 rfl)) rfl
end Zk07

namespace Zk07
open PySem Rf
variable {fu : Nat}
theorem inv_VM {n : Nat} {m : Mv} (v : VM n m) : VM n (invM m) := by
  have idx : ∀ y : Nat, y < n → ∃ x : Nat, x < n ∧ (atM m x).1 = y ∧ (m.map (·.1)).idxOf (y : Int) = x := fun y hy => by
    obtain ⟨x, hx, ex⟩ := pre_ex v (y := (y : Int)) (by omega) (by omega)
    exact ⟨x, hx, ex, by rw [← ex]; exact idx_of v hx⟩
  refine ⟨(invM_len m).trans v.len, ?_, fun p hp => ?_, fun p hp => ?_⟩
  · unfold invM
    rw [List.map_map, List.Nodup, List.pairwise_map]
    refine List.pairwise_iff_getElem.mpr fun i j hi hj hij => ?_
    rw [List.getElem_range, List.getElem_range]
    rw [List.length_range, v.len] at hi hj
    obtain ⟨x, hx, e1, e2⟩ := idx i hi
    obtain ⟨y, hy, f1, f2⟩ := idx j hj
    intro z
    have z : (((m.map (·.1)).idxOf (i : Int) : Nat) : Int) = (((m.map (·.1)).idxOf (j : Int) : Nat) : Int) := z
    rw [e2, f2] at z
    have : x = y := by omega
    subst this
    rw [e1] at f1
    omega
  · obtain ⟨y, hy, rfl⟩ := List.mem_map.mp hp
    have := idx_lt v (y := y) (by rw [← v.len]; exact List.mem_range.mp hy)
    exact ⟨by show (0 : Int) ≤ (((m.map (·.1)).idxOf (y : Int) : Nat) : Int); omega, by show (((m.map (·.1)).idxOf (y : Int) : Nat) : Int) < n; omega⟩
  · obtain ⟨y, hy, rfl⟩ := List.mem_map.mp hp
    exact ⟨Int.emod_nonneg _ (by decide), Int.emod_lt_of_pos _ (by decide)⟩
theorem ifE_t {ft : Rf.Env → Rf.R Bool} {fa fb : Rf.Env → RV} {env : Rf.Env} {r : RV} (h : ft env = .ok true) (h2 : fa env = r) : fIf ft fa fb env = r := by unfold fIf R.bind; rw [h]; exact h2
theorem ifE_f {ft : Rf.Env → Rf.R Bool} {fa fb : Rf.Env → RV} {env : Rf.Env} {r : RV} (h : ft env = .ok false) (h2 : fb env = r) : fIf ft fa fb env = r := by unfold fIf R.bind; rw [h]; exact h2
theorem not_int (i : Int) : (fOrT (fNotT (fTst (fIsi .int (fV 1)))) (fTst (fIsi .bool (fV 1)))) [.val (eM []), .val (.int i)] = .ok false := rfl
theorem times_pos {n : Nat} {m : Mv} (v : VM n m) (h1 : 1 ≤ n) (h8 : n ≤ 8) (hfu : 3400 ≤ fu) {k : Nat} (hk : k ≤ 1000) : g_times fu [eM m, .int k] = .ok (.old, eM (itM m k)) := by
  refine run_of (o := .rt .old (eM (itM m k))) (seq_nx (env' := [.val (eM m), .val (.int k)]) (expr_nx (call_ok (l := [(.old, eM m)]) rfl rfl (check_ok v h1 h8) rfl)) (seq_nx (env' := [.val (eM m), .val (.int k)]) (if_f (orT_f rfl rfl) rfl) (ret_rt (p := (.old, eM (itM m k))) ?_ rfl))) rfl
  have t : fTst (fOp (cmpD .ge) (fV 1) (cI 0)) [.val (eM m), .val (.int k)] = .ok true := by
    show Rf.R.ok (decide ((0 : Int) ≤ (k : Nat))) = _
    rw [decide_eq_true (by omega)]
  exact ifE_t t <| call_ok (l := [(.old, eM m), (.old, .int k)]) rfl rfl (power_ok v h8 hfu hk) rfl
theorem times_neg {n : Nat} {m : Mv} (v : VM n m) (h1 : 1 ≤ n) (h8 : n ≤ 8) (hfu : 3400 ≤ fu) {k : Nat} (hk : k ≤ 1000) : g_times fu [eM m, .int (0 - (k : Int))] = .ok (.old, eM (itM (invM m) k)) := by
  by_cases h0 : k = 0
  · subst h0
    have := times_pos (fu := fu) v h1 h8 hfu (k := 0) (by decide)
    have e : itM (invM m) 0 = itM m 0 := by
      show restM _ = restM _
      rw [invM_len]
    rw [e]
    exact this
  · refine run_of (o := .rt .old (eM (itM (invM m) k))) (seq_nx (env' := [.val (eM m), .val (.int (0 - (k : Int)))]) (expr_nx (call_ok (l := [(.old, eM m)]) rfl rfl (check_ok v h1 h8) rfl)) (seq_nx (env' := [.val (eM m), .val (.int (0 - (k : Int)))]) (if_f (orT_f rfl rfl) rfl) (ret_rt (p := (.old, eM (itM (invM m) k))) ?_ rfl))) rfl
    have t : fTst (fOp (cmpD .ge) (fV 1) (cI 0)) [.val (eM m), .val (.int (0 - (k : Int)))] = .ok false := by
      show Rf.R.ok (decide ((0 : Int) ≤ 0 - (k : Int))) = _
      rw [decide_eq_false (by omega)]
    refine ifE_f t ?_
    refine call_ok (l := [(.old, eM (invM m)), (.old, .int k)]) (cons_ok (call_ok (l := [(.old, eM m)]) rfl rfl (inverse_ok v h8) rfl) (cons_ok (op_ok (p := (.old, .int 0)) (q := (.old, .int (0 - (k : Int)))) rfl rfl ?_) rfl)) rfl (power_ok (inv_VM v) h8 hfu hk) rfl
    show okv (.int (0 - (0 - (k : Int)))) = _
    rw [show (0 : Int) - (0 - (k : Int)) = k by omega]; rfl
/-! dicts of ints -/
theorem dget_put (kvs : List (D × D)) (i j : Int) (w : D) : dgetD (dputD kvs (.int i) w) (.int j) = match decide (i = j) with | true => some w | false => dgetD kvs (.int j) := by
  have eqk : ∀ p : D, eqKD p (.int i) = true → p = .int i := fun p h => by
    cases p <;> simp [eqKD] at h
    rw [h]
  have mapc : ∀ kvs : List (D × D), dgetD (kvs.map fun p => match eqKD p.1 (.int i) with | true => (p.1, w) | false => p) (.int j) = match decide (i = j) && kvs.any (fun p => eqKD p.1 (.int i)) with | true => some w | false => dgetD kvs (.int j) := by
    intro kvs
    induction kvs with
    | nil => simp [dgetD]
    | cons p r ih =>
      rw [List.map_cons, List.any_cons]
      cases h : eqKD p.1 (.int i) with
      | true =>
        have e := eqk _ h
        dsimp only
        unfold dgetD
        dsimp only
        rw [e]
        by_cases q : i = j
        · subst q; simp [eqKD]
        · rw [show eqKD (.int i) (.int j) = false by simp [eqKD, q], ih, decide_eq_false q]
          simp
      | false =>
        dsimp only
        unfold dgetD
        rw [ih, Bool.false_or]
        cases h2 : eqKD p.1 (.int j) with
        | false => rfl
        | true =>
          dsimp only
          have : i ≠ j := fun z => by subst z; rw [h] at h2; cases h2
          rw [decide_eq_false this]; simp
  unfold dputD
  cases h : kvs.any fun p => eqKD p.1 (.int i) with
  | true => exact (mapc kvs).trans (by rw [h, Bool.and_true])
  | false =>
    dsimp only
    have app : ∀ kvs : List (D × D), (kvs.any fun p => eqKD p.1 (.int i)) = false → dgetD (kvs ++ [(.int i, w)]) (.int j) = match decide (i = j) with | true => some w | false => dgetD kvs (.int j) := by
      intro kvs
      induction kvs with
      | nil => intro _; by_cases q : i = j <;> simp [dgetD, eqKD, q]
      | cons p r ih =>
        intro h
        rw [List.any_cons, Bool.or_eq_false_iff] at h
        rw [List.cons_append]
        unfold dgetD
        rw [ih h.2]
        cases h2 : eqKD p.1 (.int j) with
        | false => rfl
        | true =>
          dsimp only
          have : i ≠ j := fun z => by subst z; rw [h.1] at h2; cases h2
          rw [decide_eq_false this]
    exact app kvs h
theorem put_keys {kvs : List (D × D)} {i : Int} {w : D} (h : ∀ p ∈ kvs, isKD p.1 = true) : ∀ p ∈ dputD kvs (.int i) w, isKD p.1 = true := by
  unfold dputD
  split
  · intro p hp
    obtain ⟨q, hq, rfl⟩ := List.mem_map.mp hp
    have := h q hq
    split <;> exact this
  · intro p hp
    rcases List.mem_append.mp hp with hp | hp
    · exact h p hp
    · rw [List.mem_singleton.mp hp]; rfl
theorem put_len (kvs : List (D × D)) (k w : D) : (dputD kvs k w).length ≤ kvs.length + 1 := by
  unfold dputD
  split <;> simp
theorem keys_k {kvs : List (D × D)} (h : ∀ p ∈ kvs, isKD p.1 = true) : kKD kvs = true := by
  cases kvs with
  | nil => rfl
  | cons p r => exact h p List.mem_cons_self
theorem dput_nx {i : Nat} {fe fi : Rf.Env → RV} {env : Rf.Env} {p q : Kd × D} {kvs : List (D × D)} {z : Int} (hi : env[i]? = some (.own (.dict kvs))) (h : fe env = .ok p) (nb : p.1.nb = true) (h2 : fi env = .ok q) (hq : q.2 = .int z) (hz : kvs.length ≤ 100000) : fPut i fe fi env = .nx (env.set i (.own (.dict (dputD kvs (.int z) p.2)))) := by
  unfold fPut hasOwn sbind; rw [hi]; dsimp only; rw [h]; dsimp only; rw [nb]; dsimp only; rw [h2]; dsimp only
  unfold putE; rw [hi]; dsimp only; unfold putDD; rw [hq]
  have : Nat.ble 16777216 kvs.length = false := by
    cases e : Nat.ble 16777216 kvs.length with
    | false => rfl
    | true => exact absurd (Nat.le_of_ble_eq_true e) (by omega)
  rw [this]; rfl
theorem ixDict {kvs : List (D × D)} {i : Int} {d : D} (h : ∀ p ∈ kvs, isKD p.1 = true) (e : dgetD kvs (.int i) = some d) : ixD (.dict kvs) (.int i) = .ok (.old, d) := by
  show (match isKD (.int i) && kKD kvs with | true => (match dgetD kvs (.int i) with | some d => okv d | none => Rf.R.no) | false => .no) = _
  rw [keys_k h, e]; rfl
theorem back_ok {n : Nat} {m : Mv} (v : VM n m) (h8 : n ≤ 8) : g__law_back fu [eM m] = .ok (.old, eM (invM m)) := by
  obtain ⟨env1, e1, s2, kvs, rfl, hk, hl, hg⟩ := for_ok (β := Nat) (enc := fun i => .int ((i : Nat) : Int)) (items := List.range n) (kd := .old) (env := [.val (eM m), .own (.dict []), .emp]) (T := .n 2) (src := iRng1 (fBi (Bi.fn .len) (fCons (fV 0) fNil)))
    (gb := (fFz [2] (fPut 1 (fTup (fCons (fV 2) (fCons (fOp (Bo.fn .mod) (fBi (Bi.fn .int) (fCons (fOp (Bo.fn .sub) (cI 4) (fOp ixD (fOp ixD (fV 0) (fV 2)) (cI 1))) fNil)) (cI 4)) fNil))) (fOp ixD (fOp ixD (fV 0) (fV 2)) (cI 0)))))
    (fun done env => ∃ s2 kvs, env = [.val (eM m), .own (.dict kvs), s2] ∧ (∀ p ∈ kvs, isKD p.1 = true) ∧ kvs.length ≤ done.length ∧ ∀ x : Nat, x < done.length → dgetD kvs (.int (atM m x).1) = some (eP ((x : Int), (0 - (atM m x).2) % 4)))
    (by have := iR1_ok (fa := fBi (Bi.fn .len) (fCons (fV 0) fNil)) (env := [.val (eM m), .own (.dict []), .emp]) (k := .old) (n := n) (by have := lenM (m := m) (i := 0) (env := [.val (eM m), .own (.dict []), .emp]) rfl; rw [v.len] at this; exact this) (by omega); rw [List.map_map] at this; exact this) rfl ⟨_, _, rfl, fun p hp => by (cases hp), by simp, fun x hx => by simp at hx⟩ (by
      rintro done rest x env hi ⟨s2, kvs, rfl, hk, hl, hg⟩
      have hd : done.length < n := by
        have := congrArg List.length hi
        simp at this; omega
      have hx : x = done.length := by
        have e : (List.range n)[done.length]? = some x := by rw [hi]; simp
        rw [List.getElem?_range hd] at e
        simpa using e.symm
      subst hx
      have e1 : fOp ixD (fV 0) (fV 2) [.val (eM m), .own (.dict kvs), .val (.int (done.length : Int))] = .ok (.old, eP (atM m done.length)) := op_ok (p := (.old, eM m)) (q := (.old, .int (done.length : Int))) rfl rfl (ixM (by omega) (by rw [v.len]; omega))
      have e2 : fOp ixD (fOp ixD (fV 0) (fV 2)) (cI 1) [.val (eM m), .own (.dict kvs), .val (.int (done.length : Int))] = .ok (.old, .int (atM m done.length).2) := op_ok (p := (.old, eP (atM m done.length))) (q := (.old, .int 1)) e1 rfl rfl
      have e3 : fOp ixD (fOp ixD (fV 0) (fV 2)) (cI 0) [.val (eM m), .own (.dict kvs), .val (.int (done.length : Int))] = .ok (.old, .int (atM m done.length).1) := op_ok (p := (.old, eP (atM m done.length))) (q := (.old, .int 0)) e1 rfl rfl
      have e4 : fTup (fCons (fV 2) (fCons (fOp (Bo.fn .mod) (fBi (Bi.fn .int) (fCons (fOp (Bo.fn .sub) (cI 4) (fOp ixD (fOp ixD (fV 0) (fV 2)) (cI 1))) fNil)) (cI 4)) fNil)) [.val (eM m), .own (.dict kvs), .val (.int (done.length : Int))] = .ok (.old, eP ((done.length : Int), (4 - (atM m done.length).2) % 4)) := by
        unfold fTup R.bind
        rw [cons_ok (p := (.old, .int (done.length : Int))) rfl (cons_ok (op_ok (o := Bo.fn .mod) (p := (.old, .int (4 - (atM m done.length).2))) (q := (.old, .int 4)) (bi1_ok (p := (.old, .int (4 - (atM m done.length).2))) (op_ok (p := (.old, .int 4)) (q := (.old, .int (atM m done.length).2)) rfl e2 rfl) rfl) rfl (modE (by decide))) (show fNil _ = .ok [] from rfl))]
        rfl
      refine ⟨[.val (eM m), .own (.dict kvs), .val (.int (done.length : Int))], _, rfl, dput_nx (kvs := kvs) (z := (atM m done.length).1) rfl e4 rfl e3 rfl (by omega), _, dputD kvs (.int (atM m done.length).1) (eP ((done.length : Int), (4 - (atM m done.length).2) % 4)), rfl, put_keys hk, ?_, fun x hx => ?_⟩
      · have := put_len kvs (.int (atM m done.length).1) (eP ((done.length : Int), (4 - (atM m done.length).2) % 4))
        rw [List.length_append, List.length_singleton]; omega
      · rw [dget_put]
        rw [List.length_append, List.length_singleton] at hx
        by_cases q : x = done.length
        · subst q
          rw [decide_eq_true rfl]
          dsimp only
          rw [show (4 - (atM m done.length).2) % 4 = (0 - (atM m done.length).2) % 4 by omega]
        · have ne : (atM m done.length).1 ≠ (atM m x).1 := fun z => q (by
            have := v.inj (x := (done.length : Int)) (y := (x : Int)) (by omega) (by omega) (by omega) (by omega) z
            omega)
          rw [decide_eq_false ne]
          exact hg x (by omega))
  rw [List.length_range] at hg hl
  refine run_of (o := .rt .old (eM (invM m))) (seq_nx rfl (seq_nx e1 (ret_rt (p := (.old, eM (invM m))) (bi1_ok (p := (.new, .list ((invM m).map eP))) ?_ rfl) rfl))) rfl
  have he : (invM m).map eP = (List.range n).map fun y : Nat => eP (atM (invM m) (y : Int)) := by
    refine List.ext_getElem? fun y => ?_
    by_cases hy : y < n
    · rw [List.getElem?_map, List.getElem?_map, List.getElem?_range hy, atM_get (by rw [invM_len, v.len]; exact hy)]; rfl
    · rw [List.getElem?_eq_none (by rw [List.length_map, invM_len, v.len]; omega), List.getElem?_eq_none (by simp; omega)]
  rw [he]
  refine lc_ok (β := Nat) (enc := fun i => .int ((i : Nat) : Int)) (kd := .old) (items := List.range n) (f := fun y : Nat => eP (atM (invM m) (y : Int))) (by have := iR1_ok (fa := fBi (Bi.fn .len) (fCons (fV 0) fNil)) (env := [.val (eM m), .own (.dict kvs), s2]) (k := .old) (n := n) (by have := lenM (m := m) (i := 0) (env := [.val (eM m), .own (.dict kvs), s2]) rfl; rw [v.len] at this; exact this) (by omega); rw [List.map_map] at this; exact this) (by simp; omega) fun y hy => ⟨_, (.old, eP (atM (invM m) (y : Int))), rfl, ?_, rfl, rfl⟩
  have hy := List.mem_range.mp hy
  obtain ⟨x, hx, ex⟩ := pre_ex v (y := (y : Int)) (by omega) (by omega)
  have e2 := hg x hx
  rw [ex] at e2
  have e3 := atM_inv v hx
  rw [ex] at e3
  rw [e3]
  exact op_ok (p := (.bor, .dict kvs)) (q := (.old, .int (y : Int))) rfl rfl (ixDict hk e2)
end Zk07

namespace Zk07
open PySem Rf
variable {fu : Nat}
theorem tup2_ok {fa fb : Rf.Env → RV} {env : Rf.Env} {p q : Kd × D} (h1 : fa env = .ok p) (h2 : fb env = .ok q) (nb : (p.1.nb && q.1.nb) = true) : fTup (fCons fa (fCons fb fNil)) env = .ok (.old, .tuple [p.2, q.2]) := by
  unfold fTup R.bind
  rw [cons_ok h1 (cons_ok h2 (show fNil env = .ok [] from rfl))]
  show chk ((p.1.nb && (q.1.nb && true)) && Nat.ble 2 16777216) _ = _
  rw [Bool.and_true, nb]; rfl
theorem move_ok (l : List Int) (hl : ∀ x ∈ l, 0 ≤ x) (n : Nat) (h10 : 10 ≤ l.length) (h8 : n ≤ 8) : ∃ m : Mv, VM n m ∧ g__law_move fu [.list (l.map .int), .int n] = .ok (.old, eM m) := by
  obtain ⟨p, pl, pn, pr, pe⟩ := Rf.order_ok l hl n (by omega) (by omega)
  have pe' : g__law_order_of fu [.list (l.map .int), .int n] = .ok (.new, .list (p.map .int)) := pe
  obtain ⟨d8, h8'⟩ : ∃ d, l[8]? = some d := ⟨_, List.getElem?_eq_getElem (by omega)⟩
  obtain ⟨d9, h9⟩ : ∃ d, l[9]? = some d := ⟨_, List.getElem?_eq_getElem (by omega)⟩
  have n9 := hl d9 (List.mem_of_getElem? h9)
  have i8 : ixD (.list (l.map .int)) (.int 8) = .ok (.old, .int d8) := ixL (e := .int) (by decide) h8'
  have i9 : ixD (.list (l.map .int)) (.int 9) = .ok (.old, .int d9) := ixL (e := .int) (by decide) h9
  -- the turns
  have go : ∀ kind : Int, ∃ t : Nat → Int, (∀ k, 0 ≤ t k ∧ t k < 4) ∧ ∀ (k : Nat), k < n → fIf (fTst (fOp (cmpD .eq) (fV 3) (cI 0))) (cI 0) (fOp (Bo.fn .mod) (fOp (Bo.fn .fdiv) (fBi (Bi.fn .int) (fCons (fOp ixD (fV 0) (cI 9)) fNil)) (fOp (Bo.fn .add) (cI 1) (fOp (Bo.fn .mul) (cI 4) (fV 4)))) (cI 4)) [.val (.list (l.map .int)), .val (.int n), .val (.list (p.map .int)), .val (.int kind), .val (.int (k : Int))] = .ok (.old, .int (t k)) := fun kind => by
    by_cases hk : kind = 0
    · refine ⟨fun _ => 0, fun _ => ⟨Int.le_refl 0, (by decide : (0 : Int) < 4)⟩, fun k hkn => ifE_t (tst_ok (k := .old) (op_ok (p := (.old, .int kind)) (q := (.old, .int 0)) rfl rfl ((ceqI kind 0).trans (by rw [decide_eq_true hk]; rfl)))) rfl⟩
    · refine ⟨fun k => d9 / (1 + 4 * (k : Int)) % 4, fun k => ⟨Int.emod_nonneg _ (by decide), Int.emod_lt_of_pos _ (by decide)⟩, fun k hkn => ifE_f (tst_ok (k := .old) (op_ok (p := (.old, .int kind)) (q := (.old, .int 0)) rfl rfl ((ceqI kind 0).trans (by rw [decide_eq_false hk]; rfl)))) (op_ok (p := (.old, .int (d9 / (1 + 4 * (k : Int))))) (q := (.old, .int 4)) (op_ok (p := (.old, .int d9)) (q := (.old, .int (1 + 4 * (k : Int)))) (bi1_ok (p := (.old, .int d9)) (op_ok (p := (.old, .list (l.map .int))) (q := (.old, .int 9)) rfl rfl i9) rfl) (op_ok (p := (.old, .int 1)) (q := (.old, .int (4 * (k : Int)))) rfl (op_ok (p := (.old, .int 4)) (q := (.old, .int (k : Int))) rfl rfl (mulE (by decide) (by omega))) rfl) ?_) rfl (modE (by decide)))⟩
      show chk (decide ((0 : Int) < 1 + 4 * (k : Int)) && decide (1 + 4 * (k : Int) < 1073741824)) _ = _
      rw [decide_eq_true (by omega), decide_eq_true (by omega)]; rfl
  obtain ⟨t, ht, he⟩ := go (d8 % 3)
  have pat : ∀ k : Nat, k < n → p[k]? = some (p.getD k 0) := fun k hk => by rw [List.getD_eq_getElem?_getD, List.getElem?_eq_getElem (by omega)]; rfl
  refine ⟨(List.range n).map fun k : Nat => (p.getD k 0, t k), ⟨by simp, ?_, fun q hq => ?_, fun q hq => ?_⟩, ?_⟩
  · rw [List.map_map]
    have : (List.range n).map ((fun x : Int × Int => x.1) ∘ fun k : Nat => (p.getD k 0, t k)) = p := by
      refine List.ext_getElem? fun k => ?_
      by_cases hk : k < n
      · rw [List.getElem?_map, List.getElem?_range hk, pat k hk]; rfl
      · rw [List.getElem?_eq_none (by simp; omega), List.getElem?_eq_none (by omega)]
    rw [this]; exact pn
  · obtain ⟨k, hk, rfl⟩ := List.mem_map.mp hq
    exact pr _ (List.mem_of_getElem? (pat k (List.mem_range.mp hk)))
  · obtain ⟨k, hk, rfl⟩ := List.mem_map.mp hq
    exact ht k
  · have e1 : fAsg (.t (.cons (.n 2) (.cons (.n 3) .nil))) (fTup (fCons (fCall (g__law_order_of fu) (fCons (fV 0) (fCons (fV 1) fNil))) (fCons (fOp (Bo.fn .mod) (fBi (Bi.fn .int) (fCons (fOp ixD (fV 0) (cI 8)) fNil)) (cI 3)) fNil))) [.val (.list (l.map .int)), .val (.int n), .emp, .emp, .emp] = .nx [.val (.list (l.map .int)), .val (.int n), .val (.list (p.map .int)), .val (.int (d8 % 3)), .emp] := by
      refine asg_nx (p := (.old, .tuple [.list (p.map .int), .int (d8 % 3)])) ?_ rfl rfl
      exact tup2_ok (p := (.new, .list (p.map .int))) (q := (.old, .int (d8 % 3))) (call_ok (l := [(.old, .list (l.map .int)), (.old, .int n)]) rfl rfl pe' rfl) (op_ok (o := Bo.fn .mod) (p := (.old, .int d8)) (q := (.old, .int 3)) (bi1_ok (p := (.old, .int d8)) (op_ok (p := (.old, .list (l.map .int))) (q := (.old, .int 8)) rfl rfl i8) rfl) rfl (modE (by decide))) rfl
    refine run_of (o := .rt .old (eM ((List.range n).map fun k : Nat => (p.getD k 0, t k)))) (seq_nx e1 (ret_rt (p := (.old, eM ((List.range n).map fun k : Nat => (p.getD k 0, t k)))) (bi1_ok (p := (.new, .list (((List.range n).map fun k : Nat => (p.getD k 0, t k)).map eP))) ?_ rfl) rfl)) rfl
    rw [List.map_map]
    refine lc_ok (β := Nat) (enc := fun i => .int ((i : Nat) : Int)) (kd := .old) (items := List.range n) (f := eP ∘ fun k : Nat => (p.getD k 0, t k)) (by have := iR1_ok (fa := fV 1) (env := [.val (.list (l.map .int)), .val (.int n), .val (.list (p.map .int)), .val (.int (d8 % 3)), .emp]) (k := .old) (n := n) rfl (by omega); rw [List.map_map] at this; exact this) (by simp; omega) fun k hk => ⟨[.val (.list (l.map .int)), .val (.int n), .val (.list (p.map .int)), .val (.int (d8 % 3)), .val (.int (k : Int))], (.old, eP (p.getD k 0, t k)), rfl, ?_, rfl, rfl⟩
    have hk := List.mem_range.mp hk
    exact tup2_ok (p := (.old, .int (p.getD k 0))) (q := (.old, .int (t k))) (op_ok (p := (.old, .list (p.map .int))) (q := (.old, .int (k : Int))) rfl rfl (ixL (e := .int) (by omega) (by simpa using pat k hk))) (he k hk) rfl
theorem refused_ok {n : Nat} {m : Mv} (v : VM n m) (h1 : 1 ≤ n) (h8 : n ≤ 8) {w : D} (hw : w = .none ∨ w = .bool true ∨ w = .str "1" ∨ w = .tuple [.int 1]) : g__law_refused fu [eM m, w] = .ok (.old, .bool true) := by
  have e1 : fExpr (fCall (g__check_place fu) (fCons (fV 0) (fCons (fV 1) fNil))) [.val (eM m), .val (.int 0), .val w] = .nx [.val (eM m), .val (.int 0), .val w] := expr_nx (call_ok (l := [(.old, eM m), (.old, .int 0)]) rfl rfl (place_ok v h1 h8 (by decide) (by omega)) rfl)
  have e2 : (fIfS (fOrT (fNotT (fTst (fIsi .int (fV 2)))) (fTst (fIsi .bool (fV 2)))) (fRaise 2) fPass) [.val (eM m), .val (.int 0), .val w] = .ex 2 [.val (eM m), .val (.int 0), .val w] := by
    rcases hw with rfl | rfl | rfl | rfl <;> rfl
  have e3 : g_after fu [eM m, .int 0, w] = .ex 2 := by
    refine run_of (o := .ex 2 [.val (eM m), .val (.int 0), .val w]) (seq_nx e1 ?_) rfl
    unfold fSeq sseq
    rw [e2]
  have e4 : fExpr (fCall (g_after fu) (fCons (fV 0) (fCons (cI 0) (fCons (fV 1) fNil)))) [.val (eM m), .val w, .emp] = .ex 2 [.val (eM m), .val w, .emp] := by
    have : fCall (g_after fu) (fCons (fV 0) (fCons (cI 0) (fCons (fV 1) fNil))) [.val (eM m), .val w, .emp] = .ex 2 := by
      show ((g_after fu [eM m, .int 0, w]).bind fun z => chk z.1.nb (.ok z)) = _
      rw [e3]; rfl
    unfold fExpr sbind
    rw [this]
  refine run_of (o := .rt .old (.bool true)) ?_ rfl
  show fSeq _ _ [.val (eM m), .val w, .emp] = _
  unfold fSeq fTry
  rw [e4]
  rfl
theorem eM_range {n : Nat} {f : Mv} (h : f.length = n) : (List.range n).map (fun y : Nat => eP (atM f (y : Int))) = f.map eP := by
  refine List.ext_getElem? fun y => ?_
  by_cases hy : y < n
  · rw [List.getElem?_map, List.getElem?_map, List.getElem?_range hy, atM_get (by omega)]; rfl
  · rw [List.getElem?_eq_none (by simp; omega), List.getElem?_eq_none (by simp; omega)]
end Zk07

namespace Zk07
open PySem Rf
variable {fu : Nat}
def LE (S : D) (l : List Int) (t n : Nat) (m bk : Mv) (w : Nat) (s5 s6 s9 s10 s11 s12 s13 s14 s15 s16 s17 s18 : Sl) : Rf.Env :=
  [.val S, .own (.list (l.map .int)), .val (.int t), .val (.int n), .val (eM m), s5, s6, .val (.int w), .val (eM bk), s9, s10, s11, s12, s13, s14, s15, s16, s17, s18]
def fzS : Sl → Sl
  | .own d => .val d
  | s => s
structure Cx07 (fu n t w : Nat) (m : Mv) (l : List Int) : Prop where
  v : VM n m
  h1 : 1 ≤ n
  h8 : n ≤ 8
  hfu : 3400 ≤ fu
  hw : itM m w = restM n
  w1 : w ≤ 3360
  dr : Dr l
  len : l.length = 60
  t5 : t < 5
section
variable {S : D} {n t w : Nat} {m : Mv} {l : List Int} {s5 s6 s9 s10 s11 s12 s13 s14 s15 s16 s17 s18 : Sl}
theorem big (a b : Int) (c : Nat) (ha : 0 ≤ a ∧ a < 65521) (hw : w ≤ 3360) (hc : c ≤ 1000) : ((c : Int) + (w : Int) * (10 ^ 30 + a)).natAbs < 2 ^ 190 ∧ ((c : Int) - (w : Int) * 10 ^ 25).natAbs < 2 ^ 190 := by
  have e1 : (0 : Int) ≤ (w : Int) * (10 ^ 30 + a) := Int.mul_nonneg (by omega) (by omega)
  have e2 : (w : Int) * (10 ^ 30 + a) ≤ 3360 * (10 ^ 30 + 65521) := Int.mul_le_mul (by omega) (by omega) (by omega) (by omega)
  constructor <;> omega
theorem drAt (C : Cx07 fu n t w m l) {i : Nat} (h : i + t < 60) : ∃ d, 0 ≤ d ∧ d < 65521 ∧ ixD (.list (l.map .int)) (.int ((i : Int) + (t : Int))) = .ok (.old, .int d) := by
  obtain ⟨d, hd⟩ : ∃ d, l[i + t]? = some d := ⟨_, List.getElem?_eq_getElem (by rw [C.len]; exact h)⟩
  have := C.dr d (List.mem_of_getElem? hd)
  exact ⟨d, this.1, this.2, ixL (e := .int) (by omega) (by rw [show ((i : Int) + (t : Int)).toNat = i + t by omega]; exact hd)⟩
theorem aft (C : Cx07 fu n t w m l) {x : Nat} (hx : x < n) {L : Nat} (r : Ring m x L) (hL : L ≤ n) {c : Int} (hc : c.natAbs < 2 ^ 190) : g_after fu [eM m, .int (x : Int), .int c] = .ok (.old, eP ((goM m x L c).1, (goM m x L c).2 % 4)) :=
  after_ok C.v C.h1 C.h8 C.hfu (by omega) (by omega) r hL hc
theorem aft_it (C : Cx07 fu n t w m l) {x : Nat} (hx : x < n) {k : Nat} (hk : k ≤ 1000) : g_after fu [eM m, .int (x : Int), .int (k : Int)] = .ok (.old, eP (atM (itM m k) x)) := by
  obtain ⟨L, hL, r⟩ := ring_ex C.v (x := (x : Int)) (by omega) (by omega)
  rw [atM_it C.v hx r]
  exact aft C hx r hL (by omega)
theorem aft_inv (C : Cx07 fu n t w m l) {x : Nat} (hx : x < n) {k : Nat} (hk : k ≤ 1000) : g_after fu [eM m, .int (x : Int), .int (0 - (k : Int))] = .ok (.old, eP (atM (itM (invM m) k) x)) := by
  obtain ⟨L, hL, r⟩ := ring_ex C.v (x := (x : Int)) (by omega) (by omega)
  rw [atM_itinv C.v hx r, show -(k : Int) = 0 - (k : Int) by omega]
  exact aft C hx r hL (by omega)
theorem cA_ok (C : Cx07 fu n t w m l) {k : Nat} (hk : k ≤ 1000) : (fFz [4, 5, 8] (fPar 12 13 (fCons (fCall (g__law_times fu) (fCons (fV 4) (fCons (fV 5) fNil))) (fCons (fCall (g__law_times fu) (fCons (fV 8) (fCons (fV 5) fNil))) fNil)))) (LE S l t n m (invM m) w (.val (.int k)) s6 s9 s10 s11 s12 s13 s14 s15 s16 s17 s18) =
    .nx (LE S l t n m (invM m) w (.val (.int k)) s6 s9 s10 s11 (.val (eM (itM m k))) (.val (eM (itM (invM m) k))) s14 s15 s16 s17 s18) :=
  par_nx (p := (.old, eM (itM m k))) (q := (.old, eM (itM (invM m) k))) (cons_ok (call_ok (l := [(.old, eM m), (.old, .int k)]) rfl rfl (ltimes_ok C.v (by have := C.h8; omega) hk) rfl) (cons_ok (call_ok (l := [(.old, eM (invM m)), (.old, .int k)]) rfl rfl (ltimes_ok (inv_VM C.v) (by have := C.h8; omega) hk) rfl) rfl)) rfl
theorem rngN (env : Rf.Env) (h : fV 3 env = .ok (.old, .int (n : Int))) (hn : n ≤ 1000) : iRng1 (fV 3) env = .ok (.old, (List.range n).map fun i => .int ((i : Nat) : Int)) := by
  have := iR1_ok (fa := fV 3) (env := env) (k := .old) (n := n) h (by omega)
  rw [List.map_map] at this
  exact this
theorem cB_ok (C : Cx07 fu n t w m l) {k : Nat} (hk : k ≤ 1000) : (fFz [4, 5, 6] (fIfS (fOrT (fTst (fOp (cmpD .ne) (fBi (Bi.fn .tuple) (fCons (fLc [6] (.n 6) (iRng1 (fV 3)) none (fCall (g_after fu) (fCons (fV 4) (fCons (fV 6) (fCons (fV 5) fNil))))) fNil)) (fV 12))) (fTst (fOp (cmpD .ne) (fBi (Bi.fn .tuple) (fCons (fLc [6] (.n 6) (iRng1 (fV 3)) none (fCall (g_after fu) (fCons (fV 4) (fCons (fV 6) (fCons (fOp (Bo.fn .sub) (cI 0) (fV 5)) fNil))))) fNil)) (fV 13)))) (fRet (cB false)) fPass)) (LE S l t n m (invM m) w (.val (.int k)) s6 s9 s10 s11 (.val (eM (itM m k))) (.val (eM (itM (invM m) k))) s14 s15 s16 s17 s18) =
    .nx (LE S l t n m (invM m) w (.val (.int k)) (fzS s6) s9 s10 s11 (.val (eM (itM m k))) (.val (eM (itM (invM m) k))) s14 s15 s16 s17 s18) := by
  have hn := C.h8
  have fz : frzE (LE S l t n m (invM m) w (.val (.int k)) s6 s9 s10 s11 (.val (eM (itM m k))) (.val (eM (itM (invM m) k))) s14 s15 s16 s17 s18) [4, 5, 6] = LE S l t n m (invM m) w (.val (.int k)) (fzS s6) s9 s10 s11 (.val (eM (itM m k))) (.val (eM (itM (invM m) k))) s14 s15 s16 s17 s18 := by cases s6 <;> rfl
  unfold fFz
  rw [fz]
  have e1 : fBi (Bi.fn .tuple) (fCons (fLc [6] (.n 6) (iRng1 (fV 3)) none (fCall (g_after fu) (fCons (fV 4) (fCons (fV 6) (fCons (fV 5) fNil))))) fNil) (LE S l t n m (invM m) w (.val (.int k)) (fzS s6) s9 s10 s11 (.val (eM (itM m k))) (.val (eM (itM (invM m) k))) s14 s15 s16 s17 s18) = .ok (.old, eM (itM m k)) := by
    refine bi1_ok (p := (.new, .list ((itM m k).map eP))) ?_ rfl
    rw [← eM_range ((itM_len m k).trans C.v.len)]
    exact lc_ok (β := Nat) (enc := fun i => .int ((i : Nat) : Int)) (kd := .old) (items := List.range n) (f := fun y : Nat => eP (atM (itM m k) (y : Int))) (rngN _ rfl (by omega)) (by simp; omega) fun x hx => ⟨_, (.old, eP (atM (itM m k) x)), rfl, call_ok (l := [(.old, eM m), (.old, .int (x : Int)), (.old, .int (k : Int))]) rfl rfl (aft_it C (List.mem_range.mp hx) hk) rfl, rfl, rfl⟩
  have e2 : fBi (Bi.fn .tuple) (fCons (fLc [6] (.n 6) (iRng1 (fV 3)) none (fCall (g_after fu) (fCons (fV 4) (fCons (fV 6) (fCons (fOp (Bo.fn .sub) (cI 0) (fV 5)) fNil))))) fNil) (LE S l t n m (invM m) w (.val (.int k)) (fzS s6) s9 s10 s11 (.val (eM (itM m k))) (.val (eM (itM (invM m) k))) s14 s15 s16 s17 s18) = .ok (.old, eM (itM (invM m) k)) := by
    refine bi1_ok (p := (.new, .list ((itM (invM m) k).map eP))) ?_ rfl
    rw [← eM_range ((itM_len (invM m) k).trans ((invM_len m).trans C.v.len))]
    exact lc_ok (β := Nat) (enc := fun i => .int ((i : Nat) : Int)) (kd := .old) (items := List.range n) (f := fun y : Nat => eP (atM (itM (invM m) k) (y : Int))) (rngN _ rfl (by omega)) (by simp; omega) fun x hx => ⟨_, (.old, eP (atM (itM (invM m) k) x)), rfl, call_ok (l := [(.old, eM m), (.old, .int (x : Int)), (.old, .int (0 - (k : Int)))]) rfl rfl (aft_inv C (List.mem_range.mp hx) hk) rfl, rfl, rfl⟩
  have c1 := encM.cne (by decide) (itM m k) (itM m k)
  have c2 := encM.cne (by decide) (itM (invM m) k) (itM (invM m) k)
  rw [decide_eq_true rfl] at c1 c2
  exact if_f (orT_f (tst_ok (k := .old) (op_ok e1 (q := (.old, eM (itM m k))) rfl c1)) (tst_ok (k := .old) (op_ok e2 (q := (.old, eM (itM (invM m) k))) rfl c2))) rfl
theorem cC_ok (C : Cx07 fu n t w m l) {k : Nat} (hk : k ≤ 1000) : (fFz [4, 5] (fIfS (fOrT (fTst (fOp (cmpD .ne) (fCall (g_times fu) (fCons (fV 4) (fCons (fV 5) fNil))) (fV 12))) (fTst (fOp (cmpD .ne) (fCall (g_times fu) (fCons (fV 4) (fCons (fOp (Bo.fn .sub) (cI 0) (fV 5)) fNil))) (fV 13)))) (fRet (cB false)) fPass)) (LE S l t n m (invM m) w (.val (.int k)) s6 s9 s10 s11 (.val (eM (itM m k))) (.val (eM (itM (invM m) k))) s14 s15 s16 s17 s18) =
    .nx (LE S l t n m (invM m) w (.val (.int k)) s6 s9 s10 s11 (.val (eM (itM m k))) (.val (eM (itM (invM m) k))) s14 s15 s16 s17 s18) := by
  have c1 := encM.cne (by decide) (itM m k) (itM m k)
  have c2 := encM.cne (by decide) (itM (invM m) k) (itM (invM m) k)
  rw [decide_eq_true rfl] at c1 c2
  exact if_f (orT_f (tst_ok (k := .old) (op_ok (p := (.old, eM (itM m k))) (q := (.old, eM (itM m k))) (call_ok (l := [(.old, eM m), (.old, .int (k : Int))]) rfl rfl (times_pos C.v C.h1 C.h8 C.hfu hk) rfl) rfl c1)) (tst_ok (k := .old) (op_ok (p := (.old, eM (itM (invM m) k))) (q := (.old, eM (itM (invM m) k))) (call_ok (l := [(.old, eM m), (.old, .int (0 - (k : Int)))]) rfl rfl (times_neg C.v C.h1 C.h8 C.hfu hk) rfl) rfl c2))) rfl
theorem p30 : powD (.int 10) (.int 30) = okv (.int (10 ^ 30)) := rfl
theorem p25 : powD (.int 10) (.int 25) = okv (.int (10 ^ 25)) := rfl
theorem p9 : powD (.int 10) (.int 9) = okv (.int (10 ^ 9)) := rfl
theorem mulW {a b : Int} (h1 : a.natAbs ≤ 3360) (h2 : b.natAbs < 2 ^ 190) : Bo.fn .mul (.int a) (.int b) = .ok (.old, .int (a * b)) := mulE (Nat.lt_of_le_of_lt h1 (by decide)) (Nat.lt_trans h2 (by decide))
theorem cD_ok (C : Cx07 fu n t w m l) {k : Nat} (hk : k ≤ 1000) : ∃ a : Int, 0 ≤ a ∧ a < 65521 ∧ (fSet 9 (fOp (Bo.fn .add) (fV 5) (fOp (Bo.fn .mul) (fV 7) (fOp (Bo.fn .add) (fOp (Bo.fn .pow) (cI 10) (cI 30)) (fBi (Bi.fn .int) (fCons (fOp ixD (fV 1) (fOp (Bo.fn .add) (cI 45) (fV 2))) fNil)))))) (LE S l t n m (invM m) w (.val (.int k)) s6 s9 s10 s11 s12 s13 s14 s15 s16 s17 s18) =
    .nx (LE S l t n m (invM m) w (.val (.int k)) s6 (.val (.int ((k : Int) + (w : Int) * (10 ^ 30 + a)))) s10 s11 s12 s13 s14 s15 s16 s17 s18) := by
  obtain ⟨a, a0, a1, ha⟩ := drAt C (i := 45) (by have := C.t5; omega)
  have w1 := C.w1
  refine ⟨a, a0, a1, set_nx (p := (.old, .int ((k : Int) + (w : Int) * (10 ^ 30 + a)))) (op_ok (p := (.old, .int (k : Int))) (q := (.old, .int ((w : Int) * (10 ^ 30 + a)))) rfl (op_ok (p := (.old, .int (w : Int))) (q := (.old, .int (10 ^ 30 + a))) rfl (op_ok (p := (.old, .int (10 ^ 30))) (q := (.old, .int a)) (op_ok (p := (.old, .int 10)) (q := (.old, .int 30)) rfl rfl p30) (bi1_ok (p := (.old, .int a)) (op_ok (p := (.bor, .list (l.map .int))) (q := (.old, .int ((45 : Int) + (t : Int)))) rfl rfl ha) rfl) rfl) (mulW (by omega) (by omega))) rfl) rfl⟩
theorem cE_ok (C : Cx07 fu n t w m l) {k : Nat} (hk : k ≤ 1000) {a : Int} (a0 : 0 ≤ a) (a1 : a < 65521) : ∃ s6', (fFz [3] (fFor (.n 6) (iRng1 (fV 3)) (fFz [4, 6, 9] (fIfS (fOrT (fTst (fOp (cmpD .ne) (fCall (g_after fu) (fCons (fV 4) (fCons (fV 6) (fCons (fV 9) fNil)))) (fOp ixD (fV 12) (fV 6)))) (fTst (fOp (cmpD .ne) (fCall (g_after fu) (fCons (fV 4) (fCons (fV 6) (fCons (fOp (Bo.fn .sub) (fV 5) (fOp (Bo.fn .mul) (fV 7) (fOp (Bo.fn .pow) (cI 10) (cI 25)))) fNil)))) (fOp ixD (fV 12) (fV 6))))) (fRet (cB false)) fPass))))
    (LE S l t n m (invM m) w (.val (.int k)) s6 (.val (.int ((k : Int) + (w : Int) * (10 ^ 30 + a)))) s10 s11 (.val (eM (itM m k))) s13 s14 s15 s16 s17 s18) = .nx (LE S l t n m (invM m) w (.val (.int k)) s6' (.val (.int ((k : Int) + (w : Int) * (10 ^ 30 + a)))) s10 s11 (.val (eM (itM m k))) s13 s14 s15 s16 s17 s18) := by
  have hn := C.h8
  have bg := big (w := w) a a k ⟨a0, a1⟩ C.w1 hk
  obtain ⟨env', e, s6', rfl⟩ := for_ok (β := Nat) (enc := fun i => .int ((i : Nat) : Int)) (items := List.range n) (kd := .old) (env := LE S l t n m (invM m) w (.val (.int k)) s6 (.val (.int ((k : Int) + (w : Int) * (10 ^ 30 + a)))) s10 s11 (.val (eM (itM m k))) s13 s14 s15 s16 s17 s18) (T := .n 6) (src := iRng1 (fV 3))
    (gb := (fFz [4, 6, 9] (fIfS (fOrT (fTst (fOp (cmpD .ne) (fCall (g_after fu) (fCons (fV 4) (fCons (fV 6) (fCons (fV 9) fNil)))) (fOp ixD (fV 12) (fV 6)))) (fTst (fOp (cmpD .ne) (fCall (g_after fu) (fCons (fV 4) (fCons (fV 6) (fCons (fOp (Bo.fn .sub) (fV 5) (fOp (Bo.fn .mul) (fV 7) (fOp (Bo.fn .pow) (cI 10) (cI 25)))) fNil)))) (fOp ixD (fV 12) (fV 6))))) (fRet (cB false)) fPass)))
    (fun done env => ∃ s6', env = LE S l t n m (invM m) w (.val (.int k)) s6' (.val (.int ((k : Int) + (w : Int) * (10 ^ 30 + a)))) s10 s11 (.val (eM (itM m k))) s13 s14 s15 s16 s17 s18) (rngN _ rfl (by omega)) rfl ⟨_, rfl⟩ (by
      rintro done rest x env hi ⟨s6', rfl⟩
      have hx : x < n := by
        have : x ∈ List.range n := by rw [hi]; simp
        exact List.mem_range.mp this
      obtain ⟨L, hL, r⟩ := ring_ex C.v (x := (x : Int)) (by omega) (by omega)
      have at1 := atM_it C.v hx r k
      have g1 := go_more C.v C.hw hx r (k : Int) (10 ^ 30 + a)
      have g2 := go_more C.v C.hw hx r (k : Int) (-(10 ^ 25))
      have a1 := aft C hx r hL (c := (k : Int) + (w : Int) * (10 ^ 30 + a)) bg.1
      have a2 := aft C hx r hL (c := (k : Int) - (w : Int) * 10 ^ 25) bg.2
      rw [g1.1, g1.2, ← at1] at a1
      rw [show (k : Int) - (w : Int) * 10 ^ 25 = (k : Int) + (w : Int) * -(10 ^ 25) by rw [Int.mul_neg]; omega, g2.1, g2.2, ← at1] at a2
      have cc := encP.cne (by decide) (atM (itM m k) x) (atM (itM m k) x)
      rw [decide_eq_true rfl] at cc
      have ix : ixD (eM (itM m k)) (.int (x : Int)) = .ok (.old, eP (atM (itM m k) x)) := ixM (by omega) (by rw [itM_len, C.v.len]; omega)
      have w1 := C.w1
      refine ⟨LE S l t n m (invM m) w (.val (.int k)) (.val (.int (x : Int))) (.val (.int ((k : Int) + (w : Int) * (10 ^ 30 + a)))) s10 s11 (.val (eM (itM m k))) s13 s14 s15 s16 s17 s18, _, rfl, if_f (orT_f (tst_ok (k := .old) (op_ok (p := (.old, eP (atM (itM m k) x))) (q := (.old, eP (atM (itM m k) x))) (call_ok (l := [(.old, eM m), (.old, .int (x : Int)), (.old, .int ((k : Int) + (w : Int) * (10 ^ 30 + a)))]) rfl rfl a1 rfl) (op_ok (p := (.old, eM (itM m k))) (q := (.old, .int (x : Int))) rfl rfl ix) cc))
        (tst_ok (k := .old) (op_ok (p := (.old, eP (atM (itM m k) x))) (q := (.old, eP (atM (itM m k) x))) (call_ok (l := [(.old, eM m), (.old, .int (x : Int)), (.old, .int ((k : Int) + (w : Int) * -(10 ^ 25)))]) (cons_ok rfl (cons_ok rfl (cons_ok (op_ok (p := (.old, .int (k : Int))) (q := (.old, .int ((w : Int) * 10 ^ 25))) rfl (op_ok (p := (.old, .int (w : Int))) (q := (.old, .int (10 ^ 25))) rfl (op_ok (p := (.old, .int 10)) (q := (.old, .int 25)) rfl rfl p25) (mulW (by omega) (by omega))) ?_) rfl))) rfl a2 rfl) (op_ok (p := (.old, eM (itM m k))) (q := (.old, .int (x : Int))) rfl rfl ix) cc))) rfl, _, rfl⟩
      show okv (.int ((k : Int) - (w : Int) * 10 ^ 25)) = _
      rw [show (k : Int) - (w : Int) * 10 ^ 25 = (k : Int) + (w : Int) * -(10 ^ 25) by rw [Int.mul_neg]; omega]; rfl)
  exact ⟨s6', e⟩
end
end Zk07

namespace Zk07
open PySem Rf
variable {fu : Nat}
section
variable {S : D} {n t w : Nat} {m : Mv} {l : List Int} {s5 s6 s9 s10 s11 s12 s13 s14 s15 s16 s17 s18 : Sl}
theorem cF1_ok (C : Cx07 fu n t w m l) : ∃ a b : Int, 0 ≤ a ∧ a < 65521 ∧ 0 ≤ b ∧ b < 65521 ∧ (fPar 10 11 (fCons (fOp (Bo.fn .sub) (fOp (Bo.fn .mod) (fBi (Bi.fn .int) (fCons (fOp ixD (fV 1) (fOp (Bo.fn .add) (cI 30) (fV 2))) fNil)) (cI 500)) (cI 250)) (fCons (fOp (Bo.fn .mul) (fBi (Bi.fn .int) (fCons (fOp ixD (fV 1) (fOp (Bo.fn .add) (cI 35) (fV 2))) fNil)) (fOp (Bo.fn .pow) (cI 10) (cI 9))) fNil))) (LE S l t n m (invM m) w s5 s6 s9 s10 s11 s12 s13 s14 s15 s16 s17 s18) =
    .nx (LE S l t n m (invM m) w s5 s6 s9 (.val (.int (a % 500 - 250))) (.val (.int (b * 10 ^ 9))) s12 s13 s14 s15 s16 s17 s18) := by
  obtain ⟨a, a0, a1, ha⟩ := drAt C (i := 30) (by have := C.t5; omega)
  obtain ⟨b, b0, b1, hb⟩ := drAt C (i := 35) (by have := C.t5; omega)
  refine ⟨a, b, a0, a1, b0, b1, par_nx (p := (.old, .int (a % 500 - 250))) (q := (.old, .int (b * 10 ^ 9))) (cons_ok (op_ok (p := (.old, .int (a % 500))) (q := (.old, .int 250)) (op_ok (p := (.old, .int a)) (q := (.old, .int 500)) (bi1_ok (p := (.old, .int a)) (op_ok (p := (.bor, .list (l.map .int))) (q := (.old, .int ((30 : Int) + (t : Int)))) rfl rfl ha) rfl) rfl (modE (by decide))) rfl rfl)
    (cons_ok (op_ok (p := (.old, .int b)) (q := (.old, .int (10 ^ 9))) (bi1_ok (p := (.old, .int b)) (op_ok (p := (.bor, .list (l.map .int))) (q := (.old, .int ((35 : Int) + (t : Int)))) rfl rfl hb) rfl) (op_ok (p := (.old, .int 10)) (q := (.old, .int 9)) rfl rfl p9) (mulE (by omega) (by omega))) rfl)) rfl⟩
def codeF (fu : Nat) : Rf.Env → SO := (fSeq (fFz [4, 6, 10] (fAsg (.t (.cons (.n 14) (.cons (.n 15) .nil))) (fCall (g_after fu) (fCons (fV 4) (fCons (fV 6) (fCons (fV 10) fNil)))))) (fSeq (fFz [4, 11, 14] (fAsg (.t (.cons (.n 16) (.cons (.n 17) .nil))) (fCall (g_after fu) (fCons (fV 4) (fCons (fV 14) (fCons (fV 11) fNil)))))) (fFz [4, 6, 16] (fIfS (fTst (fOp (cmpD .ne) (fCall (g_after fu) (fCons (fV 4) (fCons (fV 6) (fCons (fOp (Bo.fn .add) (fV 10) (fV 11)) fNil)))) (fTup (fCons (fV 16) (fCons (fOp (Bo.fn .mod) (fBi (Bi.fn .int) (fCons (fOp (Bo.fn .add) (fV 15) (fV 17)) fNil)) (cI 4)) fNil))))) (fRet (cB false)) fPass))))
theorem cF_ok (C : Cx07 fu n t w m l) {a b : Int} (ha : a.natAbs < 2 ^ 100) (hb : b.natAbs < 2 ^ 100) : ∃ s6' s14' s15' s16' s17', (fFz [3] (fFor (.n 6) (iRng1 (fV 3)) (codeF fu)))
    (LE S l t n m (invM m) w s5 s6 s9 (.val (.int a)) (.val (.int b)) s12 s13 s14 s15 s16 s17 s18) = .nx (LE S l t n m (invM m) w s5 s6' s9 (.val (.int a)) (.val (.int b)) s12 s13 s14' s15' s16' s17' s18) := by
  have hn := C.h8
  obtain ⟨env', e, s6', s14', s15', s16', s17', rfl⟩ := for_ok (β := Nat) (enc := fun i => .int ((i : Nat) : Int)) (items := List.range n) (kd := .old) (env := LE S l t n m (invM m) w s5 s6 s9 (.val (.int a)) (.val (.int b)) s12 s13 s14 s15 s16 s17 s18) (T := .n 6) (src := iRng1 (fV 3)) (gb := codeF fu)
    (fun done env => ∃ s6' s14' s15' s16' s17', env = LE S l t n m (invM m) w s5 s6' s9 (.val (.int a)) (.val (.int b)) s12 s13 s14' s15' s16' s17' s18) (rngN _ rfl (by omega)) rfl ⟨_, _, _, _, _, rfl⟩ (by
      rintro done rest x env hi ⟨s6', s14', s15', s16', s17', rfl⟩
      have hx : x < n := by
        have : x ∈ List.range n := by rw [hi]; simp
        exact List.mem_range.mp this
      obtain ⟨L, hL, r⟩ := ring_ex C.v (x := (x : Int)) (by omega) (by omega)
      have y := goM_rg C.v (x := (x : Int)) (by omega) (by omega) L a
      obtain ⟨Ly, hLy, ry⟩ := ring_ex C.v y.1 y.2
      have ga := go_add C.v (by omega) (by omega) r a ry b
      have a1 := aft C hx r hL (c := a) (by omega)
      have a2 : g_after fu [eM m, .int (goM m x L a).1, .int b] = .ok (.old, eP ((goM m (goM m x L a).1 Ly b).1, (goM m (goM m x L a).1 Ly b).2 % 4)) := after_ok C.v C.h1 C.h8 C.hfu y.1 y.2 ry hLy (by omega)
      have a3 := aft C hx r hL (c := a + b) (by omega)
      rw [ga] at a3
      have cc := encP.cne (by decide) ((goM m (goM m x L a).1 Ly b).1, ((goM m x L a).2 % 4 + (goM m (goM m x L a).1 Ly b).2 % 4) % 4) ((goM m (goM m x L a).1 Ly b).1, ((goM m x L a).2 % 4 + (goM m (goM m x L a).1 Ly b).2 % 4) % 4)
      rw [decide_eq_true rfl] at cc
      have e4 : ((goM m x L a).2 + (goM m (goM m x L a).1 Ly b).2) % 4 = ((goM m x L a).2 % 4 + (goM m (goM m x L a).1 Ly b).2 % 4) % 4 := by omega
      refine ⟨LE S l t n m (invM m) w s5 (.val (.int (x : Int))) s9 (.val (.int a)) (.val (.int b)) s12 s13 s14' s15' s16' s17' s18, _, rfl,
        seq_nx (env' := LE S l t n m (invM m) w s5 (.val (.int (x : Int))) s9 (.val (.int a)) (.val (.int b)) s12 s13 (.val (.int (goM m x L a).1)) (.val (.int ((goM m x L a).2 % 4))) s16' s17' s18) (asg_nx (p := (.old, eP ((goM m x L a).1, (goM m x L a).2 % 4))) (call_ok (l := [(.old, eM m), (.old, .int (x : Int)), (.old, .int a)]) rfl rfl a1 rfl) rfl rfl)
        (seq_nx (env' := LE S l t n m (invM m) w s5 (.val (.int (x : Int))) s9 (.val (.int a)) (.val (.int b)) s12 s13 (.val (.int (goM m x L a).1)) (.val (.int ((goM m x L a).2 % 4))) (.val (.int (goM m (goM m x L a).1 Ly b).1)) (.val (.int ((goM m (goM m x L a).1 Ly b).2 % 4))) s18) (asg_nx (p := (.old, eP ((goM m (goM m x L a).1 Ly b).1, (goM m (goM m x L a).1 Ly b).2 % 4))) (call_ok (l := [(.old, eM m), (.old, .int (goM m x L a).1), (.old, .int b)]) rfl rfl a2 rfl) rfl rfl)
        (if_f (tst_ok (k := .old) (op_ok (p := (.old, eP ((goM m (goM m x L a).1 Ly b).1, ((goM m x L a).2 + (goM m (goM m x L a).1 Ly b).2) % 4))) (q := (.old, eP ((goM m (goM m x L a).1 Ly b).1, ((goM m x L a).2 % 4 + (goM m (goM m x L a).1 Ly b).2 % 4) % 4)))
          (call_ok (l := [(.old, eM m), (.old, .int (x : Int)), (.old, .int (a + b))]) rfl rfl a3 rfl) (tup2_ok (p := (.old, .int (goM m (goM m x L a).1 Ly b).1)) (q := (.old, .int (((goM m x L a).2 % 4 + (goM m (goM m x L a).1 Ly b).2 % 4) % 4))) rfl (op_ok (p := (.old, .int ((goM m x L a).2 % 4 + (goM m (goM m x L a).1 Ly b).2 % 4))) (q := (.old, .int 4)) rfl rfl (modE (by decide))) rfl) (by rw [e4]; exact cc))) rfl)), _, _, _, _, _, rfl⟩)
  exact ⟨s6', s14', s15', s16', s17', e⟩
theorem cG_ok (C : Cx07 fu n t w m l) : (fFz [4] (fIfS (fNotT (fTst (fBi (Bi.fn .all) (fCons (fLc [18] (.n 18) (iSeq (fLst (fCons cN (fCons (cB true) (fCons (cS "1") (fCons (fTup (fCons (cI 1) fNil)) fNil)))))) none (fCall (g__law_refused fu) (fCons (fV 4) (fCons (fV 18) fNil)))) fNil)))) (fRet (cB false)) fPass)) (LE S l t n m (invM m) w s5 s6 s9 s10 s11 s12 s13 s14 s15 s16 s17 s18) =
    .nx (LE S l t n m (invM m) w s5 s6 s9 s10 s11 s12 s13 s14 s15 s16 s17 s18) := by
  refine if_f (notT_ok (b := true) (tst_ok (k := .old) (bi1_ok (p := (.new, .list ([PyData.none, .bool true, .str "1", .tuple [.int 1]].map fun _ => .bool true))) ?_ rfl))) rfl
  refine lc_ok (β := D) (enc := id) (kd := .new) (items := [.none, .bool true, .str "1", .tuple [.int 1]]) (f := fun _ => .bool true) rfl (by decide) fun d hd => ⟨LE S l t n m (invM m) w s5 s6 s9 s10 s11 s12 s13 s14 s15 s16 s17 (.val d), (.old, .bool true), rfl, call_ok (l := [(.old, eM m), (.old, d)]) rfl rfl (refused_ok C.v C.h1 C.h8 ?_) rfl, rfl, rfl⟩
  simpa using hd
end
end Zk07

namespace Zk07
open PySem Rf
variable {fu : Nat}
theorem slL_ok {fa fl : Rf.Env → RV} {env : Rf.Env} {k k2 : Kd} {ds : List D} {i : Int} (h1 : fa env = .ok (k, .list ds)) (h2 : fl env = .ok (k2, .int i)) : fSlL fa fl env = .ok (.new, .list (cutD ds (some i) none)) := by unfold fSlL R.bind; rw [h1]; dsimp only; rw [h2]; rfl
theorem addL {xs ys : List D} (h1 : xs.length ≤ 1000) (h2 : ys.length ≤ 1000) : Bo.fn .add (.list xs) (.list ys) = .ok (.new, .list (xs ++ ys)) := by
  show addD (.list xs) (.list ys) = _
  rw [addD, ble_big (by omega)]; rfl
theorem lst_ok {fs : Rf.Env → Rf.R (List (Kd × D))} {env : Rf.Env} {l : List (Kd × D)} (h : fs env = .ok l) (hn : nbs l = true) (hl : l.length ≤ 1000) : fLst fs env = .ok (.new, .list (l.map (·.2))) := by
  unfold fLst R.bind
  rw [h]
  dsimp only
  rw [hn, ble_big (by omega)]; rfl
theorem tup1_ok {fa : Rf.Env → RV} {env : Rf.Env} {p : Kd × D} (h1 : fa env = .ok p) (nb : p.1.nb = true) : fTup (fCons fa fNil) env = .ok (.old, .tuple [p.2]) := by
  unfold fTup R.bind
  rw [cons_ok h1 (show fNil env = .ok [] from rfl)]
  show chk ((p.1.nb && true) && Nat.ble 1 16777216) _ = _
  rw [Bool.and_true, nb]; rfl
theorem and_t {fa fb : Rf.Env → RV} {env : Rf.Env} {k : Kd} {r : RV} (h : fa env = .ok (k, .bool true)) (h2 : fb env = r) : fAnd fa fb env = r := by unfold fAnd R.bind; rw [h]; exact h2
def codeC (fu : Nat) : Rf.Env → SO := (fSeq (fFz [4, 5, 8] (fPar 12 13 (fCons (fCall (g__law_times fu) (fCons (fV 4) (fCons (fV 5) fNil))) (fCons (fCall (g__law_times fu) (fCons (fV 8) (fCons (fV 5) fNil))) fNil)))) (fSeq (fFz [4, 5, 6] (fIfS (fOrT (fTst (fOp (cmpD .ne) (fBi (Bi.fn .tuple) (fCons (fLc [6] (.n 6) (iRng1 (fV 3)) none (fCall (g_after fu) (fCons (fV 4) (fCons (fV 6) (fCons (fV 5) fNil))))) fNil)) (fV 12))) (fTst (fOp (cmpD .ne) (fBi (Bi.fn .tuple) (fCons (fLc [6] (.n 6) (iRng1 (fV 3)) none (fCall (g_after fu) (fCons (fV 4) (fCons (fV 6) (fCons (fOp (Bo.fn .sub) (cI 0) (fV 5)) fNil))))) fNil)) (fV 13)))) (fRet (cB false)) fPass)) (fSeq (fFz [4, 5] (fIfS (fOrT (fTst (fOp (cmpD .ne) (fCall (g_times fu) (fCons (fV 4) (fCons (fV 5) fNil))) (fV 12))) (fTst (fOp (cmpD .ne) (fCall (g_times fu) (fCons (fV 4) (fCons (fOp (Bo.fn .sub) (cI 0) (fV 5)) fNil))) (fV 13)))) (fRet (cB false)) fPass)) (fSeq (fSet 9 (fOp (Bo.fn .add) (fV 5) (fOp (Bo.fn .mul) (fV 7) (fOp (Bo.fn .add) (fOp (Bo.fn .pow) (cI 10) (cI 30)) (fBi (Bi.fn .int) (fCons (fOp ixD (fV 1) (fOp (Bo.fn .add) (cI 45) (fV 2))) fNil)))))) (fFz [3] (fFor (.n 6) (iRng1 (fV 3)) (fFz [4, 6, 9] (fIfS (fOrT (fTst (fOp (cmpD .ne) (fCall (g_after fu) (fCons (fV 4) (fCons (fV 6) (fCons (fV 9) fNil)))) (fOp ixD (fV 12) (fV 6)))) (fTst (fOp (cmpD .ne) (fCall (g_after fu) (fCons (fV 4) (fCons (fV 6) (fCons (fOp (Bo.fn .sub) (fV 5) (fOp (Bo.fn .mul) (fV 7) (fOp (Bo.fn .pow) (cI 10) (cI 25)))) fNil)))) (fOp ixD (fV 12) (fV 6))))) (fRet (cB false)) fPass))))))))
section
variable {S : D} {n t w : Nat} {m : Mv} {l : List Int} {s5 s6 s9 s10 s11 s12 s13 s14 s15 s16 s17 s18 : Sl}
theorem codeC_ok (C : Cx07 fu n t w m l) {k : Nat} (hk : k ≤ 1000) : ∃ s6' s9' s12' s13', codeC fu (LE S l t n m (invM m) w (.val (.int k)) s6 s9 s10 s11 s12 s13 s14 s15 s16 s17 s18) = .nx (LE S l t n m (invM m) w (.val (.int k)) s6' s9' s10 s11 s12' s13' s14 s15 s16 s17 s18) := by
  obtain ⟨a, a0, a1, eD⟩ := cD_ok (S := S) (s6 := fzS s6) (s9 := s9) (s10 := s10) (s11 := s11) (s12 := .val (eM (itM m k))) (s13 := .val (eM (itM (invM m) k))) (s14 := s14) (s15 := s15) (s16 := s16) (s17 := s17) (s18 := s18) C hk
  obtain ⟨s6', eE⟩ := cE_ok (S := S) (s6 := fzS s6) (s10 := s10) (s11 := s11) (s13 := .val (eM (itM (invM m) k))) (s14 := s14) (s15 := s15) (s16 := s16) (s17 := s17) (s18 := s18) C hk a0 a1
  exact ⟨_, _, _, _, seq_nx (cA_ok C hk) (seq_nx (cB_ok C hk) (seq_nx (cC_ok C hk) (seq_nx eD eE)))⟩
end
def codeT (fu : Nat) : Rf.Env → SO := (fSeq (fSet 3 (fOp (Bo.fn .add) (cI 1) (fOp (Bo.fn .mod) (fBi (Bi.fn .int) (fCons (fOp ixD (fV 1) (fOp (Bo.fn .add) (cI 50) (fV 2))) fNil)) (cI 8)))) (fSeq (fFz [3] (fSet 4 (fCall (g__law_move fu) (fCons (fOp (Bo.fn .add) (fSlL (fV 1) (fOp (Bo.fn .mul) (cI 9) (fV 2))) (fV 1)) (fCons (fV 3) fNil))))) (fSeq (fFz [4] (fPar 7 8 (fCons (fCall (g_order_of fu) (fCons (fV 4) fNil)) (fCons (fCall (g__law_back fu) (fCons (fV 4) fNil)) fNil)))) (fSeq (fFor (.n 5) (iSeq (fLst (fCons (cI 0) (fCons (cI 1) (fCons (cI 2) (fCons (cI 3) (fCons (cI 7) (fCons (fOp (Bo.fn .mod) (fBi (Bi.fn .int) (fCons (fOp ixD (fV 1) (fOp (Bo.fn .add) (cI 40) (fV 2))) fNil)) (cI 100)) fNil)))))))) (codeC fu)) (fSeq (fPar 10 11 (fCons (fOp (Bo.fn .sub) (fOp (Bo.fn .mod) (fBi (Bi.fn .int) (fCons (fOp ixD (fV 1) (fOp (Bo.fn .add) (cI 30) (fV 2))) fNil)) (cI 500)) (cI 250)) (fCons (fOp (Bo.fn .mul) (fBi (Bi.fn .int) (fCons (fOp ixD (fV 1) (fOp (Bo.fn .add) (cI 35) (fV 2))) fNil)) (fOp (Bo.fn .pow) (cI 10) (cI 9))) fNil))) (fSeq (fFz [3] (fFor (.n 6) (iRng1 (fV 3)) (codeF fu))) (fFz [4] (fIfS (fNotT (fTst (fBi (Bi.fn .all) (fCons (fLc [18] (.n 18) (iSeq (fLst (fCons cN (fCons (cB true) (fCons (cS "1") (fCons (fTup (fCons (cI 1) fNil)) fNil)))))) none (fCall (g__law_refused fu) (fCons (fV 4) (fCons (fV 18) fNil)))) fNil)))) (fRet (cB false)) fPass))))))))
theorem codeT_ok {S : D} {l : List Int} (hfu : 3400 ≤ fu) (dr : Dr l) (len : l.length = 60) {t : Nat} (t5 : t < 5) {s3 s4 s5 s6 s7 s8 s9 s10 s11 s12 s13 s14 s15 s16 s17 s18 : Sl} : ∃ s3' s4' s5' s6' s7' s8' s9' s10' s11' s12' s13' s14' s15' s16' s17' s18',
    codeT fu [.val S, .own (.list (l.map .int)), .val (.int t), s3, s4, s5, s6, s7, s8, s9, s10, s11, s12, s13, s14, s15, s16, s17, s18] = .nx [.val S, .own (.list (l.map .int)), .val (.int t), s3', s4', s5', s6', s7', s8', s9', s10', s11', s12', s13', s14', s15', s16', s17', s18'] := by
  have at_ : ∀ i : Nat, i + t < 60 → ∃ d, 0 ≤ d ∧ d < 65521 ∧ ixD (.list (l.map .int)) (.int ((i : Int) + (t : Int))) = .ok (.old, .int d) := fun i h => by
    obtain ⟨d, hd⟩ : ∃ d, l[i + t]? = some d := ⟨_, List.getElem?_eq_getElem (by rw [len]; exact h)⟩
    have := dr d (List.mem_of_getElem? hd)
    exact ⟨d, this.1, this.2, ixL (e := .int) (by omega) (by rw [show ((i : Int) + (t : Int)).toNat = i + t by omega]; exact hd)⟩
  obtain ⟨d, d0, d1, hd⟩ := at_ 50 (by omega)
  obtain ⟨n, hn⟩ : ∃ n : Nat, 1 + d % 8 = (n : Int) := ⟨(1 + d % 8).toNat, by omega⟩
  have h1 : 1 ≤ n := by omega
  have h8 : n ≤ 8 := by omega
  have e3 : fSet 3 (fOp (Bo.fn .add) (cI 1) (fOp (Bo.fn .mod) (fBi (Bi.fn .int) (fCons (fOp ixD (fV 1) (fOp (Bo.fn .add) (cI 50) (fV 2))) fNil)) (cI 8))) [.val S, .own (.list (l.map .int)), .val (.int t), s3, s4, s5, s6, s7, s8, s9, s10, s11, s12, s13, s14, s15, s16, s17, s18] = .nx [.val S, .own (.list (l.map .int)), .val (.int t), .val (.int (n : Int)), s4, s5, s6, s7, s8, s9, s10, s11, s12, s13, s14, s15, s16, s17, s18] := by
    refine set_nx (p := (.old, .int (n : Int))) (op_ok (p := (.old, .int 1)) (q := (.old, .int (d % 8))) rfl (op_ok (p := (.old, .int d)) (q := (.old, .int 8)) (bi1_ok (p := (.old, .int d)) (op_ok (p := (.bor, .list (l.map .int))) (q := (.old, .int ((50 : Int) + (t : Int)))) rfl rfl hd) rfl) rfl (modE (by decide))) ?_) rfl
    show okv (.int (1 + d % 8)) = _
    rw [hn]; rfl
  obtain ⟨m, v, hm⟩ := move_ok (fu := fu) (l.drop (9 * t) ++ l) (fun x hx => by
    rcases List.mem_append.mp hx with hx | hx
    · exact (dr x (List.mem_of_mem_drop hx)).1
    · exact (dr x hx).1) n (by rw [List.length_append, len]; omega) h8
  have e4 : (fFz [3] (fSet 4 (fCall (g__law_move fu) (fCons (fOp (Bo.fn .add) (fSlL (fV 1) (fOp (Bo.fn .mul) (cI 9) (fV 2))) (fV 1)) (fCons (fV 3) fNil))))) [.val S, .own (.list (l.map .int)), .val (.int t), .val (.int (n : Int)), s4, s5, s6, s7, s8, s9, s10, s11, s12, s13, s14, s15, s16, s17, s18] = .nx [.val S, .own (.list (l.map .int)), .val (.int t), .val (.int (n : Int)), .val (eM m), s5, s6, s7, s8, s9, s10, s11, s12, s13, s14, s15, s16, s17, s18] := by
    refine set_nx (p := (.old, eM m)) (call_ok (l := [(.new, .list ((l.drop (9 * t) ++ l).map .int)), (.old, .int (n : Int))]) (cons_ok (op_ok (p := (.new, .list ((l.drop (9 * t)).map .int))) (q := (.bor, .list (l.map .int))) ?_ rfl ?_) rfl) rfl hm rfl) rfl
    · refine (slL_ok (k := .bor) (k2 := .old) (ds := l.map .int) (i := ((9 * t : Nat) : Int)) rfl (op_ok (p := (.old, .int 9)) (q := (.old, .int (t : Int))) rfl rfl ?_)).trans ?_
      · refine (mulE (by decide) (by omega)).trans ?_
        rw [show ((9 * t : Nat) : Int) = 9 * (t : Int) by omega]
      · rw [sl_drop, List.map_drop]
    · rw [List.map_append]
      exact addL (by rw [List.length_map, List.length_drop]; omega) (by rw [List.length_map]; omega)
  obtain ⟨w, w0, w1, hw, hor⟩ := order_of_ok (fu := fu) v h1 h8 hfu
  have C : Cx07 fu n t w m l := ⟨v, h1, h8, hfu, hw, w1, dr, len, t5⟩
  have e5 : (fFz [4] (fPar 7 8 (fCons (fCall (g_order_of fu) (fCons (fV 4) fNil)) (fCons (fCall (g__law_back fu) (fCons (fV 4) fNil)) fNil)))) [.val S, .own (.list (l.map .int)), .val (.int t), .val (.int (n : Int)), .val (eM m), s5, s6, s7, s8, s9, s10, s11, s12, s13, s14, s15, s16, s17, s18] = .nx (LE S l t n m (invM m) w s5 s6 s9 s10 s11 s12 s13 s14 s15 s16 s17 s18) :=
    par_nx (p := (.old, .int (w : Int))) (q := (.old, eM (invM m))) (cons_ok (call_ok (l := [(.old, eM m)]) rfl rfl hor rfl) (cons_ok (call_ok (l := [(.old, eM m)]) rfl rfl (back_ok v h8) rfl) rfl)) rfl
  obtain ⟨c, c0, c1, hc⟩ := at_ 40 (by omega)
  obtain ⟨cn, hcn⟩ : ∃ n : Nat, c % 100 = (n : Int) := ⟨(c % 100).toNat, by omega⟩
  obtain ⟨env1, e6, u5, u6, u9, u12, u13, rfl⟩ := for_ok (β := Nat) (enc := fun i => .int ((i : Nat) : Int)) (items := [0, 1, 2, 3, 7, cn]) (kd := .new) (env := LE S l t n m (invM m) w s5 s6 s9 s10 s11 s12 s13 s14 s15 s16 s17 s18) (T := .n 5) (src := (iSeq (fLst (fCons (cI 0) (fCons (cI 1) (fCons (cI 2) (fCons (cI 3) (fCons (cI 7) (fCons (fOp (Bo.fn .mod) (fBi (Bi.fn .int) (fCons (fOp ixD (fV 1) (fOp (Bo.fn .add) (cI 40) (fV 2))) fNil)) (cI 100)) fNil))))))))) (gb := codeC fu)
    (fun done env => ∃ u5 u6 u9 u12 u13, env = LE S l t n m (invM m) w u5 u6 u9 s10 s11 u12 u13 s14 s15 s16 s17 s18)
    (iSeq_new (k := .new) (lst_ok (l := [(.old, .int 0), (.old, .int 1), (.old, .int 2), (.old, .int 3), (.old, .int 7), (.old, .int (cn : Int))]) (cons_ok rfl (cons_ok rfl (cons_ok rfl (cons_ok rfl (cons_ok rfl (cons_ok (op_ok (p := (.old, .int c)) (q := (.old, .int 100)) (bi1_ok (p := (.old, .int c)) (op_ok (p := (.bor, .list (l.map .int))) (q := (.old, .int ((40 : Int) + (t : Int)))) rfl rfl hc) rfl) rfl (by rw [← hcn]; exact modE (by decide))) rfl)))))) rfl (by simp))) rfl ⟨_, _, _, _, _, rfl⟩ (by
      rintro done rest x env hi ⟨u5, u6, u9, u12, u13, rfl⟩
      have hx : x ≤ 1000 := by
        have : x ∈ [0, 1, 2, 3, 7, cn] := by rw [hi]; simp
        simp at this
        omega
      obtain ⟨q6, q9, q12, q13, e⟩ := codeC_ok (S := S) (s6 := u6) (s9 := u9) (s10 := s10) (s11 := s11) (s12 := u12) (s13 := u13) (s14 := s14) (s15 := s15) (s16 := s16) (s17 := s17) (s18 := s18) C hx
      exact ⟨_, _, rfl, e, _, _, _, _, _, rfl⟩)
  obtain ⟨a, b, a0, a1, b0, b1, e7⟩ := cF1_ok (S := S) (s5 := u5) (s6 := u6) (s9 := u9) (s10 := s10) (s11 := s11) (s12 := u12) (s13 := u13) (s14 := s14) (s15 := s15) (s16 := s16) (s17 := s17) (s18 := s18) C
  obtain ⟨r6, r14, r15, r16, r17, e8⟩ := cF_ok (S := S) (s5 := u5) (s6 := u6) (s9 := u9) (s12 := u12) (s13 := u13) (s14 := s14) (s15 := s15) (s16 := s16) (s17 := s17) (s18 := s18) C (a := a % 500 - 250) (b := b * 10 ^ 9) (by omega) (by omega)
  exact ⟨_, _, _, _, _, _, _, _, _, _, _, _, _, _, _, _, seq_nx e3 (seq_nx e4 (seq_nx e5 (seq_nx e6 (seq_nx e7 (seq_nx e8 (cG_ok C))))))⟩
def FU : Nat := 4000
theorem plain (ns : List Int) (h : ns.length ≤ 63) : g_law FU [.list (ns.map PyData.int)] = .ok (.old, .bool true) := by
  obtain ⟨l, ll, dr, hd⟩ := draws_ok ns h 60 (by decide)
  have hd' : g__law_draws FU [.list (ns.map .int), .int 60] = .ok (.new, .list (l.map .int)) := hd
  obtain ⟨env1, e1, s2, s3, s4, s5, s6, s7, s8, s9, s10, s11, s12, s13, s14, s15, s16, s17, s18, rfl⟩ := for_ok (β := Nat) (enc := fun i => .int ((i : Nat) : Int)) (items := List.range 5) (kd := .old)
    (env := [.val (.list (ns.map .int)), .own (.list (l.map .int)), .emp, .emp, .emp, .emp, .emp, .emp, .emp, .emp, .emp, .emp, .emp, .emp, .emp, .emp, .emp, .emp, .emp]) (T := .n 2) (src := iRng1 (cI 5)) (gb := codeT FU)
    (fun done env => ∃ s2 s3 s4 s5 s6 s7 s8 s9 s10 s11 s12 s13 s14 s15 s16 s17 s18, env = [.val (.list (ns.map .int)), .own (.list (l.map .int)), s2, s3, s4, s5, s6, s7, s8, s9, s10, s11, s12, s13, s14, s15, s16, s17, s18])
    (by have := iR1_ok (fa := cI 5) (env := [.val (.list (ns.map .int)), .own (.list (l.map .int)), .emp, .emp, .emp, .emp, .emp, .emp, .emp, .emp, .emp, .emp, .emp, .emp, .emp, .emp, .emp, .emp, .emp]) (k := .old) (n := 5) rfl (by decide); rw [List.map_map] at this; exact this) rfl ⟨_, _, _, _, _, _, _, _, _, _, _, _, _, _, _, _, _, rfl⟩ (by
      rintro done rest x env hi ⟨s2, s3, s4, s5, s6, s7, s8, s9, s10, s11, s12, s13, s14, s15, s16, s17, s18, rfl⟩
      have hx : x < 5 := by
        have : x ∈ List.range 5 := by rw [hi]; simp
        exact List.mem_range.mp this
      obtain ⟨q3, q4, q5, q6, q7, q8, q9, q10, q11, q12, q13, q14, q15, q16, q17, q18, e⟩ := codeT_ok (fu := FU) (S := .list (ns.map .int)) (by decide) dr ll hx (s3 := s3) (s4 := s4) (s5 := s5) (s6 := s6) (s7 := s7) (s8 := s8) (s9 := s9) (s10 := s10) (s11 := s11) (s12 := s12) (s13 := s13) (s14 := s14) (s15 := s15) (s16 := s16) (s17 := s17) (s18 := s18)
      exact ⟨_, _, rfl, e, _, _, _, _, _, _, _, _, _, _, _, _, _, _, _, _, _, rfl⟩)
  have v2 : VM 2 [(1, 1), (0, 1)] := ⟨rfl, by decide, by decide, by decide⟩
  have v1 : VM 1 [(0, 1)] := ⟨rfl, by decide, by decide, by decide⟩
  have r2 : Ring [(1, 1), (0, 1)] 0 2 := ⟨by decide, by decide, fun k k1 k2 => by
    have : k = 1 := by omega
    subst this; decide⟩
  have r1 : Ring [(0, 1)] 0 1 := ⟨by decide, by decide, fun k k1 k2 => by omega⟩
  have a2 := after_ok (fu := FU) v2 (by decide) (by decide) (by decide) (x := 0) (by decide) (by decide) r2 (by decide) (c := 3) (by decide)
  have a1 := after_ok (fu := FU) v1 (by decide) (by decide) (by decide) (x := 0) (by decide) (by decide) r1 (by decide) (c := -1) (by decide)
  have c2 := encP.ceq (by decide) (1, 3) (1, 3)
  have c1 := encP.ceq (by decide) (0, 3) (0, 3)
  rw [decide_eq_true rfl] at c2 c1
  refine run_of (o := .rt .old (.bool true)) (seq_nx (env' := [.val (.list (ns.map .int)), .own (.list (l.map .int)), .emp, .emp, .emp, .emp, .emp, .emp, .emp, .emp, .emp, .emp, .emp, .emp, .emp, .emp, .emp, .emp, .emp]) (set_nx (p := (.new, .list (l.map .int))) (call_ok (l := [(.old, .list (ns.map .int)), (.old, .int 60)]) rfl rfl hd' rfl) rfl) (seq_nx e1 (ret_rt (p := (.old, .bool true)) (and_t (k := .old) (op_ok (p := (.old, eP (1, 3))) (q := (.old, eP (1, 3))) (call_ok (l := [(.old, eM [(1, 1), (0, 1)]), (.old, .int 0), (.old, .int 3)]) (cons_ok (tup2_ok (p := (.old, eP (1, 1))) (q := (.old, eP (0, 1))) (tup2_ok (p := (.old, .int 1)) (q := (.old, .int 1)) rfl rfl rfl) (tup2_ok (p := (.old, .int 0)) (q := (.old, .int 1)) rfl rfl rfl) rfl) rfl) rfl a2 rfl) (tup2_ok (p := (.old, .int 1)) (q := (.old, .int 3)) rfl rfl rfl) c2)
    (op_ok (p := (.old, eP (0, 3))) (q := (.old, eP (0, 3))) (call_ok (l := [(.old, eM [(0, 1)]), (.old, .int 0), (.old, .int (-1))]) (cons_ok (tup1_ok (p := (.old, eP (0, 1))) (tup2_ok (p := (.old, .int 0)) (q := (.old, .int 1)) rfl rfl rfl) rfl) rfl) rfl a1 rfl) (tup2_ok (p := (.old, .int 0)) (q := (.old, .int 3)) rfl rfl rfl) c1)) rfl))) rfl
end Zk07

open PySem PySem.W PySem.Calls PyProof.Rows in
theorem PySem.Challenge.cw_reelwright_k07_whole_numbers_of_times_holds : PySem.Challenge.rw_reelwright_k07_whole_numbers_of_times.Holds := by
  w_on; o_law
  refine HandSHeadRun.head_any (r := OpenLaw.row PySem.Challenge.rw_reelwright_k07_whole_numbers_of_times) (q := view (OpenLaw.row PySem.Challenge.rw_reelwright_k07_whole_numbers_of_times).prog [35]) (H := Zk07.hk) (ob := Zk07.ob) (M := 4000) (loose := Zk07.loose) (d := HandSHeadRun.topDef (OpenLaw.row PySem.Challenge.rw_reelwright_k07_whole_numbers_of_times).prog 35) (kwd := []) Zk07.ob_eq
    (by kernel_rfl) (fun s => by kernel_rfl) Zk07.run (by kernel_rfl) (by kernel_rfl) (by kernel_rfl) (by rfl) (by first | assumption | decide +kernel) (by decide +kernel) ⟨rfl, rfl, rfl, rfl, rfl, by decide +kernel⟩ ?hw ?hc
  case hw => w_witness2
  case hc =>
    refine L2.walk_ofE (l := PySem.Challenge.rw_reelwright_k07_whole_numbers_of_times) (n := 63) (k := 9) (x := "script") (CX := L2.CX0) rfl (by decide) (by kernel_rfl) ⟨rfl, by decide, by decide⟩ ?F (fun _ _ _ _ z => z)
    intro w mg fa h Y G hmg0
    obtain ⟨K, c⟩ := Y
    have hmg : mg ("law" : PySem.Str) = some (.ref fa) := by
      have e : (HandSHeadRun.topDef (OpenLaw.row PySem.Challenge.rw_reelwright_k07_whole_numbers_of_times).prog 35).name = ("law" : PySem.Str) := by kernel_rfl
      rw [← e]
      exact hmg0
    obtain ⟨fd, hb, hF⟩ := Zk07.facts (P := (PySem.Challenge.rw_reelwright_k07_whole_numbers_of_times).prog) (w := w) c.kin G c.d c.ex Zk07.FU hmg
    exact ⟨K, fd, fun vs H Q _ => Rf.spF K (Zk07.exc K) 1 (Zk07.g_law Zk07.FU) vs H Q fun _ _ _ => False, c.kin, hb, fun H a ns hl _ hS => Rf.spF_end c.nol hS (Zk07.plain ns hl), fun base _ _ => hF base⟩

