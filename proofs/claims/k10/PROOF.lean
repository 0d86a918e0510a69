import PyProof.Rows.All
import Wide.All
import OpenK.AllK
import Wide.FinOn
import HandS.ForMost
import HandS.ForExc
import HandS.Lambda
import HandS.EndTab
import HandS.DictComp
import HandS.Deep
import HandS.SortInts
import HandS.SortRule
import HandS.TupAny
import HandS.Small
import HandS.Defaults
import HandS.DictTup
import HandS.Style
import HandS.WordsDict
import HandS.GenList
import HandS.AnyAll
import PyProof.TupleOfGen
import HandS.IsInst
import HandS.Zip
import KE.LtData
import KE.KDictPairs
import KE.KEqDict
import HandS.DictEq
import HandS.ListItems
import HandS.Conv
import KE.SortKeyHeap
import KE.KDictSum
import HandS.SortKw
import HandS.TupLen
import HandS.More
import HandS.SetKeys
import KE.KDictZip
import HandS.Zip0
import PyProof.EnumMake
import HandS.Iter
import PySem.Challenge.RW_streamstack_k10_rows_of_other_shapes
set_option Elab.async false
set_option linter.all false
set_option maxRecDepth 100000
set_option maxHeartbeats 4000000
set_option autoImplicit false
/-! L3, part a: data by value, the owned heap, what a step keeps. -/
namespace L3
open PySem L2

/-- then, with what is there -/
@[simp] def onS {α : Type} : Option α → (α → Prop) → Prop
  | some a, k => k a
  | none, _ => False
theorem onS_iff {α : Type} {o : Option α} {k : α → Prop} : onS o k ↔ ∃ a, o = some a ∧ k a := by
  cases o <;> simp [onS]
@[simp] def noS {α : Type} : Option α → Prop
  | some _ => False
  | none => True
theorem noS_iff {α : Type} {o : Option α} : noS o ↔ o = none := by
  cases o <;> simp [noS]
inductive Tag where
  | tup | lst | ro | tuK | tuF
  | dK (ks : List Key) | dT (ks : List (List Key))
  | obj (C : Addr) (ns : List Str)

inductive D where
  | non | bl (b : Bool) | int (i : Int) | str (x : Str) | ref (a : Addr) | clo (i : Nat)
  | nod (t : Tag) (xs : List D)

abbrev D.tup (xs : List D) : D := .nod .tup xs
abbrev D.lst (xs : List D) : D := .nod .lst xs
abbrev D.dK (kvs : List (Key × D)) : D := .nod (.dK (kvs.map (·.1))) (kvs.map (·.2))
abbrev D.dT (kvs : List (List Key × D)) : D := .nod (.dT (kvs.map (·.1))) (kvs.map (·.2))
abbrev D.obj (C : Addr) (fs : List (Str × D)) : D := .nod (.obj C (fs.map (·.1))) (fs.map (·.2))

/-- what is owned: it may still be changed -/
inductive GO where
  | lst (xs : List D)
  | dK (kvs : List (Key × D)) | dT (kvs : List (List Key × D))
  | ins (C : Addr) (fs : List (Str × D))
  /-- a dict while it is walked; a thing that is hidden -/
  | lkK (kvs : List (Key × D)) | lkT (kvs : List (List Key × D)) | lkL (xs : List D)
  | hid

/-- it may be written -/
def GO.wr : GO → Bool
  | .lkK _ => false
  | .lkT _ => false
  | .lkL _ => false
  | .hid => false
  | _ => true
/-- it is walked -/
def GO.lk : GO → Bool
  | .lkK _ => true
  | .lkT _ => true
  | .lkL _ => true
  | _ => false
theorem GO.wr_lk {g : GO} (h : g.wr = true) (h2 : g.lk = true) : False := by cases g <;> first | (cases h; done) | (cases h2; done)

abbrev Gp := Addr → Option GO
def gset (G : Gp) (a : Addr) (o : GO) : Gp := fun b => if b = a then some o else G b
def gdel (G : Gp) (a : Addr) : Gp := fun b => if b = a then none else G b
theorem gset_same {G : Gp} {a : Addr} {o : GO} : gset G a o a = some o := if_pos rfl
theorem gset_ne {G : Gp} {a b : Addr} {o : GO} (h : b ≠ a) : gset G a o b = G b := if_neg h
theorem gdel_same {G : Gp} {a : Addr} : gdel G a a = none := if_pos rfl
theorem gdel_ne {G : Gp} {a b : Addr} (h : b ≠ a) : gdel G a b = G b := if_neg h

/-- what is to be seen -/
def vis (G : Gp) : Gp := fun a => match G a with | some .hid => none | o => o
theorem vis_some {G : Gp} {a : Addr} {g : GO} (h : vis G a = some g) : G a = some g := by
  unfold vis at h
  split at h
  · cases h
  · exact h
theorem vis_none {G : Gp} {a : Addr} (h : G a = none) : vis G a = none := by
  unfold vis; rw [h]
theorem vis_gset {G : Gp} {a : Addr} {o : GO} (h : o ≠ .hid) : vis (gset G a o) = gset (vis G) a o := by
  funext b
  unfold vis gset
  by_cases e : b = a
  · rw [if_pos e, if_pos e]; cases o <;> first | rfl | exact absurd rfl h
  · rw [if_neg e, if_neg e]
theorem vis_gdel {G : Gp} {a : Addr} : vis (gdel G a) = gdel (vis G) a := by
  funext b
  unfold vis gdel
  by_cases e : b = a
  · rw [if_pos e, if_pos e]
  · rw [if_neg e, if_neg e]
theorem vis_hide {G : Gp} {a : Addr} (h : G a = none) : vis (gset G a .hid) = vis G := by
  funext b
  unfold vis gset
  by_cases e : b = a
  · rw [if_pos e, e, h]
  · rw [if_neg e]
/-- the visible part is replaced -/
def ovl (G G' : Gp) : Gp := fun a => match G a with | some .hid => some .hid | _ => G' a
theorem vis_ovl {G G' : Gp} (h : ∀ a, G a = some .hid → G' a = none) (h2 : ∀ a, G' a ≠ some .hid) : vis (ovl G G') = G' := by
  funext a
  unfold vis ovl
  split
  · rename_i e
    split at e
    · rename_i e2; exact (h a e2).symm
    · exact absurd e (h2 a)
  · rename_i e
    split
    · rename_i e2
      rw [e2] at e
      exact absurd rfl e
    · rfl

/-- the things that are fixed: tables of code objects; what stands at a closure -/
structure Gm where
  T : List (Addr × Str)
  clo : Nat → Addr → Addr → HO
  cq : Nat → Str

def NoTbl (o : HO) : Prop := ∀ ps, o ≠ .tbl ps
section
variable (K : PySem.W.Frag) (Γ : Gm) (H : Hp) (G : Gp)
def TagAt : Tag → Addr → List V → Prop
  | .tup, a, vs => H a = some (.tup vs)
  | .tuK, a, vs => SqT K (fun _ => none) a vs ∧ ∀ o, K.lookup a = some o → o.dict = none
  | .tuF, a, vs => G a = none ∧ ∃ o : Obj, H a = some (.frz o (.tup vs)) ∧ o.dict = none
  | .lst, a, vs => G a = none ∧ H a = some (.lst vs)
  | .ro, a, vs => (G a = none ∧ Rd H a (.lst vs)) ∨ SqL K (fun _ => none) a vs
  | .dK ks, a, vs => G a = none ∧ ks.length = vs.length ∧ Rd H a (.dK (ks.zip vs))
  | .dT ks, a, vs => G a = none ∧ ks.length = vs.length ∧ Rd H a (.dT (ks.zip vs))
  | .obj C ns, a, vs => G a = none ∧ ns.length = vs.length ∧ ∃ dx, H a = some (.ins C dx (ns.zip vs))
mutual
def Dat : D → V → Prop
  | .non, v => v = .non
  | .bl b, v => v = .bl b
  | .int i, v => v = .int i
  | .str x, v => v = .str x
  | .ref a, v => v = .ref a
  | .clo i, v => ∃ f c, v = .ref f ∧ G f = none ∧ G c = none ∧ H f = some (Γ.clo i f c) ∧ H c = some (LamX.CodeO c (Γ.cq i)) ∧ ∃ φ, Γ.clo i f c = .ext φ
  | .nod t xs, v => ∃ a vs, v = .ref a ∧ TagAt K H G t a vs ∧ DatL xs vs
def DatL : List D → List V → Prop
  | [], vs => vs = []
  | d :: ds, vs => ∃ v r, vs = v :: r ∧ Dat d v ∧ DatL ds r
end
/-- pairs with the same keys -/
abbrev DatF {κ : Type} : List (κ × D) → List (κ × V) → Prop := Paired fun (p : κ × D) (q : κ × V) => p.1 = q.1 ∧ Dat K Γ H G p.2 q.2
def GOk (a : Addr) : GO → Prop
  | .lst ds => ∃ vs, H a = some (.lst vs) ∧ DatL K Γ H G ds vs
  | .dK kvs => ∃ vs, H a = some (.dK vs) ∧ DatF K Γ H G kvs vs
  | .dT kvs => ∃ vs, H a = some (.dT vs) ∧ DatF K Γ H G kvs vs
  | .ins C fs => ∃ dx vs, H a = some (.ins C dx vs) ∧ DatF K Γ H G fs vs
  | .lkK kvs => ∃ o vs, H a = some (.frz o (.dK vs)) ∧ DatF K Γ H G kvs vs
  | .lkT kvs => ∃ o vs, H a = some (.frz o (.dT vs)) ∧ DatF K Γ H G kvs vs
  | .lkL ds => ∃ o vs, H a = some (.frz o (.lst vs)) ∧ DatL K Γ H G ds vs
  | .hid => ∃ o, H a = some o ∧ NoTbl o ∧ (∀ φ, o ≠ .ext φ)
structure HpR : Prop where
  own : ∀ a g, G a = some g → GOk K Γ H G a g
  tab : LamX.Tabs Γ.T H
end

/-- what is kept where hidden things may change: tuples, and all that is not owned -/
structure Step0 (K : PySem.W.Frag) (H : Hp) (G : Gp) (H' : Hp) (G' : Gp) : Prop where
  tup : ∀ b xs, H b = some (.tup xs) → H' b = some (.tup xs)
  frm : ∀ a o, H a = some o → G a = none → NoTbl o → H' a = some o
  hid : ∀ a, G a = some .hid → G' a = some .hid
  own : ∀ a o, H a = some o → G a = none → NoTbl o → G' a = none ∧ ∃ o', H' a = some o'
  lck : ∀ a g, G a = some g → g.lk = true → G' a = some g ∧ ∀ o, H a = some o → H' a = some o
/-- what a step keeps -/
structure Step (K : PySem.W.Frag) (H : Hp) (G : Gp) (H' : Hp) (G' : Gp) : Prop extends Step0 K H G H' G' where
  frh : ∀ a o, H a = some o → G a = some .hid → NoTbl o → H' a = some o

section
variable {K : PySem.W.Frag} {Γ : Gm} {H H' H1 H2 : Hp} {G G' G1 G2 : Gp}
theorem Step0.refl : Step0 K H G H G := ⟨fun _ _ h => h, fun _ _ h _ _ => h, fun _ h => h, fun _ o h n _ => ⟨n, o, h⟩, fun _ _ h _ => ⟨h, fun _ e => e⟩⟩
theorem Step0.trans (a : Step0 K H G H1 G1) (b : Step0 K H1 G1 H2 G2) : Step0 K H G H2 G2 where
  tup := fun p xs h => b.tup p xs (a.tup p xs h)
  frm := fun p o h n nt => b.frm p o (a.frm p o h n nt) (a.own p o h n nt).1 nt
  hid := fun p h => b.hid p (a.hid p h)
  own := fun p o h n nt => b.own p o (a.frm p o h n nt) (a.own p o h n nt).1 nt
  lck := fun p g h l => by
    obtain ⟨h1, k1⟩ := a.lck p g h l
    obtain ⟨h2, k2⟩ := b.lck p g h1 l
    exact ⟨h2, fun o e => k2 o (k1 o e)⟩
theorem Step.refl : Step K H G H G := ⟨Step0.refl, fun _ _ h _ _ => h⟩
theorem Step.trans (a : Step K H G H1 G1) (b : Step K H1 G1 H2 G2) : Step K H G H2 G2 :=
  ⟨a.toStep0.trans b.toStep0, fun p o h n nt => b.frh p o (a.frh p o h n nt) (a.hid p n) nt⟩
theorem noTbl_lst {xs : List V} : NoTbl (.lst xs) := fun _ q => by cases q
theorem noTbl_dK {xs : List (Key × V)} : NoTbl (.dK xs) := fun _ q => by cases q
theorem noTbl_dT {xs : List (List Key × V)} : NoTbl (.dT xs) := fun _ q => by cases q
theorem noTbl_ins {C dx : Addr} {xs : List (Str × V)} : NoTbl (.ins C dx xs) := fun _ q => by cases q
theorem noTbl_tup {xs : List V} : NoTbl (.tup xs) := fun _ q => by cases q
theorem noTbl_frz {o : Obj} {u : HO} : NoTbl (.frz o u) := fun _ q => by cases q
structure StepD (K : PySem.W.Frag) (H : Hp) (G : Gp) (H' : Hp) (G' : Gp) : Prop where
  tup : ∀ b xs, H b = some (.tup xs) → H' b = some (.tup xs)
  frm : ∀ a o, H a = some o → G a = none → NoTbl o → H' a = some o
  own : ∀ a o, H a = some o → G a = none → NoTbl o → G' a = none ∧ ∃ o', H' a = some o'
theorem Step0.d (s : Step0 K H G H' G') : StepD K H G H' G' := ⟨s.tup, s.frm, s.own⟩
theorem StepD.rd (s : StepD K H G H' G') {a : Addr} {u : HO} (n : G a = none) (hu : NoTbl u) (h : Rd H a u) : G' a = none ∧ Rd H' a u := by
  rcases h with h | ⟨o, h⟩
  · exact ⟨(s.own a _ h n hu).1, .inl (s.frm a _ h n hu)⟩
  · exact ⟨(s.own a _ h n noTbl_frz).1, .inr ⟨o, s.frm a _ h n noTbl_frz⟩⟩
theorem TagAt.monoD (s : StepD K H G H' G') {a : Addr} {vs : List V} : ∀ {t : Tag}, TagAt K H G t a vs → TagAt K H' G' t a vs
  | .tup, h => s.tup _ _ h
  | .tuK, h => h
  | .tuF, h => by
    obtain ⟨n, o, e, d⟩ := h
    exact ⟨(s.own a _ e n noTbl_frz).1, o, s.frm a _ e n noTbl_frz, d⟩
  | .lst, h => ⟨(s.own a _ h.2 h.1 noTbl_lst).1, s.frm a _ h.2 h.1 noTbl_lst⟩
  | .ro, h => by
    rcases h with h | h
    · exact .inl (s.rd h.1 noTbl_lst h.2)
    · exact .inr h
  | .dK ks, h => ⟨(s.rd h.1 noTbl_dK h.2.2).1, h.2.1, (s.rd h.1 noTbl_dK h.2.2).2⟩
  | .dT ks, h => ⟨(s.rd h.1 noTbl_dT h.2.2).1, h.2.1, (s.rd h.1 noTbl_dT h.2.2).2⟩
  | .obj C ns, h => by
    obtain ⟨n, l, dx, e⟩ := h
    exact ⟨(s.own a _ e n noTbl_ins).1, l, dx, s.frm a _ e n noTbl_ins⟩
mutual
theorem Dat.monoD (s : StepD K H G H' G') : ∀ {d : D} {v : V}, Dat K Γ H G d v → Dat K Γ H' G' d v
  | .non, _, h => h
  | .bl _, _, h => h
  | .int _, _, h => h
  | .str _, _, h => h
  | .ref _, _, h => h
  | .clo i, v, h => by
    obtain ⟨f, c, e, n, n2, hf, hc, nt⟩ := h
    have t1 : NoTbl (Γ.clo i f c) := fun ps z => by obtain ⟨φ, q⟩ := nt; rw [q] at z; cases z
    have t2 : NoTbl (LamX.CodeO c (Γ.cq i)) := fun ps z => by unfold LamX.CodeO at z; cases z
    exact ⟨f, c, e, (s.own f _ hf n t1).1, (s.own c _ hc n2 t2).1, s.frm f _ hf n t1, s.frm c _ hc n2 t2, nt⟩
  | .nod t xs, v, h => by
    obtain ⟨a, vs, e, ht, hl⟩ := h
    exact ⟨a, vs, e, ht.monoD s, DatL.monoD s hl⟩
theorem DatL.monoD (s : StepD K H G H' G') : ∀ {ds : List D} {vs : List V}, DatL K Γ H G ds vs → DatL K Γ H' G' ds vs
  | [], _, h => h
  | d :: ds, vs, h => by
    obtain ⟨v, r, e, h1, h2⟩ := h
    exact ⟨v, r, e, Dat.monoD s h1, DatL.monoD s h2⟩
end
theorem TagAt.mono0 (s : Step0 K H G H' G') {a : Addr} {vs : List V} {t : Tag} (h : TagAt K H G t a vs) : TagAt K H' G' t a vs := h.monoD s.d
theorem Dat.mono0 (s : Step0 K H G H' G') {d : D} {v : V} (h : Dat K Γ H G d v) : Dat K Γ H' G' d v := h.monoD s.d
theorem DatL.mono0 (s : Step0 K H G H' G') {ds : List D} {vs : List V} (h : DatL K Γ H G ds vs) : DatL K Γ H' G' ds vs := h.monoD s.d
theorem DatF.monoD {κ : Type} (s : StepD K H G H' G') {fs : List (κ × D)} {vs : List (κ × V)} (h : DatF K Γ H G fs vs) : DatF K Γ H' G' fs vs := Paired.mapP h fun _ _ q => ⟨q.1, q.2.monoD s⟩
theorem Dat.mono (s : Step K H G H' G') {d : D} {v : V} (h : Dat K Γ H G d v) : Dat K Γ H' G' d v := h.mono0 s.toStep0
theorem DatL.mono (s : Step K H G H' G') {ds : List D} {vs : List V} (h : DatL K Γ H G ds vs) : DatL K Γ H' G' ds vs := h.mono0 s.toStep0
theorem DatF.mono0 {κ : Type} (s : Step0 K H G H' G') {fs : List (κ × D)} {vs : List (κ × V)} (h : DatF K Γ H G fs vs) : DatF K Γ H' G' fs vs := Paired.mapP h fun _ _ q => ⟨q.1, q.2.mono0 s⟩
theorem DatF.mono {κ : Type} (s : Step K H G H' G') {fs : List (κ × D)} {vs : List (κ × V)} (h : DatF K Γ H G fs vs) : DatF K Γ H' G' fs vs := Paired.mapP h fun _ _ q => ⟨q.1, q.2.mono s⟩
theorem DatL.nil : DatL K Γ H G [] [] := rfl
theorem DatL.cons {d : D} {ds : List D} {v : V} {vs : List V} (h : Dat K Γ H G d v) (t : DatL K Γ H G ds vs) : DatL K Γ H G (d :: ds) (v :: vs) := ⟨v, vs, rfl, h, t⟩
theorem DatL.length : ∀ {ds : List D} {vs : List V}, DatL K Γ H G ds vs → ds.length = vs.length
  | [], _, h => by cases (show _ = _ from h); rfl
  | _ :: _, _, h => by
    obtain ⟨v, r, rfl, _, h2⟩ := h
    simp [DatL.length h2]
theorem DatL.append : ∀ {ds es : List D} {vs us : List V}, DatL K Γ H G ds vs → DatL K Γ H G es us → DatL K Γ H G (ds ++ es) (vs ++ us)
  | [], _, _, _, h, t => by cases (show _ = _ from h); exact t
  | _ :: _, _, _, _, h, t => by
    obtain ⟨v, r, rfl, h1, h2⟩ := h
    exact ⟨v, _, rfl, h1, DatL.append h2 t⟩
theorem DatL.get : ∀ {ds : List D} {vs : List V} {i : Nat} {d : D}, DatL K Γ H G ds vs → ds[i]? = some d → ∃ v, vs[i]? = some v ∧ Dat K Γ H G d v
  | [], _, _, _, _, e => by simp at e
  | _ :: _, _, 0, _, h, e => by
    obtain ⟨v, r, rfl, h1, _⟩ := h
    simp at e; subst e
    exact ⟨v, rfl, h1⟩
  | _ :: _, _, i + 1, _, h, e => by
    obtain ⟨v, r, rfl, _, h2⟩ := h
    obtain ⟨u, e1, r1⟩ := DatL.get (i := i) h2 (by simpa using e)
    exact ⟨u, by simpa using e1, r1⟩
theorem DatL.get' : ∀ {ds : List D} {vs : List V} {i : Nat} {v : V}, DatL K Γ H G ds vs → vs[i]? = some v → ∃ d, ds[i]? = some d ∧ Dat K Γ H G d v := fun {ds vs i v} h e => by
  have hl := h.length
  have hi : i < ds.length := by rw [hl]; exact (List.getElem?_eq_some_iff.mp e).1
  obtain ⟨u, e1, r1⟩ := h.get (i := i) (d := ds[i]) (List.getElem?_eq_getElem hi)
  rw [e] at e1; cases e1
  exact ⟨_, List.getElem?_eq_getElem hi, r1⟩
theorem DatL.set {d : D} {v : V} (r : Dat K Γ H G d v) : ∀ {ds : List D} {vs : List V} (i : Nat), DatL K Γ H G ds vs → DatL K Γ H G (ds.set i d) (vs.set i v)
  | [], _, _, h => by cases (show _ = _ from h); rfl
  | _ :: _, _, 0, h => by
    obtain ⟨u, w, rfl, _, h2⟩ := h
    exact ⟨v, w, rfl, r, h2⟩
  | _ :: _, _, i + 1, h => by
    obtain ⟨u, w, rfl, h1, h2⟩ := h
    exact ⟨u, _, rfl, h1, DatL.set r i h2⟩
theorem DatL.take : ∀ {ds : List D} {vs : List V} (n : Nat), DatL K Γ H G ds vs → DatL K Γ H G (ds.take n) (vs.take n)
  | _, _, 0, _ => rfl
  | [], _, _ + 1, h => by cases (show _ = _ from h); rfl
  | _ :: _, _, n + 1, h => by
    obtain ⟨u, w, rfl, h1, h2⟩ := h
    exact ⟨u, _, rfl, h1, DatL.take n h2⟩
theorem DatL.drop : ∀ {ds : List D} {vs : List V} (n : Nat), DatL K Γ H G ds vs → DatL K Γ H G (ds.drop n) (vs.drop n)
  | _, _, 0, h => h
  | [], _, _ + 1, h => by cases (show _ = _ from h); rfl
  | _ :: _, _, n + 1, h => by
    obtain ⟨u, w, rfl, h1, h2⟩ := h
    exact DatL.drop n h2
theorem DatL.reverse : ∀ {ds : List D} {vs : List V}, DatL K Γ H G ds vs → DatL K Γ H G ds.reverse vs.reverse
  | [], _, h => by cases (show _ = _ from h); rfl
  | _ :: _, _, h => by
    obtain ⟨u, w, rfl, h1, h2⟩ := h
    rw [List.reverse_cons, List.reverse_cons]
    exact (DatL.reverse h2).append (DatL.cons h1 DatL.nil)
theorem DatL.split {ds es : List D} : ∀ {vs : List V}, DatL K Γ H G (ds ++ es) vs → ∃ us ws, vs = us ++ ws ∧ DatL K Γ H G ds us ∧ DatL K Γ H G es ws := by
  induction ds with
  | nil => intro vs h; exact ⟨[], vs, rfl, rfl, h⟩
  | cons d ds ih =>
    intro vs h
    obtain ⟨v, r, rfl, h1, h2⟩ := h
    obtain ⟨us, ws, rfl, a, b⟩ := ih h2
    exact ⟨v :: us, ws, rfl, ⟨v, us, rfl, h1, a⟩, b⟩
theorem DatL.ints : ∀ {ns : List Int} {vs : List V}, DatL K Γ H G (ns.map D.int) vs → vs = ns.map V.int
  | [], _, h => h
  | _ :: _, _, h => by
    obtain ⟨v, r, rfl, h1, h2⟩ := h
    rw [DatL.ints h2, show v = _ from h1] <;> rfl
theorem DatL.of_ints : ∀ {ns : List Int}, DatL K Γ H G (ns.map D.int) (ns.map V.int)
  | [] => rfl
  | n :: ns => ⟨_, _, rfl, rfl, DatL.of_ints⟩
end

section
variable {K : PySem.W.Frag} {Γ : Gm} {H : Hp} {G : Gp} {κ : Type}
theorem DatF.of_zip : ∀ {ns : List κ} {ds : List D} {vs : List V}, DatL K Γ H G ds vs → DatF K Γ H G (ns.zip ds) (ns.zip vs)
  | [], _, _, _ => .nil
  | _ :: _, [], _, h => by cases (show _ = _ from h); exact .nil
  | n :: ns, d :: ds, _, h => by
    obtain ⟨v, r, rfl, h1, h2⟩ := h
    exact .cons ⟨rfl, h1⟩ (DatF.of_zip h2)
theorem DatF.snd : ∀ {fs : List (κ × D)} {vs : List (κ × V)}, DatF K Γ H G fs vs → DatL K Γ H G (fs.map (·.2)) (vs.map (·.2))
  | _, _, .nil => rfl
  | _, _, .cons r t => ⟨_, _, rfl, r.2, DatF.snd t⟩
theorem DatF.fst : ∀ {fs : List (κ × D)} {vs : List (κ × V)}, DatF K Γ H G fs vs → vs.map (·.1) = fs.map (·.1)
  | _, _, .nil => rfl
  | _, _, .cons r t => by rw [List.map_cons, List.map_cons, DatF.fst t, r.1]
theorem DatF.length : ∀ {fs : List (κ × D)} {vs : List (κ × V)}, DatF K Γ H G fs vs → fs.length = vs.length
  | _, _, .nil => rfl
  | _, _, .cons r t => by rw [List.length_cons, List.length_cons, DatF.length t]
theorem zip_self : ∀ {α β : Type} (l : List (α × β)), (l.map (·.1)).zip (l.map (·.2)) = l
  | _, _, [] => rfl
  | _, _, (a, b) :: l => by rw [List.map_cons, List.map_cons, List.zip_cons_cons, zip_self l]
theorem DatF.lookup {fs : List (Str × D)} {vs : List (Str × V)} (h : DatF K Γ H G fs vs) (f : Str) {d : D} (e : fs.lookup f = some d) : ∃ v, vs.lookup f = some v ∧ Dat K Γ H G d v := by
  induction h with
  | nil => cases e
  | cons r t ih =>
    rename_i p q l1 l2
    obtain ⟨n, d0⟩ := p
    obtain ⟨n', v0⟩ := q
    obtain ⟨r1, r2⟩ := r
    have r1 : n = n' := r1
    subst r1
    rw [List.lookup_cons] at e ⊢
    cases hb : f == n with
    | true => rw [hb] at e; cases e; exact ⟨v0, rfl, r2⟩
    | false => rw [hb] at e; exact ih e
theorem DatF.lookup_none {fs : List (Str × D)} {vs : List (Str × V)} (h : DatF K Γ H G fs vs) (f : Str) (e : fs.lookup f = none) : vs.lookup f = none := by
  induction h with
  | nil => rfl
  | cons r t ih =>
    rename_i p q l1 l2
    obtain ⟨n, d0⟩ := p
    obtain ⟨n', v0⟩ := q
    obtain ⟨r1, r2⟩ := r
    have r1 : n = n' := r1
    subst r1
    rw [List.lookup_cons] at e ⊢
    cases hb : f == n with
    | true => rw [hb] at e; cases e
    | false => rw [hb] at e; exact ih e
end
def putD (f : Str) (d : D) : List (Str × D) → List (Str × D)
  | [] => [(f, d)]
  | (g, e) :: r => if g = f then (g, d) :: r else (g, e) :: putD f d r
theorem DatF.put {K : PySem.W.Frag} {Γ : Gm} {H : Hp} {G : Gp} {f : Str} {d : D} {v : V} (r : Dat K Γ H G d v) : ∀ {fs : List (Str × D)} {vs : List (Str × V)}, DatF K Γ H G fs vs → DatF K Γ H G (putD f d fs) (putF f v vs)
  | _, _, .nil => .cons ⟨rfl, r⟩ .nil
  | (n, d0) :: l, (n', v0) :: l', .cons q t => by
    have e : n = n' := q.1
    subst e
    by_cases h : n = f
    · show DatF K Γ H G (if n = f then _ else _) (if n = f then _ else _)
      rw [if_pos h, if_pos h]
      exact .cons ⟨rfl, r⟩ t
    · show DatF K Γ H G (if n = f then _ else _) (if n = f then _ else _)
      rw [if_neg h, if_neg h]
      exact .cons q (DatF.put r t)

/-! ### what a new object, a change of an owned one are -/
section
variable {K : PySem.W.Frag} {Γ : Gm} {H H' : Hp} {G G' : Gp} {p : Addr} {o : HO} {g : GO}
theorem own_none (R : HpR K Γ H G) (hp : H p = none) : G p = none := by
  cases e : G p with
  | none => rfl
  | some g =>
    have q := R.own p g e
    cases g with
    | lst ds => obtain ⟨_, q, _⟩ := q; rw [hp] at q; cases q
    | dK ds => obtain ⟨_, q, _⟩ := q; rw [hp] at q; cases q
    | dT ds => obtain ⟨_, q, _⟩ := q; rw [hp] at q; cases q
    | ins C ds => obtain ⟨_, _, q, _⟩ := q; rw [hp] at q; cases q
    | lkK ds => obtain ⟨_, _, q, _⟩ := q; rw [hp] at q; cases q
    | lkT ds => obtain ⟨_, _, q, _⟩ := q; rw [hp] at q; cases q
    | lkL ds => obtain ⟨_, _, q, _⟩ := q; rw [hp] at q; cases q
    | hid => obtain ⟨_, q, _⟩ := q; rw [hp] at q; cases q
theorem own_at (R : HpR K Γ H G) (hp : G p = some g) (hw : g.wr = true) : ∃ o, H p = some o ∧ Mut (some o) ∧ NoTbl o ∧ (∀ xs, o ≠ .tup xs) ∧ ∀ o' u, o ≠ .frz o' u := by
  have q := R.own p g hp
  cases g with
  | lst ds => obtain ⟨_, q, _⟩ := q; exact ⟨_, q, trivial, noTbl_lst, fun _ z => (nomatch z), fun _ _ z => (nomatch z)⟩
  | dK ds => obtain ⟨_, q, _⟩ := q; exact ⟨_, q, trivial, noTbl_dK, fun _ z => (nomatch z), fun _ _ z => (nomatch z)⟩
  | dT ds => obtain ⟨_, q, _⟩ := q; exact ⟨_, q, trivial, noTbl_dT, fun _ z => (nomatch z), fun _ _ z => (nomatch z)⟩
  | ins C ds => obtain ⟨_, _, q, _⟩ := q; exact ⟨_, q, trivial, noTbl_ins, fun _ z => (nomatch z), fun _ _ z => (nomatch z)⟩
  | lkK ds => cases hw
  | lkT ds => cases hw
  | lkL ds => cases hw
  | hid => cases hw
/-- a new object that nobody owns -/
theorem Step.new (hp : H p = none) : Step K H G (upd H p o) G where
  frh := fun a u h _ _ => by rw [upd_ne (ne_of_none h hp)]; exact h
  tup := fun b xs h => by rw [upd_ne (ne_of_none h hp)]; exact h
  frm := fun a u h _ _ => by rw [upd_ne (ne_of_none h hp)]; exact h
  hid := fun a h => h
  own := fun a u h n _ => ⟨n, u, by rw [upd_ne (ne_of_none h hp)]; exact h⟩
  lck := fun a g h _ => ⟨h, fun u e => by rw [upd_ne (ne_of_none e hp)]; exact e⟩
/-- a new object that is owned -/
theorem Step.newG (hp : H p = none) (hn : G p = none) : Step K H G (upd H p o) (gset G p g) where
  frh := fun a u h _ _ => by rw [upd_ne (ne_of_none h hp)]; exact h
  tup := fun b xs h => by rw [upd_ne (ne_of_none h hp)]; exact h
  frm := fun a u h _ _ => by rw [upd_ne (ne_of_none h hp)]; exact h
  hid := fun a h => by rw [gset_ne (fun e => by rw [e, hn] at h; cases h)]; exact h
  own := fun a u h n _ => ⟨by rw [gset_ne (ne_of_none h hp)]; exact n, u, by rw [upd_ne (ne_of_none h hp)]; exact h⟩
  lck := fun a g h _ => ⟨by rw [gset_ne (fun e => by rw [e, hn] at h; cases h)]; exact h, fun u e => by rw [upd_ne (ne_of_none e hp)]; exact e⟩
/-- an owned object changes -/
theorem Step.put (hp : H p = some o) (nt : ∀ xs, o ≠ .tup xs) (nf : ∀ o' u, o ≠ .frz o' u) (hg : G p = some g) (hw : g.wr = true) {o' : HO} {g' : GO} : Step K H G (upd H p o') (gset G p g') where
  tup := fun b xs h => by rw [upd_ne (fun e => nt xs (by subst e; rw [hp] at h; exact Option.some.inj h))]; exact h
  frm := fun a u h n _ => by
    have ne : a ≠ p := fun e => by subst e; rw [hg] at n; cases n
    rw [upd_ne ne]; exact h
  frh := fun a u h n _ => by
    have ne : a ≠ p := fun e => by subst e; rw [hg] at n; cases n; cases hw
    rw [upd_ne ne]; exact h
  hid := fun a n => by
    have ne : a ≠ p := fun e => by subst e; rw [hg] at n; cases n; cases hw
    rw [gset_ne ne]; exact n
  own := fun a u h n _ => by
    have ne : a ≠ p := fun e => by subst e; rw [hg] at n; cases n
    exact ⟨by rw [gset_ne ne]; exact n, u, by rw [upd_ne ne]; exact h⟩
  lck := fun a g' h l => by
    have ne : a ≠ p := fun e => by subst e; rw [hg] at h; cases h; exact GO.wr_lk hw l
    exact ⟨by rw [gset_ne ne]; exact h, fun u e => by rw [upd_ne ne]; exact e⟩
theorem tabs_upd {T : List (Addr × Str)} (t : LamX.Tabs T H) (h : H p = none ∨ ∃ o, H p = some o ∧ NoTbl o ∧ ∀ c q, o ≠ LamX.CodeO c q) : LamX.Tabs T (upd H p o) := by
  intro q hq
  obtain ⟨ps, h1, h2, h3⟩ := t q hq
  have ne : ∀ b u, H b = some u → (∃ ps, u = .tbl ps) ∨ (∃ c r, u = LamX.CodeO c r) → b ≠ p := fun b u e k z => by
    subst z
    rcases h with h | ⟨o1, h, n1, n2⟩
    · rw [e] at h; cases h
    · rw [e] at h; cases h
      rcases k with ⟨ps, k⟩ | ⟨c, r, k⟩
      · exact n1 _ k
      · exact n2 _ _ k
  refine ⟨ps, by rw [upd_ne (ne _ _ h1 (.inl ⟨_, rfl⟩))]; exact h1, h2, fun pos cv hc => ?_⟩
  obtain ⟨c, e1, e2⟩ := h3 pos cv hc
  exact ⟨c, e1, by rw [upd_ne (ne _ _ e2 (.inr ⟨_, _, rfl⟩))]; exact e2⟩
theorem GOk.monoD (s : StepD K H G H' G') {a : Addr} (keep : ∀ o, H a = some o → H' a = some o) : ∀ {g : GO}, GOk K Γ H G a g → GOk K Γ H' G' a g
  | .lst ds, h => by obtain ⟨vs, e, l⟩ := h; exact ⟨vs, keep _ e, l.monoD s⟩
  | .dK ds, h => by obtain ⟨vs, e, l⟩ := h; exact ⟨vs, keep _ e, l.monoD s⟩
  | .dT ds, h => by obtain ⟨vs, e, l⟩ := h; exact ⟨vs, keep _ e, l.monoD s⟩
  | .ins C ds, h => by obtain ⟨dx, vs, e, l⟩ := h; exact ⟨dx, vs, keep _ e, l.monoD s⟩
  | .lkK ds, h => by obtain ⟨dx, vs, e, l⟩ := h; exact ⟨dx, vs, keep _ e, l.monoD s⟩
  | .lkT ds, h => by obtain ⟨dx, vs, e, l⟩ := h; exact ⟨dx, vs, keep _ e, l.monoD s⟩
  | .lkL ds, h => by obtain ⟨dx, vs, e, l⟩ := h; exact ⟨dx, vs, keep _ e, l.monoD s⟩
  | .hid, h => by obtain ⟨o, e, n⟩ := h; exact ⟨o, keep _ e, n⟩
theorem GOk.mono0 (s : Step0 K H G H' G') {a : Addr} (keep : ∀ o, H a = some o → H' a = some o) {g : GO} (h : GOk K Γ H G a g) : GOk K Γ H' G' a g := h.monoD s.d keep
theorem GOk.mono (s : Step K H G H' G') {a : Addr} (keep : ∀ o, H a = some o → H' a = some o) {g : GO} (h : GOk K Γ H G a g) : GOk K Γ H' G' a g := h.mono0 s.toStep0 keep
theorem HpR.new (R : HpR K Γ H G) (hp : H p = none) : HpR K Γ (upd H p o) G where
  own := fun a g e => (R.own a g e).mono (Step.new hp) fun u h => by rw [upd_ne (ne_of_none h hp)]; exact h
  tab := tabs_upd R.tab (.inl hp)
theorem HpR.newG (R : HpR K Γ H G) (hp : H p = none) (ok : GOk K Γ (upd H p o) (gset G p g) p g) : HpR K Γ (upd H p o) (gset G p g) where
  own := fun a u e => by
    by_cases ha : a = p
    · subst ha; rw [gset_same] at e; cases e; exact ok
    · rw [gset_ne ha] at e
      exact (R.own a u e).mono (Step.newG hp (own_none R hp)) fun u h => by rw [upd_ne ha]; exact h
  tab := tabs_upd R.tab (.inl hp)
theorem codeO_no : ∀ {o : HO}, (∀ φ, o ≠ .ext φ) → ∀ c q, o ≠ LamX.CodeO c q := fun h c q z => h _ z
theorem own_noext (R : HpR K Γ H G) (hp : G p = some g) (hw : g.wr = true) (ho : H p = some o) : ∀ φ, o ≠ .ext φ := by
  have q := R.own p g hp
  intro φ z
  subst z
  cases g with
  | lst ds => obtain ⟨_, q, _⟩ := q; rw [ho] at q; cases q
  | dK ds => obtain ⟨_, q, _⟩ := q; rw [ho] at q; cases q
  | dT ds => obtain ⟨_, q, _⟩ := q; rw [ho] at q; cases q
  | ins C ds => obtain ⟨_, _, q, _⟩ := q; rw [ho] at q; cases q
  | lkK ds => cases hw
  | lkT ds => cases hw
  | lkL ds => cases hw
  | hid => cases hw
theorem HpR.put (R : HpR K Γ H G) (hg : G p = some g) (hw : g.wr = true) {o' : HO} {g' : GO} (ok : Step K H G (upd H p o') (gset G p g') → GOk K Γ (upd H p o') (gset G p g') p g') :
    Step K H G (upd H p o') (gset G p g') ∧ HpR K Γ (upd H p o') (gset G p g') := by
  obtain ⟨o, ho, mu, nt, n1, n2⟩ := own_at R hg hw
  have st : Step K H G (upd H p o') (gset G p g') := Step.put ho n1 n2 hg hw
  refine ⟨st, ⟨fun a u e => ?_, tabs_upd R.tab (.inr ⟨o, ho, nt, codeO_no (own_noext R hg hw ho)⟩)⟩⟩
  by_cases ha : a = p
  · subst ha; rw [gset_same] at e; cases e; exact ok st
  · rw [gset_ne ha] at e
    exact (R.own a u e).mono st fun u h => by rw [upd_ne ha]; exact h
end
end L3
/-! L3, part b: judgements; names, constants, operators, tests. -/
namespace L3
open PySem L2

abbrev St3 := List (Option D)
@[simp] def slot : St3 → Nat → Option D
  | [], _ => none
  | x :: _, 0 => x
  | _ :: xs, n + 1 => slot xs n
theorem slot_get : ∀ {δ : St3} {i : Nat} {d : D}, slot δ i = some d → δ[i]? = some (some d)
  | x :: _, 0, _, h => by simpa [slot] using h
  | _ :: xs, n + 1, _, h => by simpa using slot_get (δ := xs) h
structure Rel (K : PySem.W.Frag) (Γ : Gm) (δ : St3) (G : Gp) (σ : L2.St) (H : Hp) : Prop where
  len : δ.length = σ.length
  get : ∀ (i : Nat) (d : D), δ[i]? = some (some d) → ∃ v, σ[i]? = some (some v) ∧ Dat K Γ H G d v
  hp : HpR K Γ H G
abbrev K3 := D → Gp → Prop
abbrev X3 := Value → Gp → Prop
abbrev TE3 := St3 → Gp → K3 → X3 → Prop
abbrev TT3 := St3 → Gp → (Bool → Gp → Prop) → X3 → Prop
abbrev TA3 := St3 → Gp → (List D → Gp → Prop) → X3 → Prop
abbrev TG3 := D → St3 → Gp → (St3 → Gp → Prop) → X3 → Prop
abbrev TGs3 := List D → St3 → Gp → (St3 → Gp → Prop) → X3 → Prop
structure Ends3 where
  nx : St3 → Gp → Prop
  rt : K3
  bk : St3 → Gp → Prop := fun _ _ => False
  ct : St3 → Gp → Prop := fun _ _ => False
  ex : Value → St3 → Gp → Prop := fun _ _ _ => False
abbrev TS3 := Ends3 → St3 → Gp → Prop

section
variable (K : PySem.W.Frag) (Γ : Gm) (W : WX)
def lift (T : TE3) : TE := fun σ H Q => ∃ δ G Q3 E3, Rel K Γ δ G σ H ∧ T δ (vis G) Q3 E3 ∧
  (∀ d v G' H', Step K H G H' G' → HpR K Γ H' G' → Dat K Γ H' G' d v → Q3 d (vis G') → Q v H') ∧ ∀ cls G' H', Step K H G H' G' → HpR K Γ H' G' → E3 cls (vis G') → W cls none σ H'
def liftT (T : TT3) : TT := fun σ H Q => ∃ δ G Q3 E3, Rel K Γ δ G σ H ∧ T δ (vis G) Q3 E3 ∧
  (∀ b G' H', Step K H G H' G' → HpR K Γ H' G' → Q3 b (vis G') → Q b H') ∧ ∀ cls G' H', Step K H G H' G' → HpR K Γ H' G' → E3 cls (vis G') → W cls none σ H'
def liftA (T : TA3) : TA := fun σ H Q => ∃ δ G Q3 E3, Rel K Γ δ G σ H ∧ T δ (vis G) Q3 E3 ∧
  (∀ ds vs G' H', Step K H G H' G' → HpR K Γ H' G' → DatL K Γ H' G' ds vs → Q3 ds (vis G') → Q vs H') ∧ ∀ cls G' H', Step K H G H' G' → HpR K Γ H' G' → E3 cls (vis G') → W cls none σ H'
def liftG (T : TG3) : TG := fun v σ H Q => ∃ d δ G Q3 E3, Rel K Γ δ G σ H ∧ Dat K Γ H G d v ∧ T d δ (vis G) Q3 E3 ∧
  (∀ δ' G' σ' H', Step K H G H' G' → Rel K Γ δ' G' σ' H' → Q3 δ' (vis G') → Q σ' H') ∧ ∀ cls G' H', Step K H G H' G' → HpR K Γ H' G' → E3 cls (vis G') → W cls none σ H'
def liftGs (T : TGs3) : TGs := fun vs σ H Q => ∃ ds δ G Q3 E3, Rel K Γ δ G σ H ∧ DatL K Γ H G ds vs ∧ T ds δ (vis G) Q3 E3 ∧
  (∀ δ' G' σ' H', Step K H G H' G' → Rel K Γ δ' G' σ' H' → Q3 δ' (vis G') → Q σ' H') ∧ ∀ cls G' H', Step K H G H' G' → HpR K Γ H' G' → E3 cls (vis G') → W cls none σ H'
structure KeepS (H : Hp) (G : Gp) (D3 : Ends3) (D : Ends) : Prop where
  nx : ∀ δ' G' σ' H', Step K H G H' G' → Rel K Γ δ' G' σ' H' → D3.nx δ' (vis G') → D.nx σ' H'
  rt : ∀ d v G' H', Step K H G H' G' → HpR K Γ H' G' → Dat K Γ H' G' d v → D3.rt d (vis G') → D.rt v H'
  bk : ∀ δ' G' σ' H', Step K H G H' G' → Rel K Γ δ' G' σ' H' → D3.bk δ' (vis G') → D.bk σ' H'
  ct : ∀ δ' G' σ' H', Step K H G H' G' → Rel K Γ δ' G' σ' H' → D3.ct δ' (vis G') → D.ct σ' H'
  ex : ∀ cls δ' G' σ' H', Step K H G H' G' → Rel K Γ δ' G' σ' H' → D3.ex cls δ' (vis G') → W cls none σ' H'
def liftS (T : TS3) : TS := fun D σ H => ∃ δ G D3, Rel K Γ δ G σ H ∧ T D3 δ (vis G) ∧ KeepS K Γ W H G D3 D
end
abbrev PE3 (X : Cx) (Γ : Gm) (W : WX) (e : Expr) (T : TE3) : Prop := PE X e (lift X.K Γ W T)
abbrev PT3 (X : Cx) (Γ : Gm) (W : WX) (e : Expr) (T : TT3) : Prop := PT X e (liftT X.K Γ W T)
abbrev PTs3 (X : Cx) (Γ : Gm) (W : WX) (e : List Expr) (T : TT3) : Prop := PTs X e (liftT X.K Γ W T)
abbrev PA3 (X : Cx) (Γ : Gm) (W : WX) (es : List Expr) (T : TA3) : Prop := PA X es (liftA X.K Γ W T)
abbrev PG3 (X : Cx) (Γ : Gm) (W : WX) (e : Expr) (T : TG3) : Prop := PG X e (liftG X.K Γ W T)
abbrev PGs3 (X : Cx) (Γ : Gm) (W : WX) (es : List Expr) (T : TGs3) : Prop := PGs X es (liftGs X.K Γ W T)
abbrev PS3 (X : Cx) (Γ : Gm) (W : WX) (st : Stmt) (T : TS3) : Prop := PS X st (liftS X.K Γ W T)
abbrev PSs3 (X : Cx) (Γ : Gm) (W : WX) (st : List Stmt) (T : TS3) : Prop := PSs X st (liftS X.K Γ W T)

section
variable {X : Cx} {e : Expr}
theorem pe_imp {t t' : TE} (h : PE X e t) (f : ∀ σ H Q, t' σ H Q → t σ H Q) : PE X e t' := ⟨fun pins s σ H Q I hw => h.run pins s σ H Q I (f _ _ _ hw)⟩
theorem pt_imp {t t' : TT} (h : PT X e t) (f : ∀ σ H Q, t' σ H Q → t σ H Q) : PT X e t' := ⟨fun pins s σ H Q I hw => h.run pins s σ H Q I (f _ _ _ hw)⟩
theorem pw_imp {t t' : TT} (h : PW X e t) (f : ∀ σ H Q, t' σ H Q → t σ H Q) : PW X e t' := ⟨fun wh pins s σ H Q I hw => h.run wh pins s σ H Q I (f _ _ _ hw)⟩
theorem pts_imp {es : List Expr} {t t' : TT} (h : PTs X es t) (f : ∀ σ H Q, t' σ H Q → t σ H Q) : PTs X es t' := ⟨fun pins s σ H Q I hw => h.run pins s σ H Q I (f _ _ _ hw)⟩
theorem pa_imp {es : List Expr} {t t' : TA} (h : PA X es t) (f : ∀ σ H Q, t' σ H Q → t σ H Q) : PA X es t' := ⟨fun pos pins s σ H Q I hw => h.run pos pins s σ H Q I (f _ _ _ hw)⟩
theorem pg_imp {t t' : TG} (h : PG X e t) (f : ∀ v σ H Q, t' v σ H Q → t v σ H Q) : PG X e t' := ⟨fun pins s σ H v u Q I r hw => h.run pins s σ H v u Q I r (f _ _ _ _ hw)⟩
theorem pgs_imp {es : List Expr} {t t' : TGs} (h : PGs X es t) (f : ∀ v σ H Q, t' v σ H Q → t v σ H Q) : PGs X es t' := ⟨fun pins s σ H v u Q I r hw => h.run pins s σ H v u Q I r (f _ _ _ _ hw)⟩
theorem ps_imp {st : Stmt} {t t' : TS} (h : PS X st t) (f : ∀ D σ H, t' D σ H → t D σ H) : PS X st t' := ⟨fun pins s σ H D I hw => h.run pins s σ H D I (f _ _ _ hw)⟩
theorem pss_imp {st : List Stmt} {t t' : TS} (h : PSs X st t) (f : ∀ D σ H, t' D σ H → t D σ H) : PSs X st t' := ⟨fun pins s σ H D I hw => h.run pins s σ H D I (f _ _ _ hw)⟩
end

section
variable {K : PySem.W.Frag} {Γ : Gm} {W : WX} {H H' H1 : Hp} {G G' G1 : Gp} {δ : St3} {σ : L2.St}
theorem Rel.mono (R : Rel K Γ δ G σ H) (s : Step K H G H' G') (hp : HpR K Γ H' G') : Rel K Γ δ G' σ H' :=
  ⟨R.len, fun i d e => let ⟨v, h1, h2⟩ := R.get i d e; ⟨v, h1, h2.mono s⟩, hp⟩
theorem Rel.set {i : Nat} {d : D} {v : V} (R : Rel K Γ δ G σ H) (h : Dat K Γ H G d v) : Rel K Γ (δ.set i (some d)) G (σ.set i (some v)) H := by
  refine ⟨by simp [R.len], fun j u e => ?_, R.hp⟩
  by_cases hj : i = j
  · subst hj
    have hi : i < δ.length := by
      have := (List.getElem?_eq_some_iff.mp e).1
      simpa using this
    rw [List.getElem?_set_self hi] at e
    cases e
    exact ⟨v, List.getElem?_set_self (by rw [← R.len]; exact hi), h⟩
  · rw [List.getElem?_set_ne hj] at e ⊢
    exact R.get j u e
end

/-! ### names, constants -/
section
variable {X : Cx} {Γ : Gm} {W : WX} {e a b c : Expr} {pos : Pos}
@[simp] def TVar (i : Nat) : TE3 := fun δ G Q _ => match slot δ i with | some d => Q d G | none => False
@[simp] def TC (d : D) : TE3 := fun _ G Q _ => Q d G
theorem pe3_var {i : Nat} {x : Str} (hN : X.N[i]? = some x := by rfl) (hv : Vis X.env.scope x := by first | exact Or.inl rfl | exact Or.inr (Or.inl rfl) | exact Or.inr (Or.inr rfl)) (hd : (x == ("__debug__" : Str)) = false := by decide)
    (hcd : (x == ("__classdict__" : Str)) = false := by decide) : PE3 X Γ W (.Name x pos) (TVar i) := by
  refine pe_imp (pe_var hN hv hd hcd) fun σ H Q hw => ?_
  obtain ⟨δ, G, Q3, E3, R, h, k, _⟩ := hw
  unfold TVar at h
  split at h
  · rename_i d he
    obtain ⟨v, h1, h2⟩ := R.get i d (slot_get he)
    exact ⟨v, h1, k d v G H Step.refl R.hp h2 h⟩
  · exact h.elim
theorem pe3_const {d : D} {v : V} (h : PE X e (tC v)) (hd : ∀ H G, HpR X.K Γ H G → Dat X.K Γ H G d v) : PE3 X Γ W e (TC d) :=
  pe_imp h fun σ H Q ⟨δ, G, Q3, E3, R, h, k, _⟩ => k d v G H Step.refl R.hp (hd H G R.hp) h
theorem pe3_int {i : Int} {j : Nat} : PE3 X Γ W (.Constant (.int i) j pos) (TC (.int i)) := pe3_const pe_int fun _ _ _ => rfl
theorem pe3_str {x : Str} {j : Nat} : PE3 X Γ W (.Constant (.str x) j pos) (TC (.str x)) := pe3_const pe_str fun _ _ _ => rfl
theorem pe3_bl {x : Bool} {j : Nat} : PE3 X Γ W (.Constant (.bool x) j pos) (TC (.bl x)) := pe3_const pe_bl fun _ _ _ => rfl
theorem pe3_non {j : Nat} : PE3 X Γ W (.Constant .none j pos) (TC .non) := pe3_const pe_non fun _ _ _ => rfl
/-- a constant of the module -/
theorem pe3_glob {x : Str} {u : Value} {v : V} {d : D} (hg : Gl X x) (hm : X.mg x = some u) (r : RelV v u) (hd : ∀ H G, Dat X.K Γ H G d v) (hdb : (x == ("__debug__" : Str)) = false := by decide) : PE3 X Γ W (.Name x pos) (TC d) :=
  pe3_const (pe_glob hg hm r hdb) fun H G _ => hd H G

/-! ### operators by data -/
abbrev R3 := D → D → Gp → K3 → Prop
abbrev U3 := D → Gp → K3 → Prop
/-- r3 tells of data what r asks of values -/
def Sound2 (K : PySem.W.Frag) (Γ : Gm) (r : R2) (r3 : R3) : Prop := ∀ x y v u H G Q3 Q, HpR K Γ H G → Dat K Γ H G x v → Dat K Γ H G y u → r3 x y (vis G) Q3 →
  (∀ d w G' H', Step K H G H' G' → HpR K Γ H' G' → Dat K Γ H' G' d w → Q3 d (vis G') → Q w H') → r v u H Q
def Sound1 (K : PySem.W.Frag) (Γ : Gm) (r : V → Hp → VK → Prop) (r3 : U3) : Prop := ∀ x v H G Q3 Q, HpR K Γ H G → Dat K Γ H G x v → r3 x (vis G) Q3 →
  (∀ d w G' H', Step K H G H' G' → HpR K Γ H' G' → Dat K Γ H' G' d w → Q3 d (vis G') → Q w H') → r v H Q
def SoundN (K : PySem.W.Frag) (Γ : Gm) (r : List V → Hp → VK → Prop) (r3 : List D → Gp → K3 → Prop) : Prop := ∀ xs vs H G Q3 Q, HpR K Γ H G → DatL K Γ H G xs vs → r3 xs (vis G) Q3 →
  (∀ d w G' H', Step K H G H' G' → HpR K Γ H' G' → Dat K Γ H' G' d w → Q3 d (vis G') → Q w H') → r vs H Q
@[simp] def TOp (r : R3) (ta tb : TE3) : TE3 := fun δ G Q E => ta δ G (fun x G1 => tb δ G1 (fun y G2 => r x y G2 Q) E) E
@[simp] def TUn (r : U3) (ta : TE3) : TE3 := fun δ G Q E => ta δ G (fun x G1 => r x G1 Q) E
theorem op_sound {r : R2} {r3 : R3} {ta tb : TE3} (h : Sound2 X.K Γ r r3) {σ : L2.St} {H : Hp} {Q : VK} (hw : lift X.K Γ W (TOp r3 ta tb) σ H Q) : tOp r (lift X.K Γ W ta) (lift X.K Γ W tb) σ H Q := by
  obtain ⟨δ, G, Q3, E3, R, h1, k, ke⟩ := hw
  refine ⟨δ, G, _, E3, R, h1, fun x v G1 H1 s1 hp1 dx q1 => ?_, ke⟩
  refine ⟨δ, G1, _, E3, R.mono s1 hp1, q1, fun y u G2 H2 s2 hp2 dy q2 => ?_, fun cls G' H' s' hp' q' => ke cls G' H' (s1.trans s') hp' q'⟩
  exact h x y v u H2 G2 _ _ hp2 (dx.mono s2) dy q2 fun d w G' H' s3 hp3 dw q3 => k d w G' H' ((s1.trans s2).trans s3) hp3 dw q3
theorem un_sound {r : V → Hp → VK → Prop} {r3 : U3} {ta : TE3} (h : Sound1 X.K Γ r r3) {σ : L2.St} {H : Hp} {Q : VK} (hw : lift X.K Γ W (TUn r3 ta) σ H Q) : tUn r (lift X.K Γ W ta) σ H Q := by
  obtain ⟨δ, G, Q3, E3, R, h1, k, ke⟩ := hw
  refine ⟨δ, G, _, E3, R, h1, fun x v G1 H1 s1 hp1 dx q1 => ?_, ke⟩
  exact h x v H1 G1 _ _ hp1 dx q1 fun d w G' H' s3 hp3 dw q3 => k d w G' H' (s1.trans s3) hp3 dw q3
theorem pe3_op {op : Operator} {r : R2} {r3 : R3} {ta tb : TE3} (ho : OpR X (binaryOp op) r) (hs : Sound2 X.K Γ r r3) (ha : PE3 X Γ W a ta) (hb : PE3 X Γ W b tb) : PE3 X Γ W (.BinOp a op b pos) (TOp r3 ta tb) :=
  pe_imp (pe_op ho ha hb) fun _ _ _ hw => op_sound hs hw
theorem pe3_un {op : UnaryOp} {r : V → Hp → VK → Prop} {r3 : U3} {ta : TE3} (ho : UnR X (unaryOp op) r) (hs : Sound1 X.K Γ r r3) (ha : PE3 X Γ W a ta) : PE3 X Γ W (.UnaryOp op a pos) (TUn r3 ta) :=
  pe_imp (pe_un ho ha) fun _ _ _ hw => un_sound hs hw
theorem pe3_cmp {op : CmpOp} {r : R2} {r3 : R3} {ta tb : TE3} (ho : OpR X (compareOp op) r) (hs : Sound2 X.K Γ r r3) (ha : PE3 X Γ W a ta) (hb : PE3 X Γ W b tb) (hm : behindInMarks op b = false) : PE3 X Γ W (.Compare a [op] [b] pos) (TOp r3 ta tb) :=
  pe_imp (pe_cmpR ho ha hb hm) fun _ _ _ hw => op_sound hs hw
@[simp] def TTest (t : TE3) : TT3 := fun δ G Q E => t δ G (fun d G' => match d with | .bl k => Q k G' | _ => False) E
theorem test_sound {t : TE3} {σ : L2.St} {H : Hp} {Q : Bool → Hp → Prop} (hw : liftT X.K Γ W (TTest t) σ H Q) : tTest (lift X.K Γ W t) σ H Q := by
  obtain ⟨δ, G, Q3, E3, R, h1, k, ke⟩ := hw
  refine ⟨δ, G, _, E3, R, h1, fun d v G1 H1 s1 hp1 dx q1 => ?_, ke⟩
  cases d with
  | bl b => exact ⟨b, dx, k b G1 H1 s1 hp1 q1⟩
  | _ => exact q1.elim
theorem pt3_cmp {op : CmpOp} {r : R2} {r3 : R3} {ta tb : TE3} (ho : OpR X (compareOp op) r) (hs : Sound2 X.K Γ r r3) (ha : PE3 X Γ W a ta) (hb : PE3 X Γ W b tb) (hm : behindInMarks op b = false) : PT3 X Γ W (.Compare a [op] [b] pos) (TTest (TOp r3 ta tb)) := by
  refine pt_imp (pt_cmpR ho ha hb hm) fun σ H Q hw => ?_
  have h2 := test_sound hw
  exact op_sound (W := W) hs h2
/-- a value that is a bool, as a test -/
theorem pt3_val {t : TE3} (h : PE3 X Γ W e t) (he : ∀ whole, isTrue e X.env whole = (do let v ← whole; standAt e.pos; holding [v] (truthy v)) := by intro _; rfl) : PT3 X Γ W e (TTest t) :=
  pt_imp (pt_val h he) fun _ _ _ hw => test_sound hw
end

/-! ### and, or, not, if .. else -/
section
variable {X : Cx} {Γ : Gm} {W : WX} {e a b c : Expr} {pos : Pos} {rest : List Expr} {ta tb tc : TE3} {t u : TT3}
@[simp] def TAnd (t u : TT3) : TT3 := fun δ G Q E => t δ G (fun c G1 => if c = true then u δ G1 Q E else Q false G1) E
@[simp] def TOr (t u : TT3) : TT3 := fun δ G Q E => t δ G (fun c G1 => if c = true then Q true G1 else u δ G1 Q E) E
@[simp] def TNot (t : TT3) : TT3 := fun δ G Q E => t δ G (fun c G1 => Q (!c) G1) E
abbrev PW3 (X : Cx) (Γ : Gm) (W : WX) (e : Expr) (T : TT3) : Prop := PW X e (liftT X.K Γ W T)
theorem PW3.pt (h : PW3 X Γ W e t) : PT3 X Γ W e t := PW.pt h
theorem pw3_and1 (ha : PT3 X Γ W a t) : PW3 X Γ W (.BoolOp .And [a] pos) t := pw_and1 ha
theorem pw3_or1 (ha : PT3 X Γ W a t) : PW3 X Γ W (.BoolOp .Or [a] pos) t := pw_or1 ha
theorem pw3_and (ha : PT3 X Γ W a t) (hb : PW3 X Γ W (.BoolOp .And (b :: rest) pos) u) : PW3 X Γ W (.BoolOp .And (a :: b :: rest) pos) (TAnd t u) := by
  refine pw_imp (pw_and ha hb) fun σ H Q ⟨δ, G, Q3, E3, R, h1, k, ke⟩ => ?_
  refine ⟨δ, G, _, E3, R, h1, fun c G1 H1 s1 hp1 q1 => ?_, ke⟩
  cases c with
  | true => exact ⟨δ, G1, Q3, E3, R.mono s1 hp1, q1, fun b G' H' s' => k b G' H' (s1.trans s'), fun cls G' H' s' => ke cls G' H' (s1.trans s')⟩
  | false => exact k false G1 H1 s1 hp1 q1
theorem pw3_or (ha : PT3 X Γ W a t) (hb : PW3 X Γ W (.BoolOp .Or (b :: rest) pos) u) : PW3 X Γ W (.BoolOp .Or (a :: b :: rest) pos) (TOr t u) := by
  refine pw_imp (pw_or ha hb) fun σ H Q ⟨δ, G, Q3, E3, R, h1, k, ke⟩ => ?_
  refine ⟨δ, G, _, E3, R, h1, fun c G1 H1 s1 hp1 q1 => ?_, ke⟩
  cases c with
  | false => exact ⟨δ, G1, Q3, E3, R.mono s1 hp1, q1, fun b G' H' s' => k b G' H' (s1.trans s'), fun cls G' H' s' => ke cls G' H' (s1.trans s')⟩
  | true => exact k true G1 H1 s1 hp1 q1
theorem pt3_not (ha : PT3 X Γ W a t) : PT3 X Γ W (.UnaryOp .Not a pos) (TNot t) :=
  pt_imp (pt_not ha) fun σ H Q ⟨δ, G, Q3, E3, R, h1, k, ke⟩ => ⟨δ, G, _, E3, R, h1, fun c G1 H1 s1 hp1 q1 => k (!c) G1 H1 s1 hp1 q1, ke⟩
@[simp] def TAndV (ta tb : TE3) : TE3 := fun δ G Q E => ta δ G (fun x G1 => match x with | .bl true => tb δ G1 Q E | .bl false => Q (.bl false) G1 | _ => False) E
@[simp] def TOrV (ta tb : TE3) : TE3 := fun δ G Q E => ta δ G (fun x G1 => match x with | .bl true => Q (.bl true) G1 | .bl false => tb δ G1 Q E | _ => False) E
@[simp] def TNotV (ta : TE3) : TE3 := fun δ G Q E => ta δ G (fun x G1 => match x with | .bl k => Q (.bl (!k)) G1 | _ => False) E
theorem pe3_one {op} (h : PE3 X Γ W a ta) : PE3 X Γ W (.BoolOp op [a] pos) ta := pe_one h
theorem pe3_and (ha : PE3 X Γ W a ta) (hb : PE3 X Γ W (.BoolOp .And (b :: rest) pos) tb) : PE3 X Γ W (.BoolOp .And (a :: b :: rest) pos) (TAndV ta tb) := by
  refine pe_imp (pe_and ha hb) fun σ H Q ⟨δ, G, Q3, E3, R, h1, k, ke⟩ => ?_
  refine ⟨δ, G, _, E3, R, h1, fun x v G1 H1 s1 hp1 dx q1 => ?_, ke⟩
  cases x with
  | bl c =>
    refine ⟨c, dx, ?_⟩
    cases c with
    | true => exact ⟨δ, G1, Q3, E3, R.mono s1 hp1, q1, fun b v G' H' s' => k b v G' H' (s1.trans s'), fun cls G' H' s' => ke cls G' H' (s1.trans s')⟩
    | false => exact k (.bl false) _ G1 H1 s1 hp1 rfl q1
  | _ => exact q1.elim
theorem pe3_or (ha : PE3 X Γ W a ta) (hb : PE3 X Γ W (.BoolOp .Or (b :: rest) pos) tb) : PE3 X Γ W (.BoolOp .Or (a :: b :: rest) pos) (TOrV ta tb) := by
  refine pe_imp (pe_or ha hb) fun σ H Q ⟨δ, G, Q3, E3, R, h1, k, ke⟩ => ?_
  refine ⟨δ, G, _, E3, R, h1, fun x v G1 H1 s1 hp1 dx q1 => ?_, ke⟩
  cases x with
  | bl c =>
    refine ⟨c, dx, ?_⟩
    cases c with
    | false => exact ⟨δ, G1, Q3, E3, R.mono s1 hp1, q1, fun b v G' H' s' => k b v G' H' (s1.trans s'), fun cls G' H' s' => ke cls G' H' (s1.trans s')⟩
    | true => exact k (.bl true) _ G1 H1 s1 hp1 rfl q1
  | _ => exact q1.elim
theorem pe3_not (ha : PE3 X Γ W a ta) : PE3 X Γ W (.UnaryOp .Not a pos) (TNotV ta) := by
  refine pe_imp (pe_not ha) fun σ H Q ⟨δ, G, Q3, E3, R, h1, k, ke⟩ => ?_
  refine ⟨δ, G, _, E3, R, h1, fun x v G1 H1 s1 hp1 dx q1 => ?_, ke⟩
  cases x with
  | bl c => exact ⟨c, dx, k (.bl (!c)) _ G1 H1 s1 hp1 rfl q1⟩
  | _ => exact q1.elim
@[simp] def TIf (t : TT3) (ta tb : TE3) : TE3 := fun δ G Q E => t δ G (fun c G1 => if c = true then ta δ G1 Q E else tb δ G1 Q E) E
theorem pe3_ifExp (hc : PT3 X Γ W c t) (ha : PE3 X Γ W a ta) (hb : PE3 X Γ W b tb) : PE3 X Γ W (.IfExp c a b pos) (TIf t ta tb) := by
  refine pe_imp (pe_ifExp hc ha hb) fun σ H Q ⟨δ, G, Q3, E3, R, h1, k, ke⟩ => ?_
  refine ⟨δ, G, _, E3, R, h1, fun c G1 H1 s1 hp1 q1 => ?_, ke⟩
  cases c with
  | true => exact ⟨δ, G1, Q3, E3, R.mono s1 hp1, q1, fun b v G' H' s' => k b v G' H' (s1.trans s'), fun cls G' H' s' => ke cls G' H' (s1.trans s')⟩
  | false => exact ⟨δ, G1, Q3, E3, R.mono s1 hp1, q1, fun b v G' H' s' => k b v G' H' (s1.trans s'), fun cls G' H' s' => ke cls G' H' (s1.trans s')⟩
/-- a < b < c -/
@[simp] def TChain (r r' : R3) (ta tb tc : TE3) : TE3 := fun δ G Q E => ta δ G (fun x G1 => tb δ G1 (fun y G2 => r x y G2 fun z G3 => match z with | .bl true => tc δ G3 (fun w G4 => r' y w G4 Q) E | .bl false => Q (.bl false) G3 | _ => False) E) E
theorem chain_sound {r r' : R2} {r3 r3' : R3} (hs : Sound2 X.K Γ r r3) (hs' : Sound2 X.K Γ r' r3') {σ : L2.St} {H : Hp} {Q : VK} (hw : lift X.K Γ W (TChain r3 r3' ta tb tc) σ H Q) :
    tChain r r' (lift X.K Γ W ta) (lift X.K Γ W tb) (lift X.K Γ W tc) σ H Q := by
  obtain ⟨δ, G, Q3, E3, R, h1, k, ke⟩ := hw
  refine ⟨δ, G, _, E3, R, h1, fun x v G1 H1 s1 hp1 dx q1 => ?_, ke⟩
  refine ⟨δ, G1, _, E3, R.mono s1 hp1, q1, fun y u G2 H2 s2 hp2 dy q2 => ?_, fun cls G' H' s' hp' q' => ke cls G' H' (s1.trans s') hp' q'⟩
  refine hs x y v u H2 G2 _ _ hp2 (dx.mono s2) dy q2 fun d w G' H' s3 hp3 dw q3 => ?_
  cases d with
  | bl z =>
    refine ⟨z, dw, ?_⟩
    cases z with
    | true =>
      refine ⟨δ, G', _, E3, R.mono ((s1.trans s2).trans s3) hp3, q3, fun y' u' G4 H4 s4 hp4 dy' q4 => ?_, fun cls G5 H5 s5 hp5 q5 => ke cls G5 H5 (((s1.trans s2).trans s3).trans s5) hp5 q5⟩
      exact hs' y y' u u' H4 G4 _ _ hp4 ((dy.mono s3).mono s4) dy' q4 fun d5 w5 G5 H5 s5 hp5 dw5 q5 => k d5 w5 G5 H5 ((((s1.trans s2).trans s3).trans s4).trans s5) hp5 dw5 q5
    | false => exact k (.bl false) _ G' H' ((s1.trans s2).trans s3) hp3 rfl q3
  | _ => exact q3.elim
theorem pe3_chain {op op' : CmpOp} {r r' : R2} {r3 r3' : R3} (ho : OpR X (compareOp op) r) (ho' : OpR X (compareOp op') r') (hs : Sound2 X.K Γ r r3) (hs' : Sound2 X.K Γ r' r3') (ha : PE3 X Γ W a ta) (hb : PE3 X Γ W b tb) (hc : PE3 X Γ W c tc)
    (hm : lastMarks [op, op'] [b, c] = false := by with_unfolding_all rfl) : PE3 X Γ W (.Compare a [op, op'] [b, c] pos) (TChain r3 r3' ta tb tc) :=
  pe_imp (pe_chain ho ho' ha hb hc hm) fun _ _ _ hw => chain_sound hs hs' hw
theorem pt3_chain {op op' : CmpOp} {r r' : R2} {r3 r3' : R3} (ho : OpR X (compareOp op) r) (ho' : OpR X (compareOp op') r') (hs : Sound2 X.K Γ r r3) (hs' : Sound2 X.K Γ r' r3') (ha : PE3 X Γ W a ta) (hb : PE3 X Γ W b tb) (hc : PE3 X Γ W c tc)
    (hm : lastMarks [op, op'] [b, c] = false := by with_unfolding_all rfl) : PT3 X Γ W (.Compare a [op, op'] [b, c] pos) (TTest (TChain r3 r3' ta tb tc)) := by
  refine pt_imp (pt_chain ho ho' ha hb hc hm) fun σ H Q hw => ?_
  have h2 := test_sound hw
  exact chain_sound (W := W) hs hs' h2
end
end L3
/-! L3, part c: operators, comparisons, displays, items, slices, calls of built-ins. -/
namespace L3
open PySem L2

/-! ### data that == may look at -/
mutual
def py : D → PyData
  | .non => .none
  | .bl b => .bool b
  | .int i => .int i
  | .str x => .str x
  | .ref _ => .none
  | .clo _ => .none
  | .nod .tup xs => .tuple (pyL xs)
  | .nod .tuF xs => .tuple (pyL xs)
  | .nod .lst xs => .list (pyL xs)
  | .nod _ _ => .none
def pyL : List D → List PyData
  | [] => []
  | d :: ds => py d :: pyL ds
end
theorem pyL_map : ∀ ds : List D, pyL ds = ds.map py
  | [] => rfl
  | d :: ds => by rw [List.map_cons, ← pyL_map ds]; rfl
/-- plain data (no owned things, dicts, objects), at most so deep -/
def gd : Nat → D → Bool
  | _, .non => true
  | _, .bl _ => true
  | _, .int _ => true
  | _, .str x => PyData.strOk x
  | n + 1, .nod .tup xs => xs.all (gd n)
  | n + 1, .nod .tuF xs => xs.all (gd n)
  | n + 1, .nod .lst xs => xs.all (gd n)
  | _, _ => false
theorem gd_py : ∀ (n : Nat) (d : D), gd n d = true → PyData.canLay0 (py d) = true ∧ (py d).depth ≤ n
  | _, .non, _ => ⟨by simp [py, PyData.canLay0], by simp [py, PyData.depth]⟩
  | _, .bl _, _ => ⟨by simp [py, PyData.canLay0], by simp [py, PyData.depth]⟩
  | _, .int _, _ => ⟨by simp [py, PyData.canLay0], by simp [py, PyData.depth]⟩
  | _, .str x, h => ⟨by simpa [py, PyData.canLay0, gd] using h, by simp [py, PyData.depth]⟩
  | n + 1, .nod .tup xs, h => by
    have q : ∀ ds : List D, (∀ d ∈ ds, gd n d = true) → PyData.canLayAll0 (pyL ds) = true ∧ PyData.depthAll (pyL ds) ≤ n := fun ds => by
      induction ds with
      | nil => intro _; exact ⟨by simp [pyL, PyData.canLayAll0], by simp [pyL, PyData.depthAll]⟩
      | cons d ds ih =>
        intro hd
        obtain ⟨a1, a2⟩ := gd_py n d (hd d (List.mem_cons_self ..))
        obtain ⟨b1, b2⟩ := ih fun e he => hd e (List.mem_cons_of_mem _ he)
        exact ⟨by simp [pyL, PyData.canLayAll0, a1, b1], by simp only [pyL, PyData.depthAll]; omega⟩
    obtain ⟨q1, q2⟩ := q xs (by simpa [gd, List.all_eq_true] using h)
    exact ⟨by simp [py, PyData.canLay0, q1], by simp only [py, PyData.depth]; omega⟩
  | n + 1, .nod .tuF xs, h => by
    have q : ∀ ds : List D, (∀ d ∈ ds, gd n d = true) → PyData.canLayAll0 (pyL ds) = true ∧ PyData.depthAll (pyL ds) ≤ n := fun ds => by
      induction ds with
      | nil => intro _; exact ⟨by simp [pyL, PyData.canLayAll0], by simp [pyL, PyData.depthAll]⟩
      | cons d ds ih =>
        intro hd
        obtain ⟨a1, a2⟩ := gd_py n d (hd d (List.mem_cons_self ..))
        obtain ⟨b1, b2⟩ := ih fun e he => hd e (List.mem_cons_of_mem _ he)
        exact ⟨by simp [pyL, PyData.canLayAll0, a1, b1], by simp only [pyL, PyData.depthAll]; omega⟩
    obtain ⟨q1, q2⟩ := q xs (by simpa [gd, List.all_eq_true] using h)
    exact ⟨by simp [py, PyData.canLay0, q1], by simp only [py, PyData.depth]; omega⟩
  | n + 1, .nod .lst xs, h => by
    have q : ∀ ds : List D, (∀ d ∈ ds, gd n d = true) → PyData.canLayAll0 (pyL ds) = true ∧ PyData.depthAll (pyL ds) ≤ n := fun ds => by
      induction ds with
      | nil => intro _; exact ⟨by simp [pyL, PyData.canLayAll0], by simp [pyL, PyData.depthAll]⟩
      | cons d ds ih =>
        intro hd
        obtain ⟨a1, a2⟩ := gd_py n d (hd d (List.mem_cons_self ..))
        obtain ⟨b1, b2⟩ := ih fun e he => hd e (List.mem_cons_of_mem _ he)
        exact ⟨by simp [pyL, PyData.canLayAll0, a1, b1], by simp only [pyL, PyData.depthAll]; omega⟩
    obtain ⟨q1, q2⟩ := q xs (by simpa [gd, List.all_eq_true] using h)
    exact ⟨by simp [py, PyData.canLay0, q1], by simp only [py, PyData.depth]; omega⟩
  | 0, .nod .tup _, h => by simp [gd] at h
  | 0, .nod .lst _, h => by simp [gd] at h
  | 0, .nod .ro _, h => by simp [gd] at h
  | 0, .nod .tuK _, h => by simp [gd] at h
  | 0, .nod .tuF _, h => by simp [gd] at h
  | 0, .nod (.dK _) _, h => by simp [gd] at h
  | 0, .nod (.dT _) _, h => by simp [gd] at h
  | 0, .nod (.obj _ _) _, h => by simp [gd] at h
  | n + 1, .nod .ro _, h => by simp [gd] at h
  | n + 1, .nod .tuK _, h => by simp [gd] at h
  | n + 1, .nod (.dK _) _, h => by simp [gd] at h
  | n + 1, .nod (.dT _) _, h => by simp [gd] at h
  | n + 1, .nod (.obj _ _) _, h => by simp [gd] at h
  | 0, .ref _, h => by simp [gd] at h
  | n + 1, .ref _, h => by simp [gd] at h
  | 0, .clo _, h => by simp [gd] at h
  | n + 1, .clo _, h => by simp [gd] at h
theorem gd_shaped {n : Nat} {d : D} (h : gd n d = true) (hn : n ≤ 64 := by decide) : SeqAt.shaped (py d) = true := by
  obtain ⟨a, b⟩ := gd_py n d h
  unfold SeqAt.shaped
  rw [a, Bool.true_and]
  exact decide_eq_true (Nat.le_trans b hn)
section
variable {K : PySem.W.Frag} {Γ : Gm} {H : Hp} {G : Gp}
theorem dat_dp : ∀ (n : Nat) (d : D) (v : V), gd n d = true → Dat K Γ H G d v → Dp K H v (py d)
  | n, .non, _, _, h => by cases n <;> (cases (show _ = _ from h); exact .non)
  | n, .bl b, _, _, h => by cases n <;> (cases (show _ = _ from h); exact .bl b)
  | n, .int i, _, _, h => by cases n <;> (cases (show _ = _ from h); exact .int i)
  | n, .str x, _, _, h => by cases n <;> (cases (show _ = _ from h); exact .str x)
  | n + 1, .nod .tup xs, v, g, h => by
    obtain ⟨a, vs, rfl, ht, hl⟩ := h
    have q : ∀ (ds : List D) (us : List V), (∀ d ∈ ds, gd n d = true) → DatL K Γ H G ds us → DpAll K H us (pyL ds) := fun ds => by
      induction ds with
      | nil => intro us _ z; cases (show _ = _ from z); exact .nil
      | cons d ds ih =>
        intro us hd z
        obtain ⟨v, r, rfl, z1, z2⟩ := z
        exact .cons (dat_dp n d v (hd d (List.mem_cons_self ..)) z1) (ih r (fun e he => hd e (List.mem_cons_of_mem _ he)) z2)
    exact .tup (SqT.of ht) (q xs vs (by simpa [gd, List.all_eq_true] using g) hl)
  | n + 1, .nod .tuF xs, v, g, h => by
    obtain ⟨a, vs, rfl, ht, hl⟩ := h
    have q : ∀ (ds : List D) (us : List V), (∀ d ∈ ds, gd n d = true) → DatL K Γ H G ds us → DpAll K H us (pyL ds) := fun ds => by
      induction ds with
      | nil => intro us _ z; cases (show _ = _ from z); exact .nil
      | cons d ds ih =>
        intro us hd z
        obtain ⟨v, r, rfl, z1, z2⟩ := z
        exact .cons (dat_dp n d v (hd d (List.mem_cons_self ..)) z1) (ih r (fun e he => hd e (List.mem_cons_of_mem _ he)) z2)
    exact .tup (let ⟨_, o, e, _⟩ := ht; .inl (.inr ⟨o, e⟩)) (q xs vs (by simpa [gd, List.all_eq_true] using g) hl)
  | n + 1, .nod .lst xs, v, g, h => by
    obtain ⟨a, vs, rfl, ht, hl⟩ := h
    have q : ∀ (ds : List D) (us : List V), (∀ d ∈ ds, gd n d = true) → DatL K Γ H G ds us → DpAll K H us (pyL ds) := fun ds => by
      induction ds with
      | nil => intro us _ z; cases (show _ = _ from z); exact .nil
      | cons d ds ih =>
        intro us hd z
        obtain ⟨v, r, rfl, z1, z2⟩ := z
        exact .cons (dat_dp n d v (hd d (List.mem_cons_self ..)) z1) (ih r (fun e he => hd e (List.mem_cons_of_mem _ he)) z2)
    exact .lst (SqL.of ht.2) (q xs vs (by simpa [gd, List.all_eq_true] using g) hl)
  | 0, .nod .tup _, _, h, _ => by simp [gd] at h
  | 0, .nod .lst _, _, h, _ => by simp [gd] at h
  | 0, .nod .ro _, _, h, _ => by simp [gd] at h
  | 0, .nod .tuK _, _, h, _ => by simp [gd] at h
  | 0, .nod .tuF _, _, h, _ => by simp [gd] at h
  | 0, .nod (.dK _) _, _, h, _ => by simp [gd] at h
  | 0, .nod (.dT _) _, _, h, _ => by simp [gd] at h
  | 0, .nod (.obj _ _) _, _, h, _ => by simp [gd] at h
  | n + 1, .nod .ro _, _, h, _ => by simp [gd] at h
  | n + 1, .nod .tuK _, _, h, _ => by simp [gd] at h
  | n + 1, .nod (.dK _) _, _, h, _ => by simp [gd] at h
  | n + 1, .nod (.dT _) _, _, h, _ => by simp [gd] at h
  | n + 1, .nod (.obj _ _) _, _, h, _ => by simp [gd] at h
  | 0, .ref _, _, h, _ => by simp [gd] at h
  | n + 1, .ref _, _, h, _ => by simp [gd] at h
  | 0, .clo _, _, h, _ => by simp [gd] at h
  | n + 1, .clo _, _, h, _ => by simp [gd] at h
end
def eq3 (x y : D) : Bool := PyData.eqv (py x) (py y)

/-! ### arithmetic -/
@[simp] def addR : R3 := fun x y G Q => match x, y with
  | .int i, .int j => Q (.int (i + j)) G
  | .str s, .str t => s.length + t.length ≤ sizeLine ∧ Q (.str (s ++ t)) G
  | .nod .tup xs, .nod .tup ys => xs ≠ [] ∧ xs.length + ys.length ≤ sizeLine ∧ Q (.tup (xs ++ ys)) G
  | .nod .lst xs, .nod .lst ys => xs.length + ys.length ≤ sizeLine ∧ Q (.lst (xs ++ ys)) G
  | _, _ => False
@[simp] def subR : R3 := fun x y G Q => match x, y with | .int i, .int j => Q (.int (i - j)) G | _, _ => False
@[simp] def mulR : R3 := fun x y G Q => match x, y with
  | .int i, .int j => CMul i j ∧ Q (.int (i * j)) G
  | .nod .lst xs, .int k => -(2 ^ 63) ≤ k ∧ k < 2 ^ 63 ∧ xs.length * k.toNat ≤ sizeLine ∧ Q (.lst (List.replicate k.toNat xs).flatten) G
  | _, _ => False
@[simp] def fdivR : R3 := fun x y G Q => match x, y with | .int i, .int j => CDiv i j ∧ Q (.int (i / j)) G | _, _ => False
@[simp] def modR : R3 := fun x y G Q => match x, y with | .int i, .int j => 0 < j ∧ Q (.int (i % j)) G | _, _ => False
@[simp] def powR : R3 := fun x y G Q => match x, y with | .int i, .int j => CPow i j ∧ Q (.int (i ^ j.toNat)) G | _, _ => False
@[simp] def ltR : R3 := fun x y G Q => match x, y with | .int i, .int j => Q (.bl (decide (i < j))) G | .str s, .str t => Q (.bl (decide (s.cps.toList < t.cps.toList))) G | _, _ => False
@[simp] def leR : R3 := fun x y G Q => match x, y with | .int i, .int j => Q (.bl (decide (i ≤ j))) G | _, _ => False
@[simp] def gtR : R3 := fun x y G Q => match x, y with | .int i, .int j => Q (.bl (decide (j < i))) G | _, _ => False
@[simp] def geR : R3 := fun x y G Q => match x, y with | .int i, .int j => Q (.bl (decide (j ≤ i))) G | _, _ => False
def eqR : R3 := fun x y G Q => match x, y with
  | .int i, .int j => Q (.bl (decide (i = j))) G
  | .str s, .str t => Q (.bl (decide (s = t))) G
  | .bl a, .bl b => Q (.bl (decide (a = b))) G
  | x, y => gd 60 x = true ∧ gd 60 y = true ∧ Q (.bl (eq3 x y)) G
def neR : R3 := fun x y G Q => match x, y with
  | .int i, .int j => Q (.bl (!decide (i = j))) G
  | .str s, .str t => Q (.bl (!decide (s = t))) G
  | .bl a, .bl b => Q (.bl (!decide (a = b))) G
  | x, y => gd 60 x = true ∧ gd 60 y = true ∧ Q (.bl (!eq3 x y)) G
def isNR : R3 := fun x y G Q => match x, y with
  | .ref _, .non => Q (.bl false) G | .nod _ _, .non => Q (.bl false) G | .int _, .non => Q (.bl false) G | .str _, .non => Q (.bl false) G | .bl _, .non => Q (.bl false) G | .non, .non => Q (.bl true) G | _, _ => False
def isNotNR : R3 := fun x y G Q => match x, y with
  | .ref _, .non => Q (.bl true) G | .nod _ _, .non => Q (.bl true) G | .int _, .non => Q (.bl true) G | .str _, .non => Q (.bl true) G | .bl _, .non => Q (.bl true) G | .non, .non => Q (.bl false) G | _, _ => False

section
variable {K : PySem.W.Frag} {Γ : Gm}
theorem ret {H : Hp} {G : Gp} {d : D} {v : V} {Q3 : K3} {Q : VK} (k : ∀ d w G' H', Step K H G H' G' → HpR K Γ H' G' → Dat K Γ H' G' d w → Q3 d (vis G') → Q w H') (R : HpR K Γ H G) (q : Q3 d (vis G)) (hd : Dat K Γ H G d v) : Q v H := k d v G H Step.refl R hd q
theorem sound_ii {C : Int → Int → Prop} {g : Int → Int → V} {g3 : Int → Int → D} (hg : ∀ i j H G, Dat K Γ H G (g3 i j) (g i j)) :
    Sound2 K Γ (rI C g) (fun x y G Q => match x, y with | .int i, .int j => C i j ∧ Q (g3 i j) G | _, _ => False) := by
  intro x y v u H G Q3 Q R hx hy h k
  split at h
  · rename_i i j
    exact ⟨i, j, hx, hy, h.1, ret k R h.2 (hg i j H G)⟩
  · exact h.elim
theorem sound_ii0 {g : Int → Int → V} {g3 : Int → Int → D} (hg : ∀ i j H G, Dat K Γ H G (g3 i j) (g i j)) :
    Sound2 K Γ (rI0 g) (fun x y G Q => match x, y with | .int i, .int j => Q (g3 i j) G | _, _ => False) := by
  intro x y v u H G Q3 Q R hx hy h k
  split at h
  · rename_i i j
    exact ⟨i, j, hx, hy, ret k R h (hg i j H G)⟩
  · exact h.elim
/-- a new list by value -/
theorem new_lst {H : Hp} {G : Gp} {ys : List V} {ds : List D} {Q3 : K3} {Q : VK} {p : Addr} (R : HpR K Γ H G) (hp : H p = none) (hl : DatL K Γ H G ds ys)
    (k : ∀ d w G' H', Step K H G H' G' → HpR K Γ H' G' → Dat K Γ H' G' d w → Q3 d (vis G') → Q w H') (q : Q3 (.lst ds) (vis G)) : Q (.ref p) (upd H p (.lst ys)) :=
  k (.lst ds) _ G _ (Step.new hp) (R.new hp) ⟨p, ys, rfl, ⟨own_none R hp, upd_same⟩, hl.mono (Step.new hp)⟩ q
theorem new_tup {H : Hp} {G : Gp} {ys : List V} {ds : List D} {Q3 : K3} {Q : VK} {p : Addr} (R : HpR K Γ H G) (hp : H p = none) (hl : DatL K Γ H G ds ys)
    (k : ∀ d w G' H', Step K H G H' G' → HpR K Γ H' G' → Dat K Γ H' G' d w → Q3 d (vis G') → Q w H') (q : Q3 (.tup ds) (vis G)) : Q (.ref p) (upd H p (.tup ys)) :=
  k (.tup ds) _ G _ (Step.new hp) (R.new hp) ⟨p, ys, rfl, upd_same, hl.mono (Step.new hp)⟩ q
/-- a new list that is owned -/
theorem new_lstG {H : Hp} {G : Gp} {ys : List V} {ds : List D} {Q3 : K3} {Q : VK} {p : Addr} (R : HpR K Γ H G) (hp : H p = none) (hl : DatL K Γ H G ds ys)
    (k : ∀ d w G' H', Step K H G H' G' → HpR K Γ H' G' → Dat K Γ H' G' d w → Q3 d (vis G') → Q w H') (q : ∀ l, vis G l = none → Q3 (.ref l) (gset (vis G) l (.lst ds))) : Q (.ref p) (upd H p (.lst ys)) := by
  have st : Step K H G (upd H p (.lst ys)) (gset G p (.lst ds)) := Step.newG hp (own_none R hp)
  refine k (.ref p) _ (gset G p (.lst ds)) _ st (R.newG (g := .lst ds) hp ⟨ys, upd_same, hl.mono st⟩) rfl ?_
  rw [vis_gset (by intro z; cases z)]
  exact q p (vis_none (own_none R hp))
end

section
variable {X : Cx} {Γ : Gm} {W : WX} {e a b c : Expr} {pos : Pos} {ta tb tc : TE3}
abbrev rAdd2 (K : PySem.W.Frag) : R2 := fun x y H Q => rI0 (fun i j => .int (i + j)) x y H Q ∨ (∃ i j, x = .str i ∧ y = .str j ∧ i.length + j.length ≤ sizeLine ∧ Q (.str (i ++ j)) H) ∨ rCatT K x y H Q ∨ rCat x y H Q
theorem op_add2 : OpR X (binaryOp .Add) (rAdd2 X.K) := op_add.or (op_add_str.or (op_catT.or op_cat))
theorem sound_add : Sound2 X.K Γ (rAdd2 X.K) addR := by
  intro x y v u H G Q3 Q R hx hy h k
  unfold addR at h
  split at h
  · exact .inl ⟨_, _, hx, hy, ret k R h rfl⟩
  · exact .inr (.inl ⟨_, _, hx, hy, h.1, ret k R h.2 rfl⟩)
  · obtain ⟨p, xs, rfl, h1, l1⟩ := hx
    obtain ⟨q, ys, rfl, h2, l2⟩ := hy
    obtain ⟨h0, hz, h⟩ := h
    have hne : xs ≠ [] := fun z => by
      subst z
      have q := l1.length
      exact h0 (List.length_eq_zero_iff.mp q)
    refine .inr (.inr (.inl ⟨p, q, xs, ys, rfl, rfl, SqT.of h1, SqT.of h2, hne, by rw [← l1.length, ← l2.length]; exact hz, fun hy0 => ?_, fun hy0 t ht => new_tup R ht (l1.append l2) k h⟩))
    subst hy0
    have hd : (_ : List D) = [] := List.length_eq_zero_iff.mp l2.length
    rw [hd, List.append_nil] at h
    exact ret (d := .tup _) k R h ⟨p, xs, rfl, h1, l1⟩
  · obtain ⟨p, xs, rfl, h1, l1⟩ := hx
    obtain ⟨q, ys, rfl, h2, l2⟩ := hy
    exact .inr (.inr (.inr ⟨p, q, xs, ys, rfl, rfl, h1.2, h2.2, by rw [← l1.length, ← l2.length]; exact h.1, fun t ht => new_lst R ht (l1.append l2) k h.2⟩))
  · exact h.elim
theorem pe3_add (ha : PE3 X Γ W a ta) (hb : PE3 X Γ W b tb) : PE3 X Γ W (.BinOp a .Add b pos) (TOp addR ta tb) := pe3_op op_add2 sound_add ha hb
theorem pe3_sub (ha : PE3 X Γ W a ta) (hb : PE3 X Γ W b tb) : PE3 X Γ W (.BinOp a .Sub b pos) (TOp subR ta tb) := pe3_op op_sub (sound_ii0 fun _ _ _ _ => rfl) ha hb
theorem pe3_fdiv (ha : PE3 X Γ W a ta) (hb : PE3 X Γ W b tb) : PE3 X Γ W (.BinOp a .FloorDiv b pos) (TOp fdivR ta tb) := pe3_op op_fdiv (sound_ii fun _ _ _ _ => rfl) ha hb
theorem pe3_mod (ha : PE3 X Γ W a ta) (hb : PE3 X Γ W b tb) : PE3 X Γ W (.BinOp a .Mod b pos) (TOp modR ta tb) := pe3_op op_mod (sound_ii fun _ _ _ _ => rfl) ha hb
theorem pe3_pow (ha : PE3 X Γ W a ta) (hb : PE3 X Γ W b tb) : PE3 X Γ W (.BinOp a .Pow b pos) (TOp powR ta tb) := pe3_op op_pow (sound_ii fun _ _ _ _ => rfl) ha hb
theorem datL_rep {K : PySem.W.Frag} {H : Hp} {G : Gp} {ds : List D} {vs : List V} (h : DatL K Γ H G ds vs) : ∀ n : Nat, DatL K Γ H G (List.replicate n ds).flatten (List.replicate n vs).flatten
  | 0 => rfl
  | n + 1 => by rw [List.replicate_succ, List.flatten_cons, List.replicate_succ, List.flatten_cons]; exact h.append (datL_rep h n)
theorem sound_mul : Sound2 X.K Γ (fun x y H Q => rI CMul (fun i j => .int (i * j)) x y H Q ∨ rRep x y H Q) mulR := by
  intro x y v u H G Q3 Q R hx hy h k
  unfold mulR at h
  split at h
  · exact .inl ⟨_, _, hx, hy, h.1, ret k R h.2 rfl⟩
  · obtain ⟨p, xs, rfl, h1, l1⟩ := hx
    exact .inr ⟨p, _, xs, rfl, hy, h1.2, h.1, h.2.1, by rw [← l1.length]; exact h.2.2.1, fun t ht => new_lst R ht (datL_rep l1 _) k h.2.2.2⟩
  · exact h.elim
theorem pe3_mul (ha : PE3 X Γ W a ta) (hb : PE3 X Γ W b tb) : PE3 X Γ W (.BinOp a .Mult b pos) (TOp mulR ta tb) := pe3_op (op_mul.or op_rep) sound_mul ha hb
@[simp] def negR : U3 := fun x G Q => match x with | .int i => Q (.int (-i)) G | _ => False
theorem pe3_neg (ha : PE3 X Γ W a ta) : PE3 X Γ W (.UnaryOp .USub a pos) (TUn negR ta) := pe3_un un_neg (fun x v H G Q3 Q R hx h k => by
  unfold negR at h
  split at h
  · exact ⟨_, hx, ret k R h rfl⟩
  · exact h.elim) ha

/-! comparisons -/
theorem sound_lt : Sound2 X.K Γ (fun x y H Q => rI0 (fun i j => .bl (decide (i < j))) x y H Q ∨ ∃ i j, x = .str i ∧ y = .str j ∧ Q (.bl (decide (i.cps.toList < j.cps.toList))) H) ltR := by
  intro x y v u H G Q3 Q R hx hy h k
  unfold ltR at h
  split at h
  · exact .inl ⟨_, _, hx, hy, ret k R h rfl⟩
  · exact .inr ⟨_, _, hx, hy, ret k R h rfl⟩
  · exact h.elim
theorem op_lt2 : OpR X (compareOp .Lt) (fun x y H Q => rI0 (fun i j => .bl (decide (i < j))) x y H Q ∨ ∃ i j, x = .str i ∧ y = .str j ∧ Q (.bl (decide (i.cps.toList < j.cps.toList))) H) := op_lt.or op_lt_str
theorem sound_le : Sound2 X.K Γ (rI0 fun i j => .bl (decide (i ≤ j))) leR := sound_ii0 fun _ _ _ _ => rfl
theorem sound_gt : Sound2 X.K Γ (rI0 fun i j => .bl (decide (j < i))) gtR := sound_ii0 fun _ _ _ _ => rfl
theorem sound_ge : Sound2 X.K Γ (rI0 fun i j => .bl (decide (j ≤ i))) geR := sound_ii0 fun _ _ _ _ => rfl
theorem sound_eq : Sound2 X.K Γ (fun x y H Q => rEq x y H Q ∨ rEqD X.K x y H Q) eqR := by
  intro x y v u H G Q3 Q R hx hy h k
  unfold eqR at h
  split at h
  · obtain rfl : v = _ := hx
    obtain rfl : u = _ := hy
    rename_i i j
    exact .inl ⟨rfl, ret k R h (by show V.bl _ = V.bl _; rw [dec_int, Bool.beq_eq_decide_eq])⟩
  · obtain rfl : v = _ := hx
    obtain rfl : u = _ := hy
    exact .inl ⟨rfl, ret k R h (by show V.bl _ = V.bl _; rw [dec_str, Bool.beq_eq_decide_eq])⟩
  · obtain rfl : v = _ := hx
    obtain rfl : u = _ := hy
    exact .inl ⟨rfl, ret k R h (by show V.bl _ = V.bl _; rw [dec_bl, Bool.beq_eq_decide_eq])⟩
  · exact .inr ⟨py x, py y, dat_dp 60 x v h.1 hx, dat_dp 60 y u h.2.1 hy, gd_shaped h.1, gd_shaped h.2.1, ret k R h.2.2 rfl⟩
theorem sound_ne : Sound2 X.K Γ (fun x y H Q => rNe x y H Q ∨ rNeD X.K x y H Q) neR := by
  intro x y v u H G Q3 Q R hx hy h k
  unfold neR at h
  split at h
  · obtain rfl : v = _ := hx
    obtain rfl : u = _ := hy
    exact .inl ⟨rfl, ret k R h (by show V.bl _ = V.bl _; rw [dec_int, Bool.beq_eq_decide_eq])⟩
  · obtain rfl : v = _ := hx
    obtain rfl : u = _ := hy
    exact .inl ⟨rfl, ret k R h (by show V.bl _ = V.bl _; rw [dec_str, Bool.beq_eq_decide_eq])⟩
  · obtain rfl : v = _ := hx
    obtain rfl : u = _ := hy
    exact .inl ⟨rfl, ret k R h (by show V.bl _ = V.bl _; rw [dec_bl, Bool.beq_eq_decide_eq])⟩
  · exact .inr ⟨py x, py y, dat_dp 60 x v h.1 hx, dat_dp 60 y u h.2.1 hy, gd_shaped h.1, gd_shaped h.2.1, ret k R h.2.2 rfl⟩
theorem sound_isN : Sound2 X.K Γ (fun x y H Q => y = .non ∧ Q (.bl (decide (x = .non))) H) isNR := by
  intro x y v u H G Q3 Q R hx hy h k
  unfold isNR at h
  split at h
  · obtain rfl : v = _ := hx
    exact ⟨hy, ret k R h rfl⟩
  · obtain ⟨_, _, rfl, _⟩ := hx
    exact ⟨hy, ret k R h rfl⟩
  · obtain rfl : v = _ := hx
    exact ⟨hy, ret k R h rfl⟩
  · obtain rfl : v = _ := hx
    exact ⟨hy, ret k R h rfl⟩
  · obtain rfl : v = _ := hx
    exact ⟨hy, ret k R h rfl⟩
  · obtain rfl : v = _ := hx
    exact ⟨hy, ret k R h rfl⟩
  · exact h.elim
theorem sound_notN : Sound2 X.K Γ (fun x y H Q => y = .non ∧ Q (.bl (!decide (x = .non))) H) isNotNR := by
  intro x y v u H G Q3 Q R hx hy h k
  unfold isNotNR at h
  split at h
  · obtain rfl : v = _ := hx
    exact ⟨hy, ret k R h rfl⟩
  · obtain ⟨_, _, rfl, _⟩ := hx
    exact ⟨hy, ret k R h rfl⟩
  · obtain rfl : v = _ := hx
    exact ⟨hy, ret k R h rfl⟩
  · obtain rfl : v = _ := hx
    exact ⟨hy, ret k R h rfl⟩
  · obtain rfl : v = _ := hx
    exact ⟨hy, ret k R h rfl⟩
  · obtain rfl : v = _ := hx
    exact ⟨hy, ret k R h rfl⟩
  · exact h.elim

/-! displays -/
@[simp] def TNil : TA3 := fun _ G Q _ => Q [] G
@[simp] def TCons (t : TE3) (r : TA3) : TA3 := fun δ G Q E => t δ G (fun x G1 => r δ G1 (fun xs G2 => Q (x :: xs) G2) E) E
theorem pa3_nil : PA3 X Γ W [] TNil := pa_imp pa_nil fun σ H Q ⟨δ, G, Q3, E3, R, h1, k, ke⟩ => k [] [] G H Step.refl R.hp rfl h1
theorem pa3_cons {es : List Expr} {t : TE3} {r : TA3} (ha : PE3 X Γ W e t) (hr : PA3 X Γ W es r) (hs : starEach (e :: es) X.env = (false, eval e X.env) :: starEach es X.env := by rfl) : PA3 X Γ W (e :: es) (TCons t r) := by
  refine pa_imp (pa_cons ha hr hs) fun σ H Q hw => ?_
  obtain ⟨δ, G, Q3, E3, R, h1, k, ke⟩ := hw
  refine ⟨δ, G, _, E3, R, h1, fun x v G1 H1 s1 hp1 dx q1 => ?_, ke⟩
  exact ⟨δ, G1, _, E3, R.mono s1 hp1, q1, fun xs vs G2 H2 s2 hp2 dl q2 => k (x :: xs) (v :: vs) G2 H2 (s1.trans s2) hp2 (.cons (dx.mono s2) dl) q2, fun cls G' H' s' => ke cls G' H' (s1.trans s')⟩
@[simp] def TTup (t : TA3) : TE3 := fun δ G Q E => t δ G (fun xs G1 => xs.length ≤ sizeLine ∧ Q (.tup xs) G1) E
/-- a list by value; a list that is owned -/
@[simp] def TLst (t : TA3) : TE3 := fun δ G Q E => t δ G (fun xs G1 => xs.length ≤ sizeLine ∧ Q (.lst xs) G1) E
@[simp] def TLstM (t : TA3) : TE3 := fun δ G Q E => t δ G (fun xs G1 => xs.length ≤ sizeLine ∧ ∀ l, G1 l = none → Q (.ref l) (gset G1 l (.lst xs))) E
theorem pe3_tup {es : List Expr} {t : TA3} {x1} (h : PA3 X Γ W es t) : PE3 X Γ W (.Tuple es x1 pos) (TTup t) := by
  refine pe_imp (pe_tup h) fun σ H Q hw => ?_
  obtain ⟨δ, G, Q3, E3, R, h1, k, ke⟩ := hw
  exact ⟨δ, G, _, E3, R, h1, fun xs vs G1 H1 s1 hp1 dl q1 => ⟨by rw [← dl.length]; exact q1.1, fun p hp => new_tup hp1 hp dl (fun d w G' H' s' => k d w G' H' (s1.trans s')) q1.2⟩, ke⟩
theorem pe3_lst {es : List Expr} {t : TA3} (h : PA3 X Γ W es t) : PE3 X Γ W (.List es pos) (TLst t) := by
  refine pe_imp (pe_lst h) fun σ H Q hw => ?_
  obtain ⟨δ, G, Q3, E3, R, h1, k, ke⟩ := hw
  exact ⟨δ, G, _, E3, R, h1, fun xs vs G1 H1 s1 hp1 dl q1 => ⟨by rw [← dl.length]; exact q1.1, fun p hp => new_lst hp1 hp dl (fun d w G' H' s' => k d w G' H' (s1.trans s')) q1.2⟩, ke⟩
theorem pe3_lstM {es : List Expr} {t : TA3} (h : PA3 X Γ W es t) : PE3 X Γ W (.List es pos) (TLstM t) := by
  refine pe_imp (pe_lst h) fun σ H Q hw => ?_
  obtain ⟨δ, G, Q3, E3, R, h1, k, ke⟩ := hw
  exact ⟨δ, G, _, E3, R, h1, fun xs vs G1 H1 s1 hp1 dl q1 => ⟨by rw [← dl.length]; exact q1.1, fun p hp => new_lstG hp1 hp dl (fun d w G' H' s' => k d w G' H' (s1.trans s')) q1.2⟩, ke⟩

/-! items -/
theorem datL_at {K : PySem.W.Frag} {H : Hp} {G : Gp} {ds : List D} {vs : List V} {i : Int} {d : D} (h : DatL K Γ H G ds vs) (e : atI ds i = some d) : ∃ v, atI vs i = some v ∧ Dat K Γ H G d v := by
  unfold atI at e ⊢
  rw [← h.length]
  cases q : ixN ds.length i with
  | none => rw [q] at e; cases e
  | some j =>
    rw [q] at e
    exact h.get (i := j) e
def ixR : R3 := fun x y G Q => match x, y with
  | .nod .lst xs, .int i => ∃ d, atI xs i = some d ∧ Q d G
  | .nod .tup xs, .int i => ∃ d, atI xs i = some d ∧ Q d G
  | .nod .tuF xs, .int i => ∃ d, atI xs i = some d ∧ Q d G
  | .ref a, .int i => ∃ xs d, G a = some (.lst xs) ∧ atI xs i = some d ∧ Q d G
  | .str z, .int i => ∃ c, z.length ≤ sizeLine ∧ atI z.cps.toList i = some c ∧ Q (.str ⟨#[c]⟩) G
  | _, _ => False
theorem sound_ix : Sound2 X.K Γ (rIx X.K) ixR := by
  intro x y v u H G Q3 Q R hx hy h k
  unfold ixR at h
  split at h
  · obtain ⟨p, vs, rfl, h1, l1⟩ := hx
    obtain ⟨d, e, q⟩ := h
    obtain ⟨w, e2, dw⟩ := datL_at l1 e
    exact .inl ⟨p, vs, _, w, rfl, hy, SqL.of h1.2, e2, ret k R q dw⟩
  · obtain ⟨p, vs, rfl, h1, l1⟩ := hx
    obtain ⟨d, e, q⟩ := h
    obtain ⟨w, e2, dw⟩ := datL_at l1 e
    exact .inr (.inl ⟨p, vs, _, w, rfl, hy, SqT.of h1, e2, ret k R q dw⟩)
  · obtain ⟨p, vs, rfl, ⟨_, o, h1, _⟩, l1⟩ := hx
    obtain ⟨d, e, q⟩ := h
    obtain ⟨w, e2, dw⟩ := datL_at l1 e
    exact .inr (.inl ⟨p, vs, _, w, rfl, hy, .inl (.inr ⟨o, h1⟩), e2, ret k R q dw⟩)
  · obtain rfl : v = _ := hx
    obtain ⟨xs, d, hg, e, q⟩ := h
    obtain ⟨vs, h1, l1⟩ := R.own _ _ (vis_some hg)
    obtain ⟨w, e2, dw⟩ := datL_at l1 e
    exact .inl ⟨_, vs, _, w, rfl, hy, SqL.of h1, e2, ret k R q dw⟩
  · obtain ⟨c, hz, e, q⟩ := h
    exact .inr (.inr ⟨_, _, c, hx, hy, hz, e, ret k R q rfl⟩)
  · exact h.elim
theorem pe3_ix (ha : PE3 X Γ W a ta) (hb : PE3 X Γ W b tb) (hs : PlainIx b) : PE3 X Γ W (.Subscript a b pos) (TOp ixR ta tb) :=
  pe_imp (pe_ix ix_seq ha hb hs) fun _ _ _ hw => op_sound sound_ix hw

/-! slices -/
abbrev TO3 := St3 → Gp → (Option Int → Gp → Prop) → X3 → Prop
def liftO (K : PySem.W.Frag) (Γ : Gm) (W : WX) (T : TO3) : TO := fun σ H Q => ∃ δ G Q3 E3, Rel K Γ δ G σ H ∧ T δ (vis G) Q3 E3 ∧
  (∀ o G' H', Step K H G H' G' → HpR K Γ H' G' → Q3 o (vis G') → Q o H') ∧ ∀ cls G' H', Step K H G H' G' → HpR K Γ H' G' → E3 cls (vis G') → W cls none σ H'
abbrev PO3 (X : Cx) (Γ : Gm) (W : WX) (e : Option Expr) (T : TO3) : Prop := PO X e (liftO X.K Γ W T)
theorem po_imp {o : Option Expr} {t t' : TO} (h : PO X o t) (f : ∀ σ H Q, t' σ H Q → t σ H Q) : PO X o t' := ⟨fun pins s σ H Q I hw => h.run pins s σ H Q I (f _ _ _ hw)⟩
@[simp] def TNoPart : TO3 := fun _ G Q _ => Q none G
@[simp] def TPart (t : TE3) : TO3 := fun δ G Q E => t δ G (fun x G1 => match x with | .int i => Q (some i) G1 | _ => False) E
theorem po3_none : PO3 X Γ W none TNoPart := po_imp po_none fun σ H Q ⟨δ, G, Q3, E3, R, h1, k, ke⟩ => k none G H Step.refl R.hp h1
theorem po3_some (h : PE3 X Γ W e ta) : PO3 X Γ W (some e) (TPart ta) := by
  refine po_imp (po_some h) fun σ H Q hw => ?_
  obtain ⟨δ, G, Q3, E3, R, h1, k, ke⟩ := hw
  refine ⟨δ, G, _, E3, R, h1, fun x v G1 H1 s1 hp1 dx q1 => ?_, ke⟩
  cases x with
  | int i => exact ⟨i, dx, k (some i) G1 H1 s1 hp1 q1⟩
  | _ => exact q1.elim
def cut3 (xs : List D) (lo hi : Option Int) : List D := (xs.drop (HT.sIx xs.length 0 lo)).take (HT.sIx xs.length xs.length hi - HT.sIx xs.length 0 lo)
theorem datL_cut {K : PySem.W.Frag} {H : Hp} {G : Gp} {ds : List D} {vs : List V} {lo hi : Option Int} (h : DatL K Γ H G ds vs) : DatL K Γ H G (cut3 ds lo hi) (cutV vs lo hi) := by
  unfold cut3 cutV
  rw [← h.length]
  exact (h.drop _).take _
@[simp] def TSl (t : TE3) (lo hi : TO3) : TE3 := fun δ G Q E => t δ G (fun x G1 => lo δ G1 (fun l G2 => hi δ G2 (fun u G3 => match x with
  | .nod .lst xs => Q (.lst (cut3 xs l u)) G3
  | .nod .ro xs => Q (.lst (cut3 xs l u)) G3
  | _ => False) E) E) E
theorem pe3_slice {lo hi : Option Expr} {tl th : TO3} {p2 : Pos} (he : PE3 X Γ W e ta) (hl : PO3 X Γ W lo tl) (hu : PO3 X Γ W hi th) : PE3 X Γ W (.Subscript e (.Slice lo hi none p2) pos) (TSl ta tl th) := by
  refine pe_imp (pe_slice sl_list he hl hu) fun σ H Q hw => ?_
  obtain ⟨δ, G, Q3, E3, R, h1, k, ke⟩ := hw
  refine ⟨δ, G, _, E3, R, h1, fun x v G1 H1 s1 hp1 dx q1 => ?_, ke⟩
  refine ⟨δ, G1, _, E3, R.mono s1 hp1, q1, fun l G2 H2 s2 hp2 q2 => ?_, fun cls G' H' s' => ke cls G' H' (s1.trans s')⟩
  refine ⟨δ, G2, _, E3, R.mono (s1.trans s2) hp2, q2, fun u G4 H4 s4 hp4 q4 => ?_, fun cls G' H' s' => ke cls G' H' ((s1.trans s2).trans s')⟩
  have dx4 := (dx.mono s2).mono s4
  split at q4
  · obtain ⟨p, vs, rfl, h2, l2⟩ := dx4
    exact ⟨p, vs, rfl, SqL.of h2.2, fun t ht => new_lst hp4 ht (datL_cut l2) (fun d w G' H' s' => k d w G' H' (((s1.trans s2).trans s4).trans s')) q4⟩
  · obtain ⟨p, vs, rfl, h2, l2⟩ := dx4
    refine ⟨p, vs, rfl, ?_, fun t ht => new_lst hp4 ht (datL_cut l2) (fun d w G' H' s' => k d w G' H' (((s1.trans s2).trans s4).trans s')) q4⟩
    rcases h2 with h2 | h2
    · exact .inl h2.2
    · rcases h2 with (z | ⟨_, z⟩) | z
      · cases z
      · cases z
      · exact .inr z
  · exact q4.elim

/-! calls of built-ins by name -/
abbrev C3 := List D → Gp → K3 → Prop
@[simp] def TCB (r : C3) (t : TA3) : TE3 := fun δ G Q E => t δ G (fun xs G1 => r xs G1 Q) E
theorem cb_sound {r : List V → Hp → VK → Prop} {r3 : C3} {t : TA3} (h : SoundN X.K Γ r r3) {σ : L2.St} {H : Hp} {Q : VK} (hw : lift X.K Γ W (TCB r3 t) σ H Q) : tCB r (liftA X.K Γ W t) σ H Q := by
  obtain ⟨δ, G, Q3, E3, R, h1, k, ke⟩ := hw
  refine ⟨δ, G, _, E3, R, h1, fun xs vs G1 H1 s1 hp1 dl q1 => ?_, ke⟩
  exact h xs vs H1 G1 _ _ hp1 dl q1 fun d w G' H' s3 hp3 dw q3 => k d w G' H' (s1.trans s3) hp3 dw q3
theorem pe3_callB {id : String} {x : Str} {es : List Expr} {p : Pos} {r : List V → Hp → VK → Prop} {r3 : C3} {t : TA3} (hc : CallR X (.builtin id) r) (hs : SoundN X.K Γ r r3) (hg : Gl X x) (hm : X.mg x = none) (hv : bootBuiltins x = some (.builtin id)) (ha : PA3 X Γ W (e :: es) t)
    (hn : x ≠ "__name__" := by decide) (hdb : (x == ("__debug__" : Str)) = false := by decide) (hst : starEach (e :: es) X.env = (false, eval e X.env) :: starEach es X.env := by rfl) (hpl : ((backTo pos (starEach es X.env)).any fun x => x.fst) = false := by rfl) : PE3 X Γ W (.Call (.Name x p) (e :: es) [] pos) (TCB r3 t) :=
  pe_imp (pe_callB hc hg hm hv ha hn hdb hst hpl) fun _ _ _ hw => cb_sound hs hw
end
end L3
/-! L3, part d: letting go, statements, blocks, targets. -/
namespace L3
open PySem L2

/-! ### letting go: what is no longer changed becomes data -/
def NoLk (G : Gp) (a : Addr) : Prop := ∀ g, G a = some g → g.lk = false
def Sub (G' G : Gp) : Prop := ∀ a, (G' a = none ∧ NoLk G a) ∨ G' a = G a
theorem Sub.refl {G : Gp} : Sub G G := fun _ => .inr rfl
theorem Sub.del {G : Gp} {a : Addr} (h : NoLk G a) : Sub (gdel G a) G := fun b => by
  by_cases e : b = a
  · subst e; exact .inl ⟨gdel_same, h⟩
  · exact .inr (gdel_ne e)
theorem Sub.trans {G1 G2 G3 : Gp} (a : Sub G1 G2) (b : Sub G2 G3) : Sub G1 G3 := fun x => by
  rcases a x with ⟨h, n⟩ | h
  · rcases b x with ⟨q, m⟩ | q
    · exact .inl ⟨h, m⟩
    · exact .inl ⟨h, fun g e => n g (q.trans e)⟩
  · rcases b x with ⟨q, m⟩ | q
    · exact .inl ⟨h.trans q, m⟩
    · exact .inr (h.trans q)
theorem Sub.no {G G' : Gp} (s : Sub G' G) {a : Addr} (h : G a = none) : G' a = none := by
  rcases s a with q | q
  · exact q.1
  · exact q.trans h
theorem Sub.set {G : Gp} {p : Addr} {o : GO} (h : G p = none) (hl : o.lk = false := by rfl) : Sub G (gset G p o) := fun a => by
  by_cases e : a = p
  · subst e; exact .inl ⟨h, fun g e => by rw [gset_same] at e; cases e; exact hl⟩
  · exact .inr (gset_ne e).symm
section
variable {K : PySem.W.Frag} {Γ : Gm} {H : Hp} {G G' : Gp}
theorem TagAt.sub (s : Sub G' G) {a : Addr} {vs : List V} : ∀ {t : Tag}, TagAt K H G t a vs → TagAt K H G' t a vs
  | .tup, h => h
  | .tuK, h => h
  | .tuF, h => ⟨s.no h.1, h.2⟩
  | .lst, h => ⟨s.no h.1, h.2⟩
  | .ro, h => h.imp (fun h => ⟨s.no h.1, h.2⟩) id
  | .dK ks, h => ⟨s.no h.1, h.2⟩
  | .dT ks, h => ⟨s.no h.1, h.2⟩
  | .obj C ns, h => ⟨s.no h.1, h.2⟩
mutual
theorem Dat.sub (s : Sub G' G) : ∀ {d : D} {v : V}, Dat K Γ H G d v → Dat K Γ H G' d v
  | .non, _, h => h
  | .bl _, _, h => h
  | .int _, _, h => h
  | .str _, _, h => h
  | .ref _, _, h => h
  | .clo i, v, h => let ⟨f, c, e, n, n2, hf, nt⟩ := h; ⟨f, c, e, s.no n, s.no n2, hf, nt⟩
  | .nod t xs, v, h => by
    obtain ⟨a, vs, e, ht, hl⟩ := h
    exact ⟨a, vs, e, ht.sub s, DatL.sub s hl⟩
theorem DatL.sub (s : Sub G' G) : ∀ {ds : List D} {vs : List V}, DatL K Γ H G ds vs → DatL K Γ H G' ds vs
  | [], _, h => h
  | d :: ds, vs, h => by
    obtain ⟨v, r, e, h1, h2⟩ := h
    exact ⟨v, r, e, Dat.sub s h1, DatL.sub s h2⟩
end
theorem GOk.sub (s : Sub G' G) {a : Addr} : ∀ {g : GO}, GOk K Γ H G a g → GOk K Γ H G' a g
  | .lst ds, h => by obtain ⟨vs, e, l⟩ := h; exact ⟨vs, e, l.sub s⟩
  | .dK ds, h => by obtain ⟨vs, e, l⟩ := h; exact ⟨vs, e, Paired.mapP l fun _ _ q => ⟨q.1, q.2.sub s⟩⟩
  | .dT ds, h => by obtain ⟨vs, e, l⟩ := h; exact ⟨vs, e, Paired.mapP l fun _ _ q => ⟨q.1, q.2.sub s⟩⟩
  | .ins C ds, h => by obtain ⟨dx, vs, e, l⟩ := h; exact ⟨dx, vs, e, Paired.mapP l fun _ _ q => ⟨q.1, q.2.sub s⟩⟩
  | .lkK ds, h => by obtain ⟨dx, vs, e, l⟩ := h; exact ⟨dx, vs, e, Paired.mapP l fun _ _ q => ⟨q.1, q.2.sub s⟩⟩
  | .lkT ds, h => by obtain ⟨dx, vs, e, l⟩ := h; exact ⟨dx, vs, e, Paired.mapP l fun _ _ q => ⟨q.1, q.2.sub s⟩⟩
  | .lkL ds, h => by obtain ⟨dx, vs, e, l⟩ := h; exact ⟨dx, vs, e, l.sub s⟩
  | .hid, h => h
theorem HpR.sub (R : HpR K Γ H G) (s : Sub G' G) : HpR K Γ H G' := ⟨fun a g e => by
  rcases s a with q | q
  · rw [q.1] at e; cases e
  · rw [q] at e
    exact (R.own a g e).sub s, R.tab⟩
theorem Step.sub (s : Sub G' G) (hd : ∀ a, G a = some .hid → G' a = some .hid) {H0 : Hp} {G0 : Gp} (t : Step K H0 G0 H G) : Step K H0 G0 H G' := ⟨⟨t.tup, t.frm, fun a h => hd a (t.hid a h), fun a o h n nt => ⟨s.no (t.own a o h n nt).1, (t.own a o h n nt).2⟩, fun a g h l => by
  obtain ⟨h1, k1⟩ := t.lck a g h l
  refine ⟨?_, k1⟩
  rcases s a with ⟨_, n⟩ | q
  · have := n g h1; rw [l] at this; cases this
  · exact q.trans h1⟩, t.frh⟩
end
/-- d, let go, is d' (G, G' as they are seen) -/
def Fz (G G' : Gp) (d d' : D) : Prop := ∀ (K : PySem.W.Frag) (Γ : Gm) (H : Hp) (Gf : Gp) (v : V), vis Gf = G → HpR K Γ H Gf → Dat K Γ H (ovl Gf G') d v → Dat K Γ H (ovl Gf G') d' v
def FzL (G G' : Gp) (ds ds' : List D) : Prop := ∀ (K : PySem.W.Frag) (Γ : Gm) (H : Hp) (Gf : Gp) (vs : List V), vis Gf = G → HpR K Γ H Gf → DatL K Γ H (ovl Gf G') ds vs → DatL K Γ H (ovl Gf G') ds' vs
theorem sub_ovl {G' Gf : Gp} (s : Sub G' (vis Gf)) : Sub (ovl Gf G') Gf := fun a => by
  unfold ovl
  split
  · rename_i e; exact .inr e.symm
  · rename_i e
    rcases s a with q | q
    · exact .inl ⟨q.1, fun g h => q.2 g (by unfold vis; split <;> first | (rename_i e2; exact absurd e2 e) | exact h)⟩
    · right
      rw [q]
      unfold vis
      split
      · rename_i e2; exact absurd e2 e
      · rfl
theorem vis_sub {G' Gf : Gp} (s : Sub G' (vis Gf)) : vis (ovl Gf G') = G' := vis_ovl (fun a e => by
  rcases s a with q | q
  · exact q.1
  · rw [q]; unfold vis; rw [e]) (fun a e => by
  rcases s a with q | q
  · rw [e] at q; cases q.1
  · rw [e] at q
    have q := q.symm
    unfold vis at q
    split at q
    · cases q
    · rename_i h; exact h q)
section
variable {G G' : Gp}
theorem Fz.same {d : D} : Fz G G' d d := fun _ _ _ _ _ _ _ h => h
theorem Fz.trans {a b c : D} (h : Fz G G' a b) (h' : Fz G G' b c) : Fz G G' a c := fun K Γ H Gf v e R q => h' K Γ H Gf v e R (h K Γ H Gf v e R q)
theorem FzL.nil : FzL G G' [] [] := fun _ _ _ _ _ _ _ h => h
theorem FzL.same {ds : List D} : FzL G G' ds ds := fun _ _ _ _ _ _ _ h => h
theorem FzL.cons {d d' : D} {ds ds' : List D} (h : Fz G G' d d') (t : FzL G G' ds ds') : FzL G G' (d :: ds) (d' :: ds') := fun K Γ H Gf vs e R q => by
  obtain ⟨v, r, e1, h1, h2⟩ := q
  exact ⟨v, r, e1, h K Γ H Gf v e R h1, t K Γ H Gf r e R h2⟩
theorem Fz.nod {t : Tag} {xs ys : List D} (h : FzL G G' xs ys) : Fz G G' (.nod t xs) (.nod t ys) := fun K Γ H Gf v e R q => by
  obtain ⟨a, vs, e1, ht, hl⟩ := q
  exact ⟨a, vs, e1, ht, h K Γ H Gf vs e R hl⟩
theorem fz_none {Gf : Gp} (e : vis Gf = G) {l : Addr} {g : GO} (h : G l = some g) (n : G' l = none) : Gf l = some g ∧ ovl Gf G' l = none := by
  subst e
  have h1 := vis_some h
  refine ⟨h1, ?_⟩
  unfold ovl
  split
  · rename_i e2
    unfold vis at h
    rw [e2] at h
    cases h
  · exact n
theorem Fz.lst (s : Sub G' G) {l : Addr} {ds : List D} (e : G l = some (.lst ds)) (n : G' l = none) : Fz G G' (.ref l) (.lst ds) := fun K Γ H Gf v eg R q => by
  obtain rfl : v = _ := q
  obtain ⟨e1, n1⟩ := fz_none eg e n
  obtain ⟨vs, h1, h2⟩ := R.own _ _ e1
  exact ⟨_, vs, rfl, ⟨n1, h1⟩, h2.sub (sub_ovl (by rw [eg]; exact s))⟩
theorem Fz.dK (s : Sub G' G) {l : Addr} {ds : List (Key × D)} (e : G l = some (.dK ds)) (n : G' l = none) : Fz G G' (.ref l) (.dK ds) := fun K Γ H Gf v eg R q => by
  obtain rfl : v = _ := q
  obtain ⟨e1, n1⟩ := fz_none eg e n
  obtain ⟨vs, h1, h2⟩ := R.own _ _ e1
  refine ⟨_, vs.map (·.2), rfl, ⟨n1, by rw [List.length_map, List.length_map]; exact DatF.length h2, .inl ?_⟩, (DatF.snd h2).sub (sub_ovl (by rw [eg]; exact s))⟩
  rw [← DatF.fst h2, zip_self]; exact h1
theorem Fz.dT (s : Sub G' G) {l : Addr} {ds : List (List Key × D)} (e : G l = some (.dT ds)) (n : G' l = none) : Fz G G' (.ref l) (.dT ds) := fun K Γ H Gf v eg R q => by
  obtain rfl : v = _ := q
  obtain ⟨e1, n1⟩ := fz_none eg e n
  obtain ⟨vs, h1, h2⟩ := R.own _ _ e1
  refine ⟨_, vs.map (·.2), rfl, ⟨n1, by rw [List.length_map, List.length_map]; exact DatF.length h2, .inl ?_⟩, (DatF.snd h2).sub (sub_ovl (by rw [eg]; exact s))⟩
  rw [← DatF.fst h2, zip_self]; exact h1
theorem Fz.ins (s : Sub G' G) {l : Addr} {C : Addr} {ds : List (Str × D)} (e : G l = some (.ins C ds)) (n : G' l = none) : Fz G G' (.ref l) (.obj C ds) := fun K Γ H Gf v eg R q => by
  obtain rfl : v = _ := q
  obtain ⟨e1, n1⟩ := fz_none eg e n
  obtain ⟨dx, vs, h1, h2⟩ := R.own _ _ e1
  refine ⟨_, vs.map (·.2), rfl, ⟨n1, by rw [List.length_map, List.length_map]; exact DatF.length h2, dx, ?_⟩, (DatF.snd h2).sub (sub_ovl (by rw [eg]; exact s))⟩
  rw [← DatF.fst h2, zip_self]; exact h1
end
/-- the frame's names, let go -/
inductive FzE (G G' : Gp) : St3 → St3 → Prop
  | nil : FzE G G' [] []
  | same {d : Option D} {δ δ' : St3} (t : FzE G G' δ δ') : FzE G G' (d :: δ) (d :: δ')
  | fz {d d' : D} {δ δ' : St3} (h : Fz G G' d d') (t : FzE G G' δ δ') : FzE G G' (some d :: δ) (some d' :: δ')
  | forget {d : Option D} {δ δ' : St3} (t : FzE G G' δ δ') : FzE G G' (d :: δ) (none :: δ')
theorem FzE.refl {G G' : Gp} : ∀ {δ : St3}, FzE G G' δ δ
  | [] => .nil
  | _ :: _ => .same FzE.refl
theorem FzE.len {G G' : Gp} {δ δ' : St3} (h : FzE G G' δ δ') : δ'.length = δ.length := by
  induction h with
  | nil => rfl
  | same t ih => simp [ih]
  | fz h t ih => simp [ih]
  | forget t ih => simp [ih]
theorem FzE.get {G G' : Gp} {δ δ' : St3} (h : FzE G G' δ δ') : ∀ (i : Nat) (d' : D), δ'[i]? = some (some d') → ∃ d, δ[i]? = some (some d) ∧ Fz G G' d d' := by
  induction h with
  | nil => intro i d' e; simp at e
  | same t ih =>
    intro i d' e
    cases i with
    | zero => simp at e; subst e; exact ⟨d', by simp, Fz.same⟩
    | succ i => simpa using ih i d' (by simpa using e)
  | fz h t ih =>
    intro i d' e
    cases i with
    | zero => simp at e; subst e; exact ⟨_, by simp, h⟩
    | succ i => simpa using ih i d' (by simpa using e)
  | forget t ih =>
    intro i d' e
    cases i with
    | zero => simp at e
    | succ i => simpa using ih i d' (by simpa using e)
theorem ovl_hid {G G' : Gp} (a : Addr) (h : G a = some .hid) : ovl G G' a = some .hid := by unfold ovl; rw [h]
theorem Rel.sub {K : PySem.W.Frag} {Γ : Gm} {δ δ' : St3} {G G' : Gp} {σ : L2.St} {H : Hp} (R : Rel K Γ δ G σ H) (s : Sub G' (vis G)) (f : FzE (vis G) G' δ δ') : Rel K Γ δ' (ovl G G') σ H := by
  refine ⟨by rw [f.len]; exact R.len, fun i d' e => ?_, R.hp.sub (sub_ovl s)⟩
  obtain ⟨d, h1, h2⟩ := f.get i d' e
  obtain ⟨v, h3, h4⟩ := R.get i d h1
  exact ⟨v, h3, h2 K Γ H G v rfl R.hp (h4.sub (sub_ovl s))⟩
theorem Step.let {K : PySem.W.Frag} {H0 H : Hp} {G0 G G' : Gp} (t : Step K H0 G0 H G) (s : Sub G' (vis G)) : Step K H0 G0 H (ovl G G') := Step.sub (sub_ovl s) (fun a h => ovl_hid a h) t

/-! ### blocks and small statements -/
section
variable {K : PySem.W.Frag} {Γ : Gm} {W : WX} {H H1 : Hp} {G G1 : Gp} {D3 : Ends3} {D' : Ends}
theorem KeepS.after (s : Step K H G H1 G1) (k : KeepS K Γ W H G D3 D') : KeepS K Γ W H1 G1 D3 D' :=
  ⟨fun δ' G' σ' H' t => k.nx δ' G' σ' H' (s.trans t), fun d v G' H' t => k.rt d v G' H' (s.trans t), fun δ' G' σ' H' t => k.bk δ' G' σ' H' (s.trans t), fun δ' G' σ' H' t => k.ct δ' G' σ' H' (s.trans t), fun c δ' G' σ' H' t => k.ex c δ' G' σ' H' (s.trans t)⟩
end
section
variable {X : Cx} {Γ : Gm} {W : WX} {e a b c : Expr} {pos : Pos} {st : Stmt} {rest : List Stmt} {ta tb tc : TE3} {T U : TS3}
@[simp] def TNext : TS3 := fun D3 δ G => D3.nx δ G
@[simp] def TSeq (T U : TS3) : TS3 := fun D3 δ G => T { D3 with nx := U D3 } δ G
theorem pss3_nil : PSs3 X Γ W [] TNext := pss_imp pss_nil fun D' σ H ⟨δ, G, D3, R, h, k⟩ => k.nx δ G σ H Step.refl R h
theorem pss3_cons (h1 : PS3 X Γ W st T) (h2 : PSs3 X Γ W rest U) : PSs3 X Γ W (st :: rest) (TSeq T U) := by
  refine pss_imp (pss_cons h1 h2) fun D' σ H hw => ?_
  obtain ⟨δ, G, D3, R, h, k⟩ := hw
  exact ⟨δ, G, _, R, h, ⟨fun δ' G' σ' H' s R' q => ⟨δ', G', D3, R', q, k.after s⟩, k.rt, k.bk, k.ct, k.ex⟩⟩
theorem pss3_one (h1 : PS3 X Γ W st T) : PSs3 X Γ W [st] T := pss_one h1
/-- letting go ahead of a block -/
def TShift (T : TS3) : TS3 := fun D3 δ G => ∃ G' δ', Sub G' G ∧ FzE G G' δ δ' ∧ T D3 δ' G'
theorem pss3_shift (h : PSs3 X Γ W rest T) : PSs3 X Γ W rest (TShift T) := pss_imp h fun D' σ H hw => by
  obtain ⟨δ, G, D3, R, ⟨G', δ', s, f, h⟩, k⟩ := hw
  exact ⟨δ', ovl G G', D3, R.sub s f, by rw [vis_sub s]; exact h, k.after (Step.let Step.refl s)⟩
theorem ps3_shift (h : PS3 X Γ W st T) : PS3 X Γ W st (TShift T) := ps_imp h fun D' σ H hw => by
  obtain ⟨δ, G, D3, R, ⟨G', δ', s, f, h⟩, k⟩ := hw
  exact ⟨δ', ovl G G', D3, R.sub s f, by rw [vis_sub s]; exact h, k.after (Step.let Step.refl s)⟩
/-- letting go behind an expression -/
def TFrz (T : TE3) : TE3 := fun δ G Q E => T δ G (fun d G1 => ∃ d' G2, Sub G2 G1 ∧ Fz G1 G2 d d' ∧ Q d' G2) E
theorem pe3_frz (h : PE3 X Γ W e ta) : PE3 X Γ W e (TFrz ta) := pe_imp h fun σ H Q hw => by
  obtain ⟨δ, G, Q3, E3, R, h1, k, ke⟩ := hw
  exact ⟨δ, G, _, E3, R, h1, fun d v G1 H1 s1 hp1 dv ⟨d', G2, sb, f, q⟩ => k d' v (ovl G1 G2) H1 (s1.let sb) (hp1.sub (sub_ovl sb)) (f X.K Γ H1 G1 v rfl hp1 (dv.sub (sub_ovl sb))) (by rw [vis_sub sb]; exact q), ke⟩
theorem ps3_pass : PS3 X Γ W (.Pass pos) TNext := ps_imp ps_pass fun D' σ H ⟨δ, G, D3, R, h, k⟩ => k.nx δ G σ H Step.refl R h
@[simp] def TBrk : TS3 := fun D3 δ G => D3.bk δ G
@[simp] def TCnt : TS3 := fun D3 δ G => D3.ct δ G
theorem ps3_break : PS3 X Γ W (.Break pos) TBrk := ps_imp ps_break fun D' σ H ⟨δ, G, D3, R, h, k⟩ => k.bk δ G σ H Step.refl R h
theorem ps3_continue : PS3 X Γ W (.Continue pos) TCnt := ps_imp ps_continue fun D' σ H ⟨δ, G, D3, R, h, k⟩ => k.ct δ G σ H Step.refl R h
@[simp] def TDrop (t : TE3) : TS3 := fun D3 δ G => t δ G (fun _ G1 => D3.nx δ G1) (fun cls G1 => D3.ex cls δ G1)
theorem ps3_expr (he : PE3 X Γ W e ta) (hs : swapsWith e none pos.line X.env = pure false := by rfl) : PS3 X Γ W (.Expr e pos) (TDrop ta) := by
  refine ps_imp (ps_expr he hs) fun D' σ H hw => ?_
  obtain ⟨δ, G, D3, R, h, k⟩ := hw
  exact ⟨δ, G, _, _, R, h, fun d v G' H' s hp dv q => k.nx δ G' σ H' s (R.mono s hp) q, fun cls G' H' s hp q => k.ex cls δ G' σ H' s (R.mono s hp) q⟩
@[simp] def TRet (t : TE3) : TS3 := fun D3 δ G => t δ G D3.rt (fun cls G1 => D3.ex cls δ G1)
theorem ps3_ret (he : PE3 X Γ W e ta) : PS3 X Γ W (.Return (some e) pos) (TRet ta) := by
  refine ps_imp (ps_ret he) fun D' σ H hw => ?_
  obtain ⟨δ, G, D3, R, h, k⟩ := hw
  exact ⟨δ, G, _, _, R, h, fun d v G' H' s hp dv q => k.rt d v G' H' s hp dv q, fun cls G' H' s hp q => k.ex cls δ G' σ H' s (R.mono s hp) q⟩
@[simp] def TRetN : TS3 := fun D3 δ G => D3.rt .non G
theorem ps3_retN : PS3 X Γ W (.Return none pos) TRetN := ps_imp ps_retN fun D' σ H ⟨δ, G, D3, R, h, k⟩ => k.rt .non .non G H Step.refl R.hp rfl h
@[simp] def TIfS (t : TT3) (T U : TS3) : TS3 := fun D3 δ G => t δ G (fun b G1 => if b = true then T D3 δ G1 else U D3 δ G1) (fun cls G1 => D3.ex cls δ G1)
theorem ps3_if {c : Expr} {p q : List Stmt} {t : TT3} (hc : PT3 X Γ W c t) (ha : PSs3 X Γ W p T) (hb : PSs3 X Γ W q U) : PS3 X Γ W (.If c p q pos) (TIfS t T U) := by
  refine ps_imp (ps_if hc ha hb) fun D' σ H hw => ?_
  obtain ⟨δ, G, D3, R, h, k⟩ := hw
  refine ⟨δ, G, _, _, R, h, fun d G' H' s hp q => ?_, fun cls G' H' s hp q => k.ex cls δ G' σ H' s (R.mono s hp) q⟩
  cases d with
  | true => exact ⟨δ, G', D3, R.mono s hp, q, k.after s⟩
  | false => exact ⟨δ, G', D3, R.mono s hp, q, k.after s⟩
theorem pss3_never {sts : List Stmt} : PSs3 X Γ W sts (fun _ _ _ => False) := pss_imp pss_never fun D' σ H ⟨δ, G, D3, R, h, k⟩ => h.elim

/-! targets -/
@[simp] def GName (i : Nat) : TG3 := fun d δ G Q _ => Q (δ.set i (some d)) G
theorem pg3_name {i : Nat} {x : Str} (hN : X.N.Nodup) (hi : X.N[i]? = some x) (hx : Loc X.env.scope x) (hf : X.fn x = true ∨ X.env.scope.names.lookup x = some .local := by first | exact .inl rfl | exact .inr rfl | assumption) : PG3 X Γ W (.Name x pos) (GName i) :=
  pg_imp (pg_name hN hi hx hf) fun v σ H Q ⟨d, δ, G, Q3, E3, R, dv, h, k, ke⟩ => k _ G _ H Step.refl (R.set dv) h
@[simp] def GNil : TGs3 := fun ds δ G Q _ => ds = [] ∧ Q δ G
@[simp] def GCons (t : TG3) (u : TGs3) : TGs3 := fun ds δ G Q E => match ds with | [] => False | d :: r => t d δ G (fun δ' G' => u r δ' G' Q E) E
theorem pgs3_nil : PGs3 X Γ W [] GNil := pgs_imp pgs_nil fun vs σ H Q ⟨ds, δ, G, Q3, E3, R, dl, h, k, ke⟩ => by
  obtain ⟨rfl, h⟩ := h
  exact ⟨dl, k δ G σ H Step.refl R h⟩
/-- (targets after the first do not raise: E is the same for all, at the frame as it was ahead) -/
theorem pgs3_cons {es : List Expr} {t : TG3} {u : TGs3} (h1 : PG3 X Γ (fun _ _ _ _ => False) e t) (h2 : PGs3 X Γ (fun _ _ _ _ => False) es u)
    (hs : (assignEach (e :: es) X.env).map (·.2) = assign e X.env :: (assignEach es X.env).map (·.2) := by rfl) : PGs3 X Γ (fun _ _ _ _ => False) (e :: es) (fun ds δ G Q _ => GCons t u ds δ G Q fun _ _ => False) := by
  refine pgs_imp (pgs_cons h1 h2 hs) fun vs σ H Q hw => ?_
  obtain ⟨ds, δ, G, Q3, E3, R, dl, h, k, ke⟩ := hw
  cases ds with
  | nil => exact h.elim
  | cons d r =>
    obtain ⟨v, vr, rfl, d1, d2⟩ := dl
    refine ⟨v, vr, rfl, d, δ, G, _, _, R, d1, h, fun δ' G' σ' H' s R' q => ?_, fun _ _ _ _ _ z => z⟩
    exact ⟨r, δ', G', Q3, _, R', d2.mono s, q, fun δ2 G2 σ2 H2 s2 => k δ2 G2 σ2 H2 (s.trans s2), fun _ _ _ _ _ z => z⟩
/-- (a, b, ..): the thing is a tuple of that length -/
@[simp] def GTup (n : Nat) (t : TGs3) : TG3 := fun d δ G Q E => match d with | .nod .tup xs => xs.length = n ∧ t xs δ G Q E | _ => False
theorem pg3_tup {es : List Expr} {j : Nat} {t : TGs3} {n : Nat} (hc : X.calm = true) (h : PGs3 X Γ W es t) (hn : (assignEach es X.env).length = n := by rfl) (hst : (assignEach es X.env).findIdx? (·.1) = none := by rfl) : PG3 X Γ W (.Tuple es j pos) (GTup n t) := by
  refine pg_imp (pg_tup hc h hn hst) fun v σ H Q hw => ?_
  obtain ⟨d, δ, G, Q3, E3, R, dv, h, k, ke⟩ := hw
  unfold GTup at h
  split at h
  · obtain ⟨a, vs, rfl, h1, l1⟩ := dv
    exact ⟨a, vs, rfl, SqT.of h1, by rw [← l1.length]; exact h.1, _, δ, G, Q3, E3, R, l1, h.2, k, ke⟩
  · exact h.elim
theorem pg3_imp {e : Expr} {t : TG3} (h : PG3 X Γ (fun _ _ _ _ => False) e t) : PG3 X Γ W e (fun d δ G Q _ => t d δ G Q fun _ _ => False) :=
  pg_imp h fun v σ H Q ⟨d, δ, G, Q3, E3, R, dv, h, k, ke⟩ => ⟨d, δ, G, Q3, _, R, dv, h, k, fun _ _ _ _ _ z => z⟩
@[simp] def TAsg (t : TE3) (g : TG3) : TS3 := fun D3 δ G => t δ G (fun d G1 => g d δ G1 (fun δ' G2 => D3.nx δ' G2) (fun cls G2 => D3.ex cls δ G2)) (fun cls G1 => D3.ex cls δ G1)
theorem asg_sound {t : TE3} {g : TG3} {D' : Ends} {σ : L2.St} {H : Hp} (hw : liftS X.K Γ W (TAsg t g) D' σ H) : tAsg (lift X.K Γ W t) (liftG X.K Γ W g) D' σ H := by
  obtain ⟨δ, G, D3, R, h, k⟩ := hw
  refine ⟨δ, G, _, _, R, h, fun d v G1 H1 s1 hp1 dv q => ?_, fun cls G' H' s hp q => k.ex cls δ G' σ H' s (R.mono s hp) q⟩
  exact ⟨d, δ, G1, _, _, R.mono s1 hp1, dv, q, fun δ' G' σ' H' s R' q => k.nx δ' G' σ' H' (s1.trans s) R' q, fun cls G' H' s hp q => k.ex cls δ G' σ H' (s1.trans s) (R.mono (s1.trans s) hp) q⟩
theorem ps3_asg {tg : Expr} {g : TG3} (he : PE3 X Γ W e ta) (hg : PG3 X Γ W tg g) (hs : swapsWithSole [tg] e pos.line X.env = pure false := by rfl) (hw : swappedStores [tg] e X.env = pure none := by rfl)
    (h1 : (assignEach [tg] X.env).map (·.2) = [assign tg X.env] := by rfl) : PS3 X Γ W (.Assign [tg] e pos) (TAsg ta g) := ps_imp (ps_asg he hg hs hw h1) fun _ _ _ hw => asg_sound hw
@[simp] def TSet (t : TE3) (i : Nat) : TS3 := fun D3 δ G => t δ G (fun d G1 => D3.nx (δ.set i (some d)) G1) (fun cls G1 => D3.ex cls δ G1)
theorem set_sound {t : TE3} {i : Nat} {D' : Ends} {σ : L2.St} {H : Hp} (hw : liftS X.K Γ W (TSet t i) D' σ H) : tAsg (lift X.K Γ W t) (gName i) D' σ H := by
  obtain ⟨δ, G, D3, R, h, k⟩ := hw
  exact ⟨δ, G, _, _, R, h, fun d v G1 H1 s1 hp1 dv q => k.nx _ G1 _ H1 s1 ((R.mono s1 hp1).set dv) q, fun cls G' H' s hp q => k.ex cls δ G' σ H' s (R.mono s hp) q⟩
theorem ps3_set {i : Nat} {x : Str} {pos' : Pos} (hN : X.N.Nodup) (hi : X.N[i]? = some x) (hx : Loc X.env.scope x) (he : PE3 X Γ W e ta) (hs : swapsWith e (some (.Name x pos')) pos.line X.env = pure false := by rfl) (hf : X.fn x = true ∨ X.env.scope.names.lookup x = some .local := by first | exact .inl rfl | exact .inr rfl | assumption) :
    PS3 X Γ W (.Assign [.Name x pos'] e pos) (TSet ta i) := ps_imp (ps_set hN hi hx he hs hf) fun _ _ _ hw => set_sound hw
/-- a, b = x, y (plain locals) -/
@[simp] def TPar (i j : Nat) (t : TA3) : TS3 := fun D3 δ G => t δ G (fun ds G1 => match ds with | [a, b] => D3.nx ((δ.set i (some a)).set j (some b)) G1 | _ => False) (fun cls G1 => D3.ex cls δ G1)
theorem ps3_par {i j : Nat} {x y : Str} {t : TA3} {px py pt : Pos} {kt k2 pt2} (hc : X.calm = true) (hN : X.N.Nodup) (hi : X.N[i]? = some x) (hj : X.N[j]? = some y) (hij : i ≠ j)
    (hx : X.env.scope.names.lookup x = some .local) (hy : X.env.scope.names.lookup y = some .local) (ha : PA3 X Γ W [a, b] t)
    (hw : swappedStores [.Tuple [.Name x px, .Name y py] kt pt] (.Tuple [a, b] k2 pt2) X.env = pure (some [x, y]))
    (hs : swapsWithSole [.Tuple [.Name x px, .Name y py] kt pt] (.Tuple [a, b] k2 pt2) pos.line X.env = pure false := by rfl) :
    PS3 X Γ W (.Assign [.Tuple [.Name x px, .Name y py] kt pt] (.Tuple [a, b] k2 pt2) pos) (TPar i j t) := by
  refine ps_imp (ps_par hc hN hi hj hij hx hy ha hw hs) fun D' σ H hw => ?_
  obtain ⟨δ, G, D3, R, h, k⟩ := hw
  refine ⟨δ, G, _, _, R, h, fun ds vs G1 H1 s1 hp1 dl q => ?_, fun cls G' H' s hp q => k.ex cls δ G' σ H' s (R.mono s hp) q⟩
  split at q
  · obtain ⟨v, r, rfl, d1, r2, r3, rfl, d2, rfl⟩ := dl
    exact ⟨v, r2, rfl, k.nx _ G1 _ H1 s1 (((R.mono s1 hp1).set d1).set d2) q⟩
  · exact q.elim
end
end L3
/-! L3, part e: what is walked; for, while, comprehensions. -/
namespace L3
open PySem L2

/-- J walks the items ds, as long as P holds of the heaps -/
structure Walk3 (K : PySem.W.Frag) (Γ : Gm) (J : It) (P : Hp → Gp → Prop) (ds : List D) : Prop where
  keep : ∀ H G H' G', Step0 K H G H' G' → P H G → P H' G'
  go : ∀ i H G, i < ds.length → P H G → HpR K Γ H G → J.go i H
  yld : ∀ i H G x H', i < ds.length → P H G → HpR K Γ H G → J.yld i H x H' → Step K H G H' G ∧ HpR K Γ H' G ∧ ∃ d, ds[i]? = some d ∧ Dat K Γ H' G d x
  stop : ∀ H G, P H G → HpR K Γ H G → J.stop ds.length H
abbrev TI3 := St3 → Gp → (List D → Gp → Prop) → X3 → Prop
def liftI (K : PySem.W.Frag) (Γ : Gm) (W : WX) (T : TI3) : TI := fun σ H R => ∃ δ G Q3 E3, Rel K Γ δ G σ H ∧ T δ (vis G) Q3 E3 ∧
  (∀ ds J P G' H', Step K H G H' G' → HpR K Γ H' G' → Walk3 K Γ J P ds → P H' G' → Q3 ds (vis G') → R J H') ∧ ∀ cls G' H', Step K H G H' G' → HpR K Γ H' G' → E3 cls (vis G') → W cls none σ H'
abbrev PI3 (X : Cx) (Γ : Gm) (W : WX) (tg iter : Expr) (T : TI3) : Prop := PI X tg iter (liftI X.K Γ W T)
theorem pi_imp {X : Cx} {tg iter : Expr} {t t' : TI} (h : PI X tg iter t) (f : ∀ σ H R, t' σ H R → t σ H R) : PI X tg iter t' := ⟨fun pins s σ H R I hw => h.run pins s σ H R I (f _ _ _ hw)⟩
theorem pi_or {X : Cx} {tg iter : Expr} {t t' : TI} (h : PI X tg iter t) (h' : PI X tg iter t') : PI X tg iter (fun σ H R => t σ H R ∨ t' σ H R) := ⟨fun pins s σ H R I hw => hw.elim (h.run pins s σ H R I) (h'.run pins s σ H R I)⟩
theorem get_some {ds : List D} {i : Nat} (h : i < ds.length) : ∃ d, ds[i]? = some d := ⟨ds[i], List.getElem?_eq_getElem h⟩

section
variable {K : PySem.W.Frag} {Γ : Gm}
theorem walk_lst {a : Addr} {ds : List D} : Walk3 K Γ (Itl K a) (fun H G => Dat K Γ H G (.lst ds) (.ref a)) ds where
  keep := fun H G H' G' s h => h.mono0 s
  go := fun i H G hi h R => by
    obtain ⟨a', vs, e, h1, l⟩ := h
    cases e
    obtain ⟨d, hd⟩ := get_some hi
    obtain ⟨v, hv, _⟩ := l.get hd
    exact ⟨vs, v, SqL.of h1.2, hv⟩
  yld := fun i H G x H' hi h R y => by
    obtain ⟨a', vs, e, h1, l⟩ := h
    cases e
    obtain ⟨rfl, y⟩ := y
    obtain ⟨d, hd, dd⟩ := l.get' (y vs (SqL.of h1.2))
    exact ⟨Step.refl, R, d, hd, dd⟩
  stop := fun H G h R => by
    obtain ⟨a', vs, e, h1, l⟩ := h
    cases e
    exact ⟨vs, SqL.of h1.2, by rw [l.length]; exact Nat.le_refl _⟩
theorem walk_tup {a : Addr} {ds : List D} : Walk3 K Γ (Itt K a) (fun H G => Dat K Γ H G (.tup ds) (.ref a)) ds where
  keep := fun H G H' G' s h => h.mono0 s
  go := fun i H G hi h R => by
    obtain ⟨a', vs, e, h1, l⟩ := h
    cases e
    obtain ⟨d, hd⟩ := get_some hi
    obtain ⟨v, hv, _⟩ := l.get hd
    exact ⟨vs, v, SqT.of h1, hv⟩
  yld := fun i H G x H' hi h R y => by
    obtain ⟨a', vs, e, h1, l⟩ := h
    cases e
    obtain ⟨rfl, y⟩ := y
    obtain ⟨d, hd, dd⟩ := l.get' (y vs (SqT.of h1))
    exact ⟨Step.refl, R, d, hd, dd⟩
  stop := fun H G h R => by
    obtain ⟨a', vs, e, h1, l⟩ := h
    cases e
    exact ⟨vs, SqT.of h1, by rw [l.length]; exact Nat.le_refl _⟩
theorem walk_tuK {a : Addr} {ds : List D} : Walk3 K Γ (Itt K a) (fun H G => Dat K Γ H G (.nod .tuK ds) (.ref a)) ds := by
  have sq : ∀ {H : Hp} {vs : List V}, SqT K (fun _ => none) a vs → SqT K H a vs := fun h => by
    rcases h with (z | ⟨_, z⟩) | z
    · cases z
    · cases z
    · exact .inr z
  refine ⟨fun H G H' G' s h => h.mono0 s, fun i H G hi h R => ?_, fun i H G x H' hi h R y => ?_, fun H G h R => ?_⟩
  · obtain ⟨a', vs, e, ⟨h1, _⟩, l⟩ := h
    cases e
    obtain ⟨d, hd⟩ := get_some hi
    obtain ⟨v, hv, _⟩ := l.get hd
    exact ⟨vs, v, sq h1, hv⟩
  · obtain ⟨a', vs, e, ⟨h1, _⟩, l⟩ := h
    cases e
    obtain ⟨rfl, y⟩ := y
    obtain ⟨d, hd, dd⟩ := l.get' (y vs (sq h1))
    exact ⟨Step.refl, R, d, hd, dd⟩
  · obtain ⟨a', vs, e, ⟨h1, _⟩, l⟩ := h
    cases e
    exact ⟨vs, sq h1, by rw [l.length]; exact Nat.le_refl _⟩
theorem walk_tuF {a : Addr} {ds : List D} : Walk3 K Γ (Itt K a) (fun H G => Dat K Γ H G (.nod .tuF ds) (.ref a)) ds := by
  have sq : ∀ {H : Hp} {G : Gp} {vs : List V}, TagAt K H G .tuF a vs → SqT K H a vs := fun h => let ⟨_, o, e, _⟩ := h; .inl (.inr ⟨o, e⟩)
  refine ⟨fun H G H' G' s h => h.mono0 s, fun i H G hi h R => ?_, fun i H G x H' hi h R y => ?_, fun H G h R => ?_⟩
  · obtain ⟨a', vs, e, h1, l⟩ := h
    cases e
    obtain ⟨d, hd⟩ := get_some hi
    obtain ⟨v, hv, _⟩ := l.get hd
    exact ⟨vs, v, sq h1, hv⟩
  · obtain ⟨a', vs, e, h1, l⟩ := h
    cases e
    obtain ⟨rfl, y⟩ := y
    obtain ⟨d, hd, dd⟩ := l.get' (y vs (sq h1))
    exact ⟨Step.refl, R, d, hd, dd⟩
  · obtain ⟨a', vs, e, h1, l⟩ := h
    cases e
    exact ⟨vs, sq h1, by rw [l.length]; exact Nat.le_refl _⟩
def rangeD (lo : Int) (n : Nat) : List D := (List.range n).map fun i => D.int (lo + (i : Nat))
theorem rangeD_len {lo : Int} {n : Nat} : (rangeD lo n).length = n := by simp [rangeD]
theorem walk_rng {lo : Int} {n : Nat} : Walk3 K Γ (Itr lo n) (fun _ _ => True) (rangeD lo n) where
  keep := fun H G H' G' s h => h
  go := fun i H G hi h R => by rw [rangeD_len] at hi; exact hi
  yld := fun i H G x H' hi h R y => by
    obtain ⟨rfl, rfl⟩ := y
    rw [rangeD_len] at hi
    exact ⟨Step.refl, R, .int (lo + (i : Nat)), by simp [rangeD, hi], rfl⟩
  stop := fun H G h R => by rw [rangeD_len]; exact Nat.le_refl _
def chars (x : Str) : List D := x.cps.toList.map fun c => D.str ⟨#[c]⟩
theorem walk_str {x : Str} : Walk3 K Γ (Its x) (fun _ _ => True) (chars x) where
  keep := fun H G H' G' s h => h
  go := fun i H G hi h R => by
    show i < x.cps.size
    simpa [chars] using hi
  yld := fun i H G y H' hi h R z => by
    obtain ⟨rfl, c, e, rfl⟩ := z
    refine ⟨Step.refl, R, .str ⟨#[c]⟩, ?_, rfl⟩
    unfold chars
    rw [List.getElem?_map, Array.getElem?_toList, e] <;> rfl
  stop := fun H G h R => by
    show x.cps.size ≤ (chars x).length
    simp [chars]
/-- enumerate of a list -/
def enumD (ds : List D) : List D := ds.mapIdx fun i d => D.tup [.int (i : Nat), d]
theorem walk_enum {a : Addr} {ds : List D} : Walk3 K Γ (Ite K a) (fun H G => Dat K Γ H G (.lst ds) (.ref a)) (enumD ds) where
  keep := fun H G H' G' s h => h.mono0 s
  go := fun i H G hi h R => by
    obtain ⟨a', vs, e, h1, l⟩ := h
    cases e
    have hi : i < ds.length := by simpa [enumD] using hi
    obtain ⟨d, hd⟩ := get_some hi
    obtain ⟨v, hv, _⟩ := l.get hd
    exact ⟨vs, v, SqL.of h1.2, hv⟩
  yld := fun i H G x H' hi h R y => by
    obtain ⟨a', vs, e, h1, l⟩ := h
    cases e
    obtain ⟨T, u, rfl, hT, rfl, y⟩ := y
    obtain ⟨d, hd, dd⟩ := l.get' (y vs (SqL.of h1.2))
    have st : Step K H G (upd H T (.tup [.int (i : Nat), u])) G := Step.new hT
    refine ⟨st, R.new hT, .tup [.int (i : Nat), d], ?_, T, _, rfl, upd_same, .cons rfl (.cons (dd.mono st) .nil)⟩
    unfold enumD
    rw [List.getElem?_mapIdx, hd] <;> rfl
  stop := fun H G h R => by
    obtain ⟨a', vs, e, h1, l⟩ := h
    cases e
    exact ⟨vs, SqL.of h1.2, by simp only [enumD, List.length_mapIdx]; rw [l.length]; exact Nat.le_refl _⟩
def zipD (ds es : List D) : List D := List.zipWith (fun x y => D.tup [x, y]) ds es
theorem walk_zip {a b : Addr} {ds es : List D} : Walk3 K Γ (Itz K a b) (fun H G => Dat K Γ H G (.lst ds) (.ref a) ∧ Dat K Γ H G (.lst es) (.ref b)) (zipD ds es) where
  keep := fun H G H' G' s h => ⟨h.1.mono0 s, h.2.mono0 s⟩
  go := fun i H G hi h R => by
    obtain ⟨⟨a', vs, e, h1, l⟩, b', us, e2, h2, l2⟩ := h
    cases e; cases e2
    have hi : i < min ds.length es.length := by simpa [zipD] using hi
    obtain ⟨d, hd⟩ := get_some (ds := ds) (i := i) (by omega)
    obtain ⟨d2, hd2⟩ := get_some (ds := es) (i := i) (by omega)
    obtain ⟨v, hv, _⟩ := l.get hd
    obtain ⟨v2, hv2, _⟩ := l2.get hd2
    exact ⟨vs, us, v, v2, SqL.of h1.2, SqL.of h2.2, hv, hv2⟩
  yld := fun i H G x H' hi h R y => by
    obtain ⟨⟨a', vs, e, h1, l⟩, b', us, e2, h2, l2⟩ := h
    cases e; cases e2
    obtain ⟨T, u, w, rfl, hT, rfl, y1, y2⟩ := y
    obtain ⟨d, hd, dd⟩ := l.get' (y1 vs (SqL.of h1.2))
    obtain ⟨d2, hd2, dd2⟩ := l2.get' (y2 us (SqL.of h2.2))
    have st : Step K H G (upd H T (.tup [u, w])) G := Step.new hT
    refine ⟨st, R.new hT, .tup [d, d2], ?_, T, _, rfl, upd_same, .cons (dd.mono st) (.cons (dd2.mono st) .nil)⟩
    unfold zipD
    rw [List.getElem?_zipWith, hd, hd2]
  stop := fun H G h R => by
    obtain ⟨⟨a', vs, e, h1, l⟩, b', us, e2, h2, l2⟩ := h
    cases e; cases e2
    refine ⟨vs, us, SqL.of h1.2, SqL.of h2.2, ?_⟩
    rw [← l.length, ← l2.length]
    simp only [zipD, List.length_zipWith]
    omega
end

section
variable {X : Cx} {Γ : Gm} {W : WX} {e a b c tg : Expr} {pos : Pos} {ta tb tc : TE3}
/-- lists and tuples (by value) -/
@[simp] def ISeq (t : TE3) : TI3 := fun δ G Q E => t δ G (fun d G1 => match d with
  | .nod .lst ds => Q ds G1
  | _ => False) E
@[simp] def ITup (t : TE3) : TI3 := fun δ G Q E => t δ G (fun d G1 => match d with
  | .nod .tup ds => Q ds G1
  | .nod .tuK ds => Q ds G1
  | .nod .tuF ds => Q ds G1
  | _ => False) E
theorem pi3_list (h : PE3 X Γ W e ta) : PI3 X Γ W tg e (ISeq ta) := pi_imp (pi_list h) fun σ H R' hw => by
  obtain ⟨δ, G, Q3, E3, R, h1, k, ke⟩ := hw
  refine ⟨δ, G, _, E3, R, h1, fun d v G1 H1 s1 hp1 dv q => ?_, ke⟩
  split at q
  · have dv0 := dv
    obtain ⟨p, vs, rfl, h2, l⟩ := dv
    exact ⟨p, rfl, ⟨vs, SqL.of h2.2⟩, k _ _ _ G1 H1 s1 hp1 walk_lst dv0 q⟩
  · exact q.elim
theorem pi3_tup (h : PE3 X Γ W e ta) : PI3 X Γ W tg e (ITup ta) := pi_imp (pi_tup h) fun σ H R' hw => by
  obtain ⟨δ, G, Q3, E3, R, h1, k, ke⟩ := hw
  refine ⟨δ, G, _, E3, R, h1, fun d v G1 H1 s1 hp1 dv q => ?_, ke⟩
  split at q
  · have dv0 := dv
    obtain ⟨p, vs, rfl, h2, l⟩ := dv
    exact ⟨p, rfl, ⟨vs, SqT.of h2⟩, k _ _ _ G1 H1 s1 hp1 walk_tup dv0 q⟩
  · have dv0 := dv
    obtain ⟨p, vs, rfl, h2, l⟩ := dv
    refine ⟨p, rfl, ⟨vs, ?_⟩, k _ _ _ G1 H1 s1 hp1 walk_tuK dv0 q⟩
    rcases h2 with (z | ⟨_, z⟩) | z
    · cases z
    · cases z
    · exact .inr z
  · have dv0 := dv
    obtain ⟨p, vs, rfl, ⟨_, o, h2, _⟩, l⟩ := dv
    exact ⟨p, rfl, ⟨vs, .inl (.inr ⟨o, h2⟩)⟩, k _ _ _ G1 H1 s1 hp1 walk_tuF dv0 q⟩
  · exact q.elim
def IStr (t : TE3) : TI3 := fun δ G Q E => t δ G (fun d G1 => match d with | .str x => Q (chars x) G1 | _ => False) E
theorem pi3_str (h : PE3 X Γ W e ta) : PI3 X Γ W tg e (IStr ta) := pi_imp (pi_str h) fun σ H R' hw => by
  obtain ⟨δ, G, Q3, E3, R, h1, k, ke⟩ := hw
  refine ⟨δ, G, _, E3, R, h1, fun d v G1 H1 s1 hp1 dv q => ?_, ke⟩
  split at q
  · exact ⟨_, dv, k _ _ _ G1 H1 s1 hp1 walk_str trivial q⟩
  · exact q.elim
@[simp] def IRng1 (t : TA3) : TI3 := fun δ G Q E => t δ G (fun ds G1 => match ds with | [.int n] => -(2 ^ 62) ≤ n ∧ n < 2 ^ 62 ∧ Q (rangeD 0 n.toNat) G1 | _ => False) E
@[simp] def IRng2 (t : TA3) : TI3 := fun δ G Q E => t δ G (fun ds G1 => match ds with | [.int i, .int n] => (-(2 ^ 62) ≤ i ∧ i < 2 ^ 62 ∧ -(2 ^ 62) ≤ n ∧ n < 2 ^ 62) ∧ Q (rangeD i (n - i).toNat) G1 | _ => False) E
theorem pi3_range1 {t : TA3} {p : Pos} (hg : Gl X "range") (hm : X.mg "range" = none) (ha : PA3 X Γ W [a] t) (hs : starEach [a] X.env = [(false, eval a X.env)] := by rfl) : PI3 X Γ W tg (.Call (.Name "range" p) [a] [] pos) (IRng1 t) :=
  pi_imp (pi_range1 hg hm ha hs) fun σ H R' hw => by
    obtain ⟨δ, G, Q3, E3, R, h1, k, ke⟩ := hw
    refine ⟨δ, G, _, E3, R, h1, fun ds vs G1 H1 s1 hp1 dl q => ?_, ke⟩
    split at q
    · obtain ⟨v, r, rfl, rfl, rfl⟩ := dl
      exact ⟨_, rfl, q.1, q.2.1, k _ _ _ G1 H1 s1 hp1 walk_rng trivial q.2.2⟩
    · exact q.elim
theorem pi3_range2 {t : TA3} {p : Pos} (hg : Gl X "range") (hm : X.mg "range" = none) (ha : PA3 X Γ W [a, b] t) (hs : starEach [a, b] X.env = [(false, eval a X.env), (false, eval b X.env)] := by rfl) (hs2 : starEach [b] X.env = [(false, eval b X.env)] := by rfl) : PI3 X Γ W tg (.Call (.Name "range" p) [a, b] [] pos) (IRng2 t) :=
  pi_imp (pi_range2 hg hm ha hs hs2) fun σ H R' hw => by
    obtain ⟨δ, G, Q3, E3, R, h1, k, ke⟩ := hw
    refine ⟨δ, G, _, E3, R, h1, fun ds vs G1 H1 s1 hp1 dl q => ?_, ke⟩
    split at q
    · obtain ⟨v, r, rfl, rfl, v2, r2, rfl, rfl, rfl⟩ := dl
      exact ⟨_, _, rfl, q.1, k _ _ _ G1 H1 s1 hp1 walk_rng trivial q.2⟩
    · exact q.elim
def IEnum (t : TA3) : TI3 := fun δ G Q E => t δ G (fun ds G1 => match ds with | [.nod .lst xs] => Q (enumD xs) G1 | _ => False) E
theorem pi3_enum {t : TA3} {p tpos : Pos} {elts : List Expr} {kk : Nat} (hg : Gl X "enumerate") (hm : X.mg "enumerate" = none) (ha : PA3 X Γ W [a] t) (hs : starEach [a] X.env = [(false, eval a X.env)] := by rfl) : PI3 X Γ W (.Tuple elts kk tpos) (.Call (.Name "enumerate" p) [a] [] pos) (IEnum t) :=
  pi_imp (pi_enum hg hm ha hs) fun σ H R' hw => by
    obtain ⟨δ, G, Q3, E3, R, h1, k, ke⟩ := hw
    refine ⟨δ, G, _, E3, R, h1, fun ds vs G1 H1 s1 hp1 dl q => ?_, ke⟩
    split at q
    · obtain ⟨v, r, rfl, d1, rfl⟩ := dl
      have d0 := d1
      obtain ⟨p', vs, rfl, h2, l⟩ := d1
      exact ⟨_, vs, rfl, SqL.of h2.2, k _ _ _ G1 H1 s1 hp1 walk_enum d0 q⟩
    · exact q.elim
def IZip (t : TA3) : TI3 := fun δ G Q E => t δ G (fun ds G1 => match ds with | [.nod .lst xs, .nod .lst ys] => Q (zipD xs ys) G1 | _ => False) E
theorem pi3_zip {t : TA3} {p tpos : Pos} {elts : List Expr} {kk : Nat} (h : PI X (.Tuple elts kk tpos) (.Call (.Name "zip" p) [a, b] [] pos) (iZip X.K (liftA X.K Γ W t))) : PI3 X Γ W (.Tuple elts kk tpos) (.Call (.Name "zip" p) [a, b] [] pos) (IZip t) :=
  pi_imp h fun σ H R' hw => by
    obtain ⟨δ, G, Q3, E3, R, h1, k, ke⟩ := hw
    refine ⟨δ, G, _, E3, R, h1, fun ds vs G1 H1 s1 hp1 dl q => ?_, ke⟩
    split at q
    · obtain ⟨v, r, rfl, d1, v2, r2, rfl, d2, rfl⟩ := dl
      have d0 := d1
      have d0' := d2
      obtain ⟨p', vs, rfl, h2, l⟩ := d1
      obtain ⟨p2, vs2, rfl, h3, l2⟩ := d2
      exact ⟨_, _, vs, vs2, rfl, SqL.of h2.2, SqL.of h3.2, k _ _ _ G1 H1 s1 hp1 walk_zip ⟨d0, d0'⟩ q⟩
    · exact q.elim
end

/-! ### for -/
def ForRun (g : TG3) (tb : TS3) (D3 : Ends3) : List D → St3 → Gp → Prop
  | [], δ, G => D3.nx δ G
  | x :: xs, δ, G => g x δ G (fun δ2 G2 => tb { D3 with nx := ForRun g tb D3 xs, ct := ForRun g tb D3 xs, bk := D3.nx } δ2 G2) (fun cls G2 => D3.ex cls δ G2)
@[simp] def TFor (ti : TI3) (g : TG3) (tb : TS3) : TS3 := fun D3 δ G => ti δ G (fun ds G1 => ForRun g tb D3 ds δ G1) (fun cls G1 => D3.ex cls δ G1)
section
variable {X : Cx} {Γ : Gm} {W : WX} {e a b c tg : Expr} {pos : Pos}
theorem run_for {J : It} {P : Hp → Gp → Prop} {ds : List D} {g : TG3} {tb : TS3} {D3 : Ends3} {D' : Ends} {δ : St3} {G : Gp} {σ : L2.St} {H : Hp} (k : KeepS X.K Γ W H G D3 D') (wk : Walk3 X.K Γ J P ds) (p : P H G) (R : Rel X.K Γ δ G σ H) (h : ForRun g tb D3 ds δ (vis G)) :
    ∃ W' : Nat → Nat → L2.St → Hp → Prop, (∃ m, W' 0 m σ H) ∧ ∀ i m σ H, W' i m σ H → (J.stop i H ∧ D'.nx σ H) ∨ (J.go i H ∧ ∃ N : L2.St → Hp → Prop, (∀ σ' H', N σ' H' → ∃ m', m' < m ∧ W' (i + 1) m' σ' H') ∧
      ∀ x H', J.yld i H x H' → liftG X.K Γ W g x σ H' fun σ2 H2 => liftS X.K Γ W tb { D' with nx := N, ct := N, bk := D'.nx } σ2 H2) := by
  refine ⟨fun i m σ' H' => m = ds.length - i ∧ i ≤ ds.length ∧ ∃ δ' G', Step X.K H G H' G' ∧ Rel X.K Γ δ' G' σ' H' ∧ P H' G' ∧ ForRun g tb D3 (ds.drop i) δ' (vis G'), ⟨ds.length, by omega, Nat.zero_le _, δ, G, Step.refl, R, p, h⟩, ?_⟩
  rintro i m σ1 H1 ⟨rfl, hi, δ1, G1, s1, R1, p1, q1⟩
  by_cases hl : i < ds.length
  · refine .inr ⟨wk.go i H1 G1 hl p1 R1.hp, fun σ' H' => ∃ δ' G', Step X.K H G H' G' ∧ Rel X.K Γ δ' G' σ' H' ∧ P H' G' ∧ ForRun g tb D3 (ds.drop (i + 1)) δ' (vis G'), fun σ' H' q => ⟨ds.length - (i + 1), by omega, rfl, hl, q⟩, fun x H' y => ?_⟩
    obtain ⟨s2, hp2, d, hd, dd⟩ := wk.yld i H1 G1 x H' hl p1 R1.hp y
    have e : ds.drop i = d :: ds.drop (i + 1) := by
      rw [List.drop_eq_getElem_cons hl]
      have := (List.getElem?_eq_some_iff.mp hd).2
      rw [this]
    rw [e] at q1
    have p2 := wk.keep _ _ _ _ s2.toStep0 p1
    refine ⟨d, δ1, G1, _, _, R1.mono s2 hp2, dd, q1, fun δ2 G2 σ2 H2 s3 R2 q2 => ?_, fun cls G' H' s hp q => k.ex cls δ1 G' σ1 H' ((s1.trans s2).trans s) ((R1.mono s2 hp2).mono s hp) q⟩
    have s13 := (s1.trans s2).trans s3
    have p3 := wk.keep _ _ _ _ s3.toStep0 p2
    have nx : ∀ δ' G' σ' H', Step X.K H2 G2 H' G' → Rel X.K Γ δ' G' σ' H' → ForRun g tb D3 (ds.drop (i + 1)) δ' (vis G') → ∃ δ' G', Step X.K H G H' G' ∧ Rel X.K Γ δ' G' σ' H' ∧ P H' G' ∧ ForRun g tb D3 (ds.drop (i + 1)) δ' (vis G') :=
      fun δ' G' σ' H' s R' q => ⟨δ', G', s13.trans s, R', wk.keep _ _ _ _ s.toStep0 p3, q⟩
    exact ⟨δ2, G2, _, R2, q2, ⟨nx, fun d v G' H' s => k.rt d v G' H' (s13.trans s), fun δ' G' σ' H' s => k.nx δ' G' σ' H' (s13.trans s), nx, fun cls δ' G' σ' H' s => k.ex cls δ' G' σ' H' (s13.trans s)⟩⟩
  · have e : i = ds.length := by omega
    subst e
    rw [List.drop_length] at q1
    exact .inl ⟨wk.stop H1 G1 p1 R1.hp, k.nx δ1 G1 σ1 H1 s1 R1 q1⟩
theorem ps3_for {iter : Expr} {body : List Stmt} {ti : TI3} {g : TG3} {tb : TS3} (hp : PassesOwn (model X.prog X.w) X.A X.env X.xe) (hc : X.calm = true) (hi : PI3 X Γ W tg iter ti) (hg : PG3 X Γ W tg g) (hb : PSs3 X Γ W body tb)
    (hs : ∀ x, foldedSetIterable iter X.env x = pure x := by intro _; rfl) : PS3 X Γ W (.For tg iter body [] pos) (TFor ti g tb) := by
  refine ps_imp (ps_for hp hc hi hg hb hs) fun D' σ H hw => ?_
  obtain ⟨δ, G, D3, R, h, k⟩ := hw
  refine ⟨δ, G, _, _, R, h, fun ds J P G1 H1 s1 hp1 wk p1 q1 => ?_, fun cls G' H' s hp q => k.ex cls δ G' σ H' s (R.mono s hp) q⟩
  exact run_for (k.after s1) wk p1 (R.mono s1 hp1) q1

/-! ### while -/
def TWhile (t : TT3) (tb : TS3) : TS3 := fun D3 δ G => ∃ Wm : Nat → St3 → Gp → Prop, (∃ m, Wm m δ G) ∧ ∀ m δ G, Wm m δ G →
  t δ G (fun b G1 => if b = true then tb { D3 with nx := fun δ' G' => ∃ m', m' < m ∧ Wm m' δ' G', ct := fun δ' G' => ∃ m', m' < m ∧ Wm m' δ' G', bk := D3.nx } δ G1 else D3.nx δ G1) (fun cls G1 => D3.ex cls δ G1)
theorem ps3_while {c : Expr} {body : List Stmt} {t : TT3} {tb : TS3} (hp : PassesOwn (model X.prog X.w) X.A X.env X.xe) (hc : PT3 X Γ W c t) (hb : PSs3 X Γ W body tb) : PS3 X Γ W (.While c body [] pos) (TWhile t tb) := by
  refine ps_imp (ps_while hp hc hb) fun D' σ H hw => ?_
  obtain ⟨δ, G, D3, R, ⟨Wm, ⟨m0, w0⟩, turn⟩, k⟩ := hw
  refine ⟨fun m σ' H' => ∃ δ' G', Step X.K H G H' G' ∧ Rel X.K Γ δ' G' σ' H' ∧ Wm m δ' (vis G'), ⟨m0, δ, G, Step.refl, R, w0⟩, ?_⟩
  rintro m σ1 H1 ⟨δ1, G1, s1, R1, w1⟩
  refine ⟨δ1, G1, _, _, R1, turn m δ1 (vis G1) w1, fun b G2 H2 s2 hp2 q2 => ?_, fun cls G' H' s hp q => k.ex cls δ1 G' σ1 H' (s1.trans s) (R1.mono s hp) q⟩
  cases b with
  | true =>
    rw [if_pos rfl] at q2 ⊢
    have s12 := s1.trans s2
    refine ⟨fun σ' H' => ∃ m', m' < m ∧ ∃ δ' G', Step X.K H G H' G' ∧ Rel X.K Γ δ' G' σ' H' ∧ Wm m' δ' (vis G'), fun σ' H' q => q, δ1, G2, _, R1.mono s2 hp2, q2, ?_⟩
    have nx : ∀ δ' G' σ' H', Step X.K H2 G2 H' G' → Rel X.K Γ δ' G' σ' H' → (∃ m', m' < m ∧ Wm m' δ' (vis G')) → ∃ m', m' < m ∧ ∃ δ' G', Step X.K H G H' G' ∧ Rel X.K Γ δ' G' σ' H' ∧ Wm m' δ' (vis G') := fun δ' G' σ' H' s R' ⟨m', l, q⟩ => ⟨m', l, δ', G', s12.trans s, R', q⟩
    exact ⟨nx, fun d v G' H' s => k.rt d v G' H' (s12.trans s), fun δ' G' σ' H' s => k.nx δ' G' σ' H' (s12.trans s), nx, fun cls δ' G' σ' H' s => k.ex cls δ' G' σ' H' (s12.trans s)⟩
  | false =>
    rw [if_neg Bool.false_ne_true] at q2 ⊢
    exact k.nx δ1 G2 σ1 H2 (s1.trans s2) (R1.mono s2 hp2) q2
end

/-! ### comprehensions -/
def wipe3 (δ : St3) : List Nat → St3
  | [] => δ
  | v :: vs => (wipe3 δ vs).set v none
theorem Rel.wipe {K : PySem.W.Frag} {Γ : Gm} {δ : St3} {G : Gp} {σ : L2.St} {H : Hp} (R : Rel K Γ δ G σ H) : ∀ vs : List Nat, Rel K Γ (wipe3 δ vs) G (wipe σ vs) H
  | [] => R
  | v :: vs => by
    have R1 := R.wipe vs
    refine ⟨by simp [wipe3, L2.wipe, R1.len], fun i d e => ?_, R.hp⟩
    unfold wipe3 at e
    unfold L2.wipe
    by_cases hi : v = i
    · subst hi
      have : v < (wipe3 δ vs).length := by
        have := (List.getElem?_eq_some_iff.mp e).1
        simpa using this
      rw [List.getElem?_set_self this] at e
      cases e
    · rw [List.getElem?_set_ne hi] at e ⊢
      exact R1.get i d e
theorem wipe_set {σ : L2.St} {i : Nat} {x : Option V} : ∀ {vs : List Nat}, i ∈ vs → wipe (σ.set i x) vs = wipe σ vs
  | v :: vs, h => by
    unfold wipe
    by_cases e : i ∈ vs
    · rw [wipe_set e]
    · have hv : i = v := (List.mem_cons.mp h).resolve_right e
      subst hv
      have q : ∀ (us : List Nat), i ∉ us → wipe (σ.set i x) us = (wipe σ us).set i x := fun us => by
        induction us with
        | nil => intro _; rfl
        | cons u us ih =>
          intro hu
          have h1 : i ≠ u := fun z => hu (z ▸ List.mem_cons_self ..)
          have h2 : i ∉ us := fun z => hu (List.mem_cons_of_mem _ z)
          unfold wipe
          rw [ih h2, List.set_comm _ _ h1]
      rw [q vs e, List.set_set]
theorem wipe_in {σ : L2.St} {i : Nat} : ∀ {vs : List Nat}, i ∈ vs → (L2.wipe σ vs)[i]? = if i < σ.length then some none else none
  | v :: vs, h => by
    unfold L2.wipe
    by_cases e : v = i
    · subst e
      rw [List.getElem?_set, if_pos rfl, L2.wipe_length]
    · rw [List.getElem?_set_ne e]
      exact wipe_in ((List.mem_cons.mp h).resolve_left fun z => e z.symm)
theorem wipe_wipe (σ : L2.St) (vs : List Nat) : L2.wipe (L2.wipe σ vs) vs = L2.wipe σ vs := by
  apply List.ext_getElem?
  intro i
  by_cases h : i ∈ vs
  · rw [wipe_in h, wipe_in h, L2.wipe_length]
  · rw [L2.wipe_out h, L2.wipe_out h]
/-- a comprehension's target: it stores to the names vs alone -/
def liftW (K : PySem.W.Frag) (Γ : Gm) (vs : List Nat) (T : TG3) : TG := fun v σ H Q => ∃ d δ G Q3, Rel K Γ δ G σ H ∧ Dat K Γ H G d v ∧ T d δ (vis G) Q3 (fun _ _ => False) ∧
  ∀ δ' G' σ' H', Step K H G H' G' → Rel K Γ δ' G' σ' H' → wipe σ' vs = wipe σ vs → Q3 δ' (vis G') → Q σ' H'
def liftWs (K : PySem.W.Frag) (Γ : Gm) (vs : List Nat) (T : TGs3) : TGs := fun us σ H Q => ∃ ds δ G Q3, Rel K Γ δ G σ H ∧ DatL K Γ H G ds us ∧ T ds δ (vis G) Q3 (fun _ _ => False) ∧
  ∀ δ' G' σ' H', Step K H G H' G' → Rel K Γ δ' G' σ' H' → wipe σ' vs = wipe σ vs → Q3 δ' (vis G') → Q σ' H'
section
variable {X : Cx} {Γ : Gm} {W : WX} {e a b c tg : Expr} {pos : Pos} {vs : List Nat}
abbrev PW3g (X : Cx) (Γ : Gm) (vs : List Nat) (e : Expr) (T : TG3) : Prop := PG X e (liftW X.K Γ vs T)
abbrev PW3s (X : Cx) (Γ : Gm) (vs : List Nat) (es : List Expr) (T : TGs3) : Prop := PGs X es (liftWs X.K Γ vs T)
theorem pw3_name {i : Nat} {x : Str} (hv : i ∈ vs) (hN : X.N.Nodup) (hi : X.N[i]? = some x) (hx : Loc X.env.scope x) (hf : X.fn x = true ∨ X.env.scope.names.lookup x = some .local := by first | exact .inl rfl | exact .inr rfl | assumption) : PW3g X Γ vs (.Name x pos) (GName i) :=
  pg_imp (pg_name hN hi hx hf) fun v σ H Q ⟨d, δ, G, Q3, R, dv, h, k⟩ => k _ G _ H Step.refl (R.set dv) (wipe_set hv) h
theorem pw3s_nil : PW3s X Γ vs [] GNil := pgs_imp pgs_nil fun us σ H Q ⟨ds, δ, G, Q3, R, dl, h, k⟩ => by
  obtain ⟨rfl, h⟩ := h
  exact ⟨dl, k δ G σ H Step.refl R rfl h⟩
theorem pw3s_cons {es : List Expr} {t : TG3} {u : TGs3} (h1 : PW3g X Γ vs e t) (h2 : PW3s X Γ vs es u) (hs : (assignEach (e :: es) X.env).map (·.2) = assign e X.env :: (assignEach es X.env).map (·.2) := by rfl) : PW3s X Γ vs (e :: es) (GCons t u) := by
  refine pgs_imp (pgs_cons h1 h2 hs) fun us σ H Q hw => ?_
  obtain ⟨ds, δ, G, Q3, R, dl, h, k⟩ := hw
  cases ds with
  | nil => exact h.elim
  | cons d r =>
    obtain ⟨v, vr, rfl, d1, d2⟩ := dl
    refine ⟨v, vr, rfl, d, δ, G, _, R, d1, h, fun δ' G' σ' H' s R' ew q => ?_⟩
    exact ⟨r, δ', G', Q3, R', d2.mono s, q, fun δ2 G2 σ2 H2 s2 R2 ew2 => k δ2 G2 σ2 H2 (s.trans s2) R2 (ew2.trans ew)⟩
theorem pw3_tup {es : List Expr} {j : Nat} {t : TGs3} {n : Nat} (hc : X.calm = true) (h : PW3s X Γ vs es t) (hn : (assignEach es X.env).length = n := by rfl) (hst : (assignEach es X.env).findIdx? (·.1) = none := by rfl) : PW3g X Γ vs (.Tuple es j pos) (GTup n t) := by
  refine pg_imp (pg_tup hc h hn hst) fun v σ H Q hw => ?_
  obtain ⟨d, δ, G, Q3, R, dv, h, k⟩ := hw
  unfold GTup at h
  split at h
  · obtain ⟨a, us, rfl, h1, l1⟩ := dv
    exact ⟨a, us, rfl, SqT.of h1, by rw [← l1.length]; exact h.1, _, δ, G, Q3, R, l1, h.2, k⟩
  · exact h.elim
end
@[simp] def X0 : X3 := fun _ _ => False
def W0 : WX := fun _ _ _ _ => False
/-- the turns of a comprehension over the items -/
def LcRun (δ0 : St3) (g : TG3) (tt : TT3) (te : TE3) : List D → List D → Gp → (List D → Gp → Prop) → Prop
  | [], acc, G, k => k acc G
  | x :: xs, acc, G, k => g x δ0 G (fun δ2 G2 => tt δ2 G2 (fun b G3 => if b = true then te δ2 G3 (fun y G4 => acc.length < sizeLine ∧ LcRun δ0 g tt te xs (acc ++ [y]) G4 k) X0 else LcRun δ0 g tt te xs acc G3 k) X0) X0
@[simp] def TLc (ti : TI3) (g : TG3) (tt : TT3) (te : TE3) (vs : List Nat) : TE3 := fun δ G Q E => ti δ G (fun ds G1 => LcRun (wipe3 δ vs) g tt te ds [] G1 (fun ys G2 => Q (.lst ys) G2)) E
@[simp] def TYes : TT3 := fun _ G Q _ => Q true G
section
variable {X : Cx} {Γ : Gm} {W : WX} {e a b c tg iter elt : Expr} {pos : Pos} {vs : List Nat}
theorem pts3_nil : PTs3 X Γ W [] TYes := pts_imp pts_nil fun σ H Q ⟨δ, G, Q3, E3, R, h, k, ke⟩ => k true G H Step.refl R.hp h
theorem pts3_one {t : TT3} (h : PT3 X Γ W c t) : PTs3 X Γ W [c] t := pts_one h
/-- a hidden thing changes -/
theorem Step0.hide {K : PySem.W.Frag} {H : Hp} {G : Gp} {A : Addr} {o o' : HO} (hA : G A = some .hid) (hH : H A = some o) (nt : ∀ xs, o ≠ .tup xs) : Step0 K H G (upd H A o') G where
  tup := fun b xs h => by rw [upd_ne (fun e => nt xs (by subst e; rw [hH] at h; exact Option.some.inj h))]; exact h
  frm := fun a u h n _ => by rw [upd_ne (fun e => by subst e; rw [hA] at n; cases n)]; exact h
  hid := fun _ h => h
  own := fun a u h n _ => ⟨n, u, by rw [upd_ne (fun e => by subst e; rw [hA] at n; cases n)]; exact h⟩
  lck := fun a g h l => ⟨h, fun u e => by rw [upd_ne (fun e => by subst e; rw [hA] at h; cases h; cases l)]; exact e⟩
theorem HpR.hide {K : PySem.W.Frag} {Γ : Gm} {H : Hp} {G : Gp} {A : Addr} {o o' : HO} (R : HpR K Γ H G) (hA : G A = some .hid) (hH : H A = some o) (nt : ∀ xs, o ≠ .tup xs) (n1 : NoTbl o') (n2 : ∀ φ, o' ≠ .ext φ) : HpR K Γ (upd H A o') G where
  own := fun a g e => by
    by_cases h : a = A
    · subst h; rw [hA] at e; cases e; exact ⟨o', upd_same, n1, n2⟩
    · exact (R.own a g e).mono0 (Step0.hide hA hH nt) fun u q => by rw [upd_ne h]; exact q
  tab := by
    obtain ⟨o1, h1, h2, h3⟩ := R.own A _ hA
    rw [hH] at h1; cases h1
    exact tabs_upd R.tab (.inr ⟨o, hH, h2, fun c q => h3 _⟩)
theorem Step.hidden {K : PySem.W.Frag} {H1 H H' : Hp} {G1 G : Gp} {A : Addr} (s : Step K H1 G1 H G) (n : H1 A = none) (h : ∀ a, a ≠ A → H' a = H a) (hA : ∃ o, H' A = some o) : Step K H1 G1 H' G where
  tup := fun b xs e => by rw [h b (ne_of_none e n)]; exact s.tup b xs e
  frm := fun a o e g nt => by rw [h a (ne_of_none e n)]; exact s.frm a o e g nt
  hid := s.hid
  own := fun a o e g nt => ⟨(s.own a o e g nt).1, by rw [h a (ne_of_none e n)]; exact (s.own a o e g nt).2⟩
  lck := fun a g e l => ⟨(s.lck a g e l).1, fun o e2 => by rw [h a (ne_of_none e2 n)]; exact (s.lck a g e l).2 o e2⟩
  frh := fun a o e g nt => by rw [h a (ne_of_none e n)]; exact s.frh a o e g nt
/-- the hidden thing is shown -/
theorem Step.show {K : PySem.W.Frag} {H1 H : Hp} {G1 G : Gp} {A : Addr} (s : Step K H1 G1 H G) (n : G1 A = none) : Step K H1 G1 H (gdel G A) where
  tup := s.tup
  frm := s.frm
  frh := s.frh
  hid := fun a e => by rw [gdel_ne (fun z => by subst z; rw [n] at e; cases e)]; exact s.hid a e
  own := fun a o e g nt => by
    refine ⟨?_, (s.own a o e g nt).2⟩
    by_cases h : a = A
    · subst h; exact gdel_same
    · rw [gdel_ne h]; exact (s.own a o e g nt).1
  lck := fun a g e l => ⟨by rw [gdel_ne (fun z => by subst z; rw [n] at e; cases e)]; exact (s.lck a g e l).1, (s.lck a g e l).2⟩
theorem vis_show {G : Gp} {A : Addr} (h : G A = some .hid) : vis (gdel G A) = vis G := by
  funext b
  unfold vis gdel
  by_cases e : b = A
  · rw [if_pos e, e, h]
  · rw [if_neg e]
theorem run_lc {g : TG3} {tt : TT3} {te : TE3} {σ : L2.St} {Q : VK} {δ : St3} {ds : List D} {J : It} {P : Hp → Gp → Prop} {G1 : Gp} {H1 : Hp} {Q3 : K3} (R : Rel X.K Γ δ G1 σ H1) (wk : Walk3 X.K Γ J P ds) (p1 : P H1 G1)
    (k : ∀ d v G' H', Step X.K H1 G1 H' G' → HpR X.K Γ H' G' → Dat X.K Γ H' G' d v → Q3 d (vis G') → Q v H') (q1 : LcRun (wipe3 δ vs) g tt te ds [] (vis G1) (fun ys G2 => Q3 (.lst ys) G2)) :
    ∀ D, H1 D = none → ∃ W : Nat → Nat → Hp → Prop, (∃ m, W 0 m (upd H1 D (.lst []))) ∧ ∀ i m H, W i m H →
      (J.stop i H ∧ Q (.ref D) H) ∨ (J.go i H ∧ ∃ Nx : Hp → Prop, (∀ H', Nx H' → ∃ m', m' < m ∧ W (i + 1) m' H') ∧ ∀ x H', J.yld i H x H' → liftW X.K Γ vs g x (L2.wipe σ vs) H' fun σ2 H2 => L2.wipe σ2 vs = L2.wipe σ vs ∧ liftT X.K Γ W0 tt σ2 H2 fun b H3 =>
        if b = true then lift X.K Γ W0 te σ2 H3 fun y H4 => ∃ acc, H4 D = some (.lst acc) ∧ acc.length < sizeLine ∧ Nx (upd H4 D (.lst (acc ++ [y]))) else Nx H3) := by
  intro A hA
  have hp1 := R.hp
  have hgA : G1 A = none := own_none hp1 hA
  have sA : Step X.K H1 G1 (upd H1 A (.lst [])) (gset G1 A .hid) := Step.newG hA hgA
  have hpA : HpR X.K Γ (upd H1 A (.lst [])) (gset G1 A .hid) := hp1.newG (g := .hid) hA ⟨_, upd_same, noTbl_lst, fun φ z => nomatch z⟩
  refine ⟨fun i m H' => m = ds.length - i ∧ i ≤ ds.length ∧ ∃ G' acc vacc, Step X.K H1 G1 H' G' ∧ HpR X.K Γ H' G' ∧ P H' G' ∧ G' A = some .hid ∧ H' A = some (.lst vacc) ∧ DatL X.K Γ H' G' acc vacc ∧
      LcRun (wipe3 δ vs) g tt te (ds.drop i) acc (vis G') (fun ys G2 => Q3 (.lst ys) G2), ⟨ds.length, by omega, Nat.zero_le _, gset G1 A .hid, [], [], sA, hpA, wk.keep _ _ _ _ sA.toStep0 p1, gset_same, upd_same, rfl, by rw [vis_hide hgA]; exact q1⟩, ?_⟩
  rintro i m H2 ⟨rfl, hi, G2, acc, vacc, s2, hp2, p2, gA, hA2, dacc, q2⟩
  have Rw : ∀ {H' : Hp} {G' : Gp}, Step X.K H1 G1 H' G' → HpR X.K Γ H' G' → Rel X.K Γ (wipe3 δ vs) G' (L2.wipe σ vs) H' := fun s hp => (R.mono s hp).wipe vs
  by_cases hl : i < ds.length
  · refine .inr ⟨wk.go i H2 G2 hl p2 hp2, fun H' => ∃ G' acc vacc, Step X.K H1 G1 H' G' ∧ HpR X.K Γ H' G' ∧ P H' G' ∧ G' A = some .hid ∧ H' A = some (.lst vacc) ∧ DatL X.K Γ H' G' acc vacc ∧ LcRun (wipe3 δ vs) g tt te (ds.drop (i + 1)) acc (vis G') (fun ys G2 => Q3 (.lst ys) G2),
      fun H' q => ⟨ds.length - (i + 1), by omega, rfl, hl, q⟩, fun x H' y => ?_⟩
    obtain ⟨s3, hp3, d, hd, dd⟩ := wk.yld i H2 G2 x H' hl p2 hp2 y
    have e : ds.drop i = d :: ds.drop (i + 1) := by
      rw [List.drop_eq_getElem_cons hl]
      have := (List.getElem?_eq_some_iff.mp hd).2
      rw [this]
    rw [e] at q2
    have s23 := s2.trans s3
    have nt : NoTbl (.lst vacc) := noTbl_lst
    refine ⟨d, wipe3 δ vs, G2, _, Rw s23 hp3, dd, q2, fun δ4 G4 σ4 H4 s4 R4 ew q4 => ⟨ew.trans (wipe_wipe σ vs), ?_⟩⟩
    refine ⟨δ4, G4, _, _, R4, q4, fun bb G5 H5 s5 hp5 q5 => ?_, fun _ _ _ _ _ z => z.elim⟩
    have s35 : Step X.K H2 G2 H5 G5 := (s3.trans s4).trans s5
    have s25 := s2.trans s35
    cases bb with
    | false =>
      have q5 : LcRun (wipe3 δ vs) g tt te (ds.drop (i + 1)) acc (vis G5) (fun ys G2 => Q3 (.lst ys) G2) := q5
      show ∃ G' acc vacc, _
      exact ⟨G5, acc, vacc, s25, hp5, wk.keep _ _ _ _ s35.toStep0 p2, s35.hid A gA, s35.frh A _ hA2 gA nt, dacc.mono s35, q5⟩
    | true =>
      have q5 : te δ4 (vis G5) (fun y G4 => acc.length < sizeLine ∧ LcRun (wipe3 δ vs) g tt te (ds.drop (i + 1)) (acc ++ [y]) G4 (fun ys G2 => Q3 (.lst ys) G2)) X0 := q5
      show lift X.K Γ W0 te σ4 H5 _
      refine ⟨δ4, G5, _, _, R4.mono s5 hp5, q5, fun dy vy G6 H6 s6 hp6 dvy q6 => ?_, fun _ _ _ _ _ z => z.elim⟩
      have s36 : Step X.K H2 G2 H6 G6 := s35.trans s6
      have gA6 := s36.hid A gA
      have hA6 := s36.frh A _ hA2 gA nt
      have dacc6 := dacc.mono s36
      have hh : Step0 X.K H6 G6 (upd H6 A (.lst (vacc ++ [vy]))) G6 := Step0.hide gA6 hA6 fun _ z => nomatch z
      refine ⟨vacc, hA6, by rw [← dacc6.length]; exact q6.1, G6, acc ++ [dy], vacc ++ [vy], Step.hidden (s2.trans s36) hA (fun a ha => upd_ne ha) ⟨_, upd_same⟩, hp6.hide gA6 hA6 (fun _ z => nomatch z) noTbl_lst (fun _ z => nomatch z),
        wk.keep _ _ _ _ (s36.toStep0.trans hh) p2, gA6, upd_same, (dacc6.append (.cons dvy .nil)).mono0 hh, q6.2⟩
  · have e : i = ds.length := by omega
    subst e
    rw [List.drop_length] at q2
    refine .inl ⟨wk.stop H2 G2 p2 hp2, k (.lst acc) _ (gdel G2 A) H2 (s2.show hgA) (hp2.sub (Sub.del (fun g e => by rw [gA] at e; cases e; rfl))) ⟨A, vacc, rfl, ⟨gdel_same, hA2⟩, dacc.sub (Sub.del (fun g e => by rw [gA] at e; cases e; rfl))⟩ ?_⟩
    rw [vis_show gA]
    exact q2
theorem lc_sound {ti : TI3} {g : TG3} {tt : TT3} {te : TE3} {σ : L2.St} {H : Hp} {Q : VK} (hw : lift X.K Γ W (TLc ti g tt te vs) σ H Q) :
    tLc (liftI X.K Γ W ti) (liftW X.K Γ vs g) (liftT X.K Γ W0 tt) (lift X.K Γ W0 te) vs σ H Q := by
  obtain ⟨δ, G, Q3, E3, R, h, k, ke⟩ := hw
  exact ⟨δ, G, _, E3, R, h, fun ds J P G1 H1 s1 hp1 wk p1 q1 => run_lc (R.mono s1 hp1) wk p1 (fun d v G' H' s' => k d v G' H' (s1.trans s')) q1, ke⟩
variable {ti : TI3} {g : TG3} {tt : TT3} {te : TE3} {ifs : List Expr} {scope : Scope} {own : List (Str × Nat)}
theorem pe3_lc (hc : X.calm = true) (hN : X.N.Nodup) (hi : PI3 X Γ W tg iter ti) (ok : BlkOk X.N X.env.scope scope own)
    (hg : ∀ (s : Shared) (H : Hp) (C : Addr) (cl : List (Str × Addr)) (fp : List Addr), PW3g (X.blk s H scope (compEnvC scope cl C X.env) fp) Γ (own.map (·.2)) tg g) (ht : ∀ (s : Shared) (H : Hp) (C : Addr) (cl : List (Str × Addr)) (fp : List Addr), PTs3 (X.blk s H scope (compEnvC scope cl C X.env) fp) Γ W0 ifs tt)
    (he : ∀ (s : Shared) (H : Hp) (C : Addr) (cl : List (Str × Addr)) (fp : List Addr), PE3 (X.blk s H scope (compEnvC scope cl C X.env) fp) Γ W0 elt te) (hs : ∀ x, foldedSetIterable iter X.env x = pure x := by intro _; rfl) :
    PE3 X Γ W (.ListComp elt [⟨tg, iter, ifs, 0⟩] scope pos) (TLc ti g tt te (own.map (·.2))) :=
  pe_imp (pe_lc hc hN hi ok hg ht he hs) fun _ _ _ hw => lc_sound hw
theorem ps3_setLc {i : Nat} {y : Str} {py spos : Pos} (hc : X.calm = true) (hN : X.N.Nodup) (hy : X.N[i]? = some y) (hyl : X.env.scope.names.lookup y = some .local)
    (hsw : swapsWith (.ListComp elt [⟨tg, iter, ifs, 0⟩] scope pos) (some (.Name y py)) spos.line X.env = pure true) (hi : PI3 X Γ W tg iter ti) (ok : BlkOk X.N X.env.scope scope own)
    (hg : ∀ (s : Shared) (H : Hp) (C : Addr) (cl : List (Str × Addr)) (fp : List Addr), PW3g (X.blk s H scope (compEnvC scope cl C X.env) fp) Γ (own.map (·.2)) tg g) (ht : ∀ (s : Shared) (H : Hp) (C : Addr) (cl : List (Str × Addr)) (fp : List Addr), PTs3 (X.blk s H scope (compEnvC scope cl C X.env) fp) Γ W0 ifs tt)
    (he : ∀ (s : Shared) (H : Hp) (C : Addr) (cl : List (Str × Addr)) (fp : List Addr), PE3 (X.blk s H scope (compEnvC scope cl C X.env) fp) Γ W0 elt te) (hs : ∀ x, foldedSetIterable iter X.env x = pure x := by intro _; rfl) :
    PS3 X Γ W (.Assign [.Name y py] (.ListComp elt [⟨tg, iter, ifs, 0⟩] scope pos) spos) (TSet (TLc ti g tt te (own.map (·.2))) i) :=
  ps_imp (ps_setLc hc hN hy hyl hsw hi ok hg ht he hs) fun D' σ H hw => by
    have h2 := set_sound hw
    exact lc_sound (W := W) h2
end
end L3
/-! L3, part f: attributes, calls, defs, raise. -/
namespace L3
open PySem PySem.Spec PyProof.Rows L2

section
variable {X : Cx} {Γ : Gm} {W : WX} {e o a b c value : Expr} {pos pos' : Pos} {f : Str} {ta tb tc tv : TE3}
@[simp] def TFld (K : PySem.W.Frag) (f : Str) (t : TE3) : TE3 := fun δ G Q E => t δ G (fun x G1 => match x with
  | .ref p => (match G1 p with
    | some (.ins C fs) => Cls K C ∧ NoAttr K C f ∧ onS (fs.lookup f) fun d => Q d G1
    | _ => False)
  | .nod (.obj C ns) xs => Cls K C ∧ NoAttr K C f ∧ onS ((ns.zip xs).lookup f) fun d => Q d G1
  | _ => False) E
theorem pe3_fld (he : PE3 X Γ W e ta) (hb : attributeBase e f X.env (eval e X.env) = eval e X.env) : PE3 X Γ W (.Attribute e f pos) (TFld X.K f ta) := pe_imp (pe_fld he hb) fun σ H Q hw => by
  obtain ⟨δ, G, Q3, E3, R, h1, k, ke⟩ := hw
  refine ⟨δ, G, _, E3, R, h1, fun x v G1 H1 s1 hp1 dx q => ?_, ke⟩
  split at q
  · obtain rfl : v = _ := dx
    split at q
    · rename_i C fs hg
      obtain ⟨hc, hn, q⟩ := q
      obtain ⟨d, hl, q⟩ := onS_iff.mp q
      obtain ⟨dx, vs, h2, l⟩ := hp1.own _ _ (vis_some hg)
      obtain ⟨u, hu, du⟩ := DatF.lookup l f hl
      exact ⟨_, C, dx, vs, u, rfl, h2, hc, hn, hu, k d u G1 H1 s1 hp1 du q⟩
    · exact q.elim
  · obtain ⟨p, vs, rfl, ⟨_, hz, dx, h2⟩, l⟩ := dx
    obtain ⟨hc, hn, q⟩ := q
    obtain ⟨d, hl, q⟩ := onS_iff.mp q
    obtain ⟨u, hu, du⟩ := DatF.lookup (DatF.of_zip l) f hl
    exact ⟨p, _, dx, _, u, rfl, h2, hc, hn, hu, k d u G1 H1 s1 hp1 du q⟩
  · exact q.elim
@[simp] def TSFld (K : PySem.W.Frag) (f : Str) (to tv : TE3) : TS3 := fun D3 δ G => tv δ G (fun y G1 => to δ G1 (fun x G2 => match x with
  | .ref p => (match G2 p with
    | some (.ins C fs) => Cls K C ∧ NoAttr K C f ∧ fs.length < 1000 ∧ D3.nx δ (gset G2 p (.ins C (putD f y fs)))
    | _ => False)
  | _ => False) (fun cls G2 => D3.ex cls δ G2)) (fun cls G2 => D3.ex cls δ G2)
theorem ps3_fld (ho : PE3 X Γ W o ta) (hv : PE3 X Γ W value tv) (hs : swapsWith value (some (.Attribute o f pos')) pos.line X.env = pure false) : PS3 X Γ W (.Assign [.Attribute o f pos'] value pos) (TSFld X.K f ta tv) := by
  refine ps_imp (ps_fld ho hv hs) fun D' σ H hw => ?_
  obtain ⟨δ, G, D3, R, h, k⟩ := hw
  refine ⟨δ, G, _, _, R, h, fun y w G1 H1 s1 hp1 dy q => ?_, fun cls G' H' s hp q => k.ex cls δ G' σ H' s (R.mono s hp) q⟩
  refine ⟨δ, G1, _, _, R.mono s1 hp1, q, fun x v G2 H2 s2 hp2 dx q => ?_, fun cls G' H' s hp q => k.ex cls δ G' σ H' (s1.trans s) ((R.mono s1 hp1).mono s hp) q⟩
  split at q
  · obtain rfl : v = _ := dx
    split at q
    · rename_i C fs hg
      obtain ⟨hc, hn, hl, q⟩ := q
      have hg' := vis_some hg
      obtain ⟨dx, vs, h2, l⟩ := hp2.own _ _ hg'
      obtain ⟨st, hp3⟩ := hp2.put (o' := .ins C dx (putF f w vs)) (g' := .ins C (putD f y fs)) hg' rfl fun st => ⟨dx, _, upd_same, DatF.mono st (DatF.put (dy.mono s2) l)⟩
      refine ⟨_, C, dx, vs, rfl, h2, hc, hn, by rw [← DatF.length l]; exact hl, k.nx δ _ σ _ ((s1.trans s2).trans st) (((R.mono s1 hp1).mono s2 hp2).mono st hp3) ?_⟩
      rw [vis_gset (by intro z; cases z)]
      exact q
    · exact q.elim
  · exact q.elim
/-- o.f op= e -/
@[simp] def TSFldAug (K : PySem.W.Frag) (f : Str) (r : R3) (to tv : TE3) : TS3 := fun D3 δ G => to δ G (fun x G1 => match x with
  | .ref p => (match G1 p with
    | some (.ins C fs) => Cls K C ∧ NoAttr K C f ∧ onS (fs.lookup f) fun d => tv δ G1 (fun y G2 => r d y G2 fun z G3 => match G3 p with
      | some (.ins C' fs) => C' = C ∧ fs.length < 1000 ∧ D3.nx δ (gset G3 p (.ins C (putD f z fs)))
      | _ => False) (fun cls G2 => D3.ex cls δ G2)
    | _ => False)
  | _ => False) (fun cls G2 => D3.ex cls δ G2)
theorem ps3_fldaug {op : Operator} {rd : V → V → Hp → VK → Prop} {r3 : R3} {tpos : Pos} (ho : PE3 X Γ W o ta) (hv : PE3 X Γ W value tv) (hop : InOp X op rd) (hs : Sound2 X.K Γ rd r3) (hb : attributeBase o f X.env (eval o X.env) = eval o X.env := by rfl) : PS3 X Γ W (.AugAssign (.Attribute o f tpos) op value pos) (TSFldAug X.K f r3 ta tv) := by
  refine ps_imp (ps_fldaug ho hv hop) fun D' σ H hw => ?_
  obtain ⟨δ, G, D3, R, h, k⟩ := hw
  refine ⟨δ, G, _, _, R, h, fun x v G1 H1 s1 hp1 dx q => ?_, fun cls G' H' s hp q => k.ex cls δ G' σ H' s (R.mono s hp) q⟩
  split at q
  · obtain rfl : v = _ := dx
    split at q
    · rename_i C fs hg
      obtain ⟨hc, hn, q⟩ := q
      obtain ⟨d, hl, q⟩ := onS_iff.mp q
      obtain ⟨dx, vs, h2, l⟩ := hp1.own _ _ (vis_some hg)
      obtain ⟨u, hu, du⟩ := DatF.lookup l f hl
      refine ⟨_, C, dx, vs, u, rfl, h2, hc, hn, hu, δ, G1, _, _, R.mono s1 hp1, q, fun y w G2 H2 s2 hp2 dy q => ?_, fun cls G' H' s hp q => k.ex cls δ G' σ H' (s1.trans s) ((R.mono s1 hp1).mono s hp) q⟩
      refine hs d y u w H2 G2 _ _ hp2 (du.mono s2) dy q fun z zv G3 H3 s3 hp3 dz q => ?_
      split at q
      · rename_i C' fs' hg3
        obtain ⟨rfl, hl3, q⟩ := q
        have hg' := vis_some hg3
        obtain ⟨dx', vs', h3, l3⟩ := hp3.own _ _ hg'
        obtain ⟨st, hp4⟩ := hp3.put (o' := .ins C' dx' (putF f zv vs')) (g' := .ins C' (putD f z fs')) hg' rfl fun st => ⟨dx', _, upd_same, DatF.mono st (DatF.put dz l3)⟩
        refine ⟨dx', vs', h3, by rw [← DatF.length l3]; exact hl3, k.nx δ _ σ _ (((s1.trans s2).trans s3).trans st) ((((R.mono s1 hp1).mono s2 hp2).mono s3 hp3).mono st hp4) ?_⟩
        rw [vis_gset (by intro z; cases z)]
        exact q
      · exact q.elim
    · exact q.elim
  · exact q.elim
end

/-! ### promises -/
abbrev Sp3 := List D → Gp → K3 → X3 → Prop
def liftSp (K : PySem.W.Frag) (Γ : Gm) (sp3 : Sp3) : Sp := fun vs H Q E => ∃ ds G Q3 E3, DatL K Γ H G ds vs ∧ HpR K Γ H G ∧ sp3 ds (vis G) Q3 E3 ∧
  (∀ d v G' H', Step K H G H' G' → HpR K Γ H' G' → Dat K Γ H' G' d v → Q3 d (vis G') → Q v H') ∧ ∀ cls G' H', Step K H G H' G' → HpR K Γ H' G' → E3 cls (vis G') → E cls none H'
def Fn3 (Γ : Gm) (P : Program) (w : World) (K : PySem.W.Frag) (mg : Str → Option Value) (base : Heap) (k : Nat) (f : Addr) (fd : FuncData) (ps : List Str) (sp3 : Sp3) : Prop := FnOk P w K mg base (L2.CX P w) k f fd ps (liftSp K Γ sp3)
theorem Fn3.mono {Γ : Gm} {P : Program} {w : World} {K : PySem.W.Frag} {mg : Str → Option Value} {base : Heap} {j k : Nat} {f : Addr} {fd : FuncData} {ps : List Str} {sp3 : Sp3} (F : Fn3 Γ P w K mg base j f fd ps sp3) (h : j ≤ k) : Fn3 Γ P w K mg base k f fd ps sp3 := FnOk.mono F h
def RetC (Q3 : K3) : K3 := fun d G => ∃ d' G', Sub G' G ∧ Fz G G' d d' ∧ Q3 d' G'
theorem RetC.now {Q3 : K3} {d : D} {G : Gp} (h : Q3 d G) : RetC Q3 d G := ⟨d, G, Sub.refl, Fz.same, h⟩
theorem RetC.sub {Q3 : K3} {d : D} {G G' : Gp} (s : Sub G' G) (h : Q3 d G') : RetC Q3 d G := ⟨d, G', s, Fz.same, h⟩
def ExC (E3 : X3) : X3 := fun cls G => ∃ G', Sub G' G ∧ E3 cls G'
@[simp] def start3 (N : List Str) (ds : List D) : St3 := ds.map some ++ List.replicate (N.length - ds.length) none
theorem Rel.start {K : PySem.W.Frag} {Γ : Gm} {G : Gp} {H : Hp} {N : List Str} {ds : List D} {vs : List V} (R : HpR K Γ H G) (h : DatL K Γ H G ds vs) : Rel K Γ (start3 N ds) G (L2.start N vs) H := by
  refine ⟨by simp [start3, L2.start, h.length], fun i d e => ?_, R⟩
  unfold start3 at e
  unfold L2.start
  by_cases hi : i < ds.length
  · rw [List.getElem?_append_left (by simpa using hi), List.getElem?_map] at e
    obtain ⟨d', hd, e⟩ := Option.map_eq_some_iff.mp e
    cases e
    obtain ⟨v, hv, dv⟩ := h.get hd
    exact ⟨v, by rw [List.getElem?_append_left (by simpa [← h.length] using hi), List.getElem?_map, hv] <;> rfl, dv⟩
  · rw [List.getElem?_append_right (by simpa using hi)] at e
    rw [List.getElem?_replicate] at e
    split at e
    · cases e
    · cases e
abbrev WE3 (E : XK) : WX := fun cls d _ H => E cls d H
/-- a def as it stands, whatever its defaults -/
structure FunA (K : PySem.W.Frag) (x qual : Str) (st : Stmt) (f : Addr) (fd : FuncData) : Prop where
  ex : ∃ (oc : Value) (od : Option Addr) (dV kV doc pm : Value) (an : Option Addr) (cdv ct : Value) (osl : Array (Option Value)),
    fd = PySem.W.fnOf x qual (defArgs st) (defBody st) (defScope st) dV kV doc pm an cdv ct ∧ K.lookup f = some ⟨oc, od, .func fd, osl⟩ ∧ PySem.W.codeIn K cdv qual = true
theorem _root_.L2.Fun.a {K : PySem.W.Frag} {x qual : Str} {st : Stmt} {f : Addr} {fd : FuncData} (F : Fun K x qual st f fd) : FunA K x qual st f fd :=
  let ⟨oc, od, kV, doc, pm, an, cdv, ct, osl, e, l, c⟩ := F.ex
  ⟨oc, od, .none, kV, doc, pm, an, cdv, ct, osl, e, l, c⟩
theorem _root_.L2.FunD.a {K : PySem.W.Frag} {x qual : Str} {st : Stmt} {dvs : List V} {kws : List (Str × V)} {f : Addr} {fd : FuncData} (F : FunD K x qual (defArgs st) (defBody st) (defScope st) dvs kws f fd) : FunA K x qual st f fd :=
  let ⟨oc, od, dV, kV, doc, pm, an, cdv, ct, osl, e, l, c, _, _⟩ := F.ex
  ⟨oc, od, dV, kV, doc, pm, an, cdv, ct, osl, e, l, c⟩
theorem fn3 {P : Program} {w : World} {K : PySem.W.Frag} {mg : Str → Option Value} {base : Heap} {x qual : Str} {st : Stmt} {f : Addr} {fd : FuncData} {N ps : List Str} {k : Nat} {sp3 : Sp3} (Γ : Gm) (F : FunA K x qual st f fd) (S : FnScope N ps (defScope st)) (len : ∀ ds G Q E, sp3 ds G Q E → ds.length = ps.length)
    (body : ∀ (cdv : Value) (A : Around) (outer : List Env) (s : Shared) (H : Hp) (E : XK), fd.code = cdv → Room k (A.deeper (envOfC qual (defScope st) s.heap.objs.size f cdv)) →
      ∃ T : TS3, PSs3 (cxOf (L2.CX P w) P w K mg base N qual (defScope st) f cdv A outer s H E) Γ (WE3 E) (defBody st) T ∧
        ∀ ds G Q3 E3, sp3 ds G Q3 E3 → T { nx := fun _ G' => RetC Q3 .non G', rt := RetC Q3, ex := fun cls _ G' => ExC E3 cls G' } (start3 N ds) G) :
    Fn3 Γ P w K mg base (k + 1) f fd ps sp3 := by
  obtain ⟨oc, od, dV, kV, doc, pm, an, cdv, ct, osl, rfl, lk, hcd⟩ := F.ex
  refine fn_of lk hcd S (fun vs H Q E ⟨ds, G, Q3, E3, dl, _, h, _⟩ => ?_) fun A outer s H vs Q E hr ⟨ds, G, Q3, E3, dl, hp, h, kq, ke⟩ => ?_
  · rw [← dl.length]
    exact len _ _ _ _ h
  · obtain ⟨T, hT, hd⟩ := body cdv A outer s H E rfl hr
    have fin : ∀ d v G' H', Step K H G H' G' → HpR K Γ H' G' → Dat K Γ H' G' d v → RetC Q3 d (vis G') → Q v H' := fun d v G' H' s' hp' dv ⟨d', G2, sb, fz, q⟩ =>
      kq d' v (ovl G' G2) H' (s'.let sb) (hp'.sub (sub_ovl sb)) (fz K Γ H' G' v rfl hp' (dv.sub (sub_ovl sb))) (by rw [vis_sub sb]; exact q)
    refine ⟨_, hT, start3 N ds, G, _, Rel.start hp dl, hd ds (vis G) Q3 E3 h, ⟨fun δ' G' σ' H' s' R' q => fin .non .non G' H' s' R'.hp rfl q, fin, fun _ _ _ _ _ _ z => z.elim, fun _ _ _ _ _ _ z => z.elim, fun cls δ' G' σ' H' s' R' q => ?_⟩⟩
    obtain ⟨G2, sb, q⟩ := q
    exact ke cls (ovl G' G2) H' (s'.let sb) (R'.hp.sub (sub_ovl sb)) (by rw [vis_sub sb]; exact q)

/-! ### calls -/
section
variable {X : Cx} {W : WX} {k : Nat} {f C : Addr} {fd : FuncData} {ps : List Str} {sp : Sp} {dvs : List V} {ds : List Value} {x m : Str} {p pos apos : Pos} {e o : Expr} {es : List Expr} {ta : TE} {t : TA}
theorem run_any {pins : List (Addr × Obj)} {σ : L2.St} {H : Hp} {s : Shared} {Q : VK} {us : List Value} {vs : List V} (F : FnOk X.prog X.w X.K X.mg X.base (L2.CX X.prog X.w) k f fd ps sp) (hr : Room k X.A) (hb : Binds X.K fd ps ds) (hd : Vals dvs ds) (tk : Takes X W)
    (I : Inv X pins σ H s) (r : Vals vs us) (h : sp (vs ++ dvs) H Q fun cls d H' => W cls d σ H') : wpAny (model X.prog X.w) X.A (call (.ref f) us) (EP X pins σ Q) X.xe s := by
  have r2 : Vals (vs ++ dvs) (us ++ ds) := r.append hd
  have hl : (us ++ ds).length = ps.length := by rw [← r2.length]; exact F.len _ _ _ _ h
  refine wpAny_call (codeAny_mono (F.run X.A X.stack s H ⟨us, []⟩ (us ++ ds) (vs ++ dvs) Q _ hr I.env0 (hb s us I.kIn hl) r2 h) fun r s' hq => ?_)
  cases r with
  | error e => exact passAt tk σ pins H s e s' I hq
  | ok fl =>
    cases fl with
    | ret u => exact I.after hq
    | next => exact False.elim hq
    | brk => exact False.elim hq
    | cont => exact False.elim hq
theorem pe_callW (F : FnOk X.prog X.w X.K X.mg X.base (L2.CX X.prog X.w) k f fd ps sp) (hr : Room k X.A) (hg : Gl X x) (hm : X.mg x = some (.ref f)) (hk : PySem.W.keepIn X.K (.ref f) = true) (hb : Binds X.K fd ps ds) (hd : Vals dvs ds) (tk : Takes X W)
    (ha : PA X (e :: es) t) (hdb : (x == ("__debug__" : Str)) = false := by decide) (he : starEach (e :: es) X.env = (false, eval e X.env) :: starEach es X.env := by rfl) (hpl : (backTo pos (starEach es X.env)).any (·.1) = false := by rfl) :
    PE X (.Call (.Name x p) (e :: es) [] pos) (fun σ H Q => t σ H fun vs H1 => sp (vs ++ dvs) H1 Q fun cls d H' => W cls d σ H') := by
  refine ⟨fun pins s σ H Q I h => ?_⟩
  refine wpAny_Call_Name_kw (ld_glob I hg hm ?_ hdb)
  refine PySem.W.callWith_K (h₀ := X.base) I.ok.mod.kin hk (thn (ha.run pos pins s σ H _ I h) fun us s1 ⟨vs, H1, I1, r, q⟩ => ⟨I1.kIn, ?_⟩) he hpl
  exact run_any F hr hb hd tk I1 r q
theorem pe_callW0 (F : FnOk X.prog X.w X.K X.mg X.base (L2.CX X.prog X.w) k f fd ps sp) (hr : Room k X.A) (hg : Gl X x) (hm : X.mg x = some (.ref f)) (hk : PySem.W.keepIn X.K (.ref f) = true) (hb : Binds X.K fd ps ds) (hd : Vals dvs ds) (tk : Takes X W)
    (hdb : (x == ("__debug__" : Str)) = false := by decide) : PE X (.Call (.Name x p) [] [] pos) (fun σ H Q => sp dvs H Q fun cls d H' => W cls d σ H') := by
  refine ⟨fun pins s σ H Q I h => ?_⟩
  refine wpAny_Call_Name_kw (ld_glob I hg hm ?_ hdb)
  exact PySem.W.callWith_K0 I.kIn hk (run_any (us := []) (vs := []) F hr hb hd tk I .nil h)
theorem pe_methW {pl : Sem Bool} (he : PE X o ta) (c : Cls X.K C) (hm : Meth X.K C m f) (F : FnOk X.prog X.w X.K X.mg X.base (L2.CX X.prog X.w) k f fd ps sp) (hr : Room k X.A) (hb : Binds X.K fd ps ds) (hd : Vals dvs ds) (tk : Takes X W) (ha : PA X (e :: es) t)
    (hst : starEach (e :: es) X.env = (false, eval e X.env) :: starEach es X.env := by rfl) (hpl : (backTo pos (starEach es X.env)).any (·.1) = false := by rfl)
    (ht : eval (.Call (.Attribute o m apos) (e :: es) [] pos) X.env = (do
      let ov ← eval o X.env
      standAt apos.atName
      let (f, first) ← holding [ov] (getMethod ov m pl)
      callWith pos f first (backTo pos (starEach (e :: es) X.env)) (backToKw pos (keywordEach [] X.env))) := by rfl) :
    PE X (.Call (.Attribute o m apos) (e :: es) [] pos) (fun σ H Q => ta σ H fun x H1 => ∃ a dx fs, x = .ref a ∧ H1 a = some (.ins C dx fs) ∧ fs.lookup m = none ∧ t σ H1 fun vs H2 => sp (x :: (vs ++ dvs)) H2 Q fun cls d H' => W cls d σ H') := by
  refine ⟨fun pins s σ H Q I h => ?_⟩
  refine PySem.W.methodCall_KW (pl := pl) (thn (he.run pins s σ H _ I h) fun u s1 ⟨x, H1, I1, rx, a, dx, fs, ex, ea, l, q⟩ => ?_) ht
  subst ex
  obtain rfl : u = Value.ref a := rx
  refine getmeth_ok I1 ea c hm l ?_
  refine PySem.W.callWith_K (first := [.ref a]) (h₀ := X.base) I.ok.mod.kin hm.kp (thn (ha.run pos pins s1 σ H1 _ I1 q) fun us s2 ⟨vs, H2, I2, r, q2⟩ => ⟨I2.kIn, ?_⟩) hst hpl
  exact run_any (us := .ref a :: us) (vs := .ref a :: vs) F hr hb hd tk I2 (.cons rfl r) q2
theorem pe_methW0 {pl : Sem Bool} (he : PE X o ta) (c : Cls X.K C) (hm : Meth X.K C m f) (F : FnOk X.prog X.w X.K X.mg X.base (L2.CX X.prog X.w) k f fd ps sp) (hr : Room k X.A) (hb : Binds X.K fd ps ds) (hd : Vals dvs ds) (tk : Takes X W)
    (ht : eval (.Call (.Attribute o m apos) [] [] pos) X.env = (do
      let ov ← eval o X.env
      standAt apos.atName
      let (f, first) ← holding [ov] (getMethod ov m pl)
      callWith pos f first (backTo pos (starEach [] X.env)) (backToKw pos (keywordEach [] X.env))) := by rfl) :
    PE X (.Call (.Attribute o m apos) [] [] pos) (fun σ H Q => ta σ H fun x H1 => ∃ a dx fs, x = .ref a ∧ H1 a = some (.ins C dx fs) ∧ fs.lookup m = none ∧ sp (x :: dvs) H1 Q fun cls d H' => W cls d σ H') := by
  refine ⟨fun pins s σ H Q I h => ?_⟩
  refine PySem.W.methodCall_KW (pl := pl) (thn (he.run pins s σ H _ I h) fun u s1 ⟨x, H1, I1, rx, a, dx, fs, ex, ea, l, q⟩ => ?_) ht
  subst ex
  obtain rfl : u = Value.ref a := rx
  refine getmeth_ok I1 ea c hm l ?_
  exact PySem.W.callWith_K0 (first := [.ref a]) I1.kIn hm.kp (run_any (us := [.ref a]) (vs := [.ref a]) F hr hb hd tk I1 (.cons rfl .nil) q)
theorem run_makeW {pins : List (Addr × Obj)} {σ : L2.St} {H : Hp} {s : Shared} {Q : VK} {us : List Value} {vs : List V} (M : Mk X.K C f) (F : FnOk X.prog X.w X.K X.mg X.base (L2.CX X.prog X.w) k f fd ps sp) (hr : Room (k + 1) X.A) (hb : Binds X.K fd ps ds) (hd : Vals dvs ds)
    (tk : Takes X W) (I : Inv X pins σ H s) (r : Vals vs us)
    (h : ∀ x dx, H x = none → H dx = none → dx ≠ x → sp (.ref x :: (vs ++ dvs)) (upd (upd H dx (.own x)) x (.ins C dx [])) (fun v H2 => v = .non ∧ Q (.ref x) H2) fun cls d H' => W cls d σ H') :
    wpAny (model X.prog X.w) X.A (call (.ref C) us) (EP X pins σ Q) X.xe s := by
  have hq := h (s.heap.objs.size + 1) s.heap.objs.size (I.hok.fresh (Nat.le_succ _)) (I.hok.fresh (Nat.le_refl _)) (Nat.ne_of_lt (Nat.lt_succ_self _))
  have I2 := Inv.made (C := C) I
  have r2 : Vals (V.ref (s.heap.objs.size + 1) :: (vs ++ dvs)) (Value.ref (s.heap.objs.size + 1) :: (us ++ ds)) := .cons rfl (r.append hd)
  have hl : (Value.ref (s.heap.objs.size + 1) :: us ++ ds).length = ps.length := by
    have e := r2.length
    rw [F.len _ _ _ _ hq] at e
    exact e.symm
  refine wpAny_call (make_map (f := f) I.kIn M.makes M.init (beq_iff_eq.mp M.fn) (codeAny_mono (F.run _ X.stack _ _ ⟨Value.ref (s.heap.objs.size + 1) :: us, []⟩ (Value.ref (s.heap.objs.size + 1) :: (us ++ ds)) _ _ _ (hr.make C us [])
    (I2.env0.make C us []) (hb _ (Value.ref (s.heap.objs.size + 1) :: us) I2.kIn hl) r2 hq) fun r s' hq' => ?_))
  cases r with
  | error e => exact passAt tk σ pins _ _ e s' I2 hq'
  | ok fl =>
    cases fl with
    | ret u =>
      obtain ⟨v, H', I3, rv, ev, q3⟩ := I2.after hq'
      subst ev
      exact ⟨rv, ⟨V.ref (s.heap.objs.size + 1), H', I3, rfl, q3⟩⟩
    | next => exact False.elim hq'
    | brk => exact False.elim hq'
    | cont => exact False.elim hq'
theorem pe_makeW (M : Mk X.K C f) (F : FnOk X.prog X.w X.K X.mg X.base (L2.CX X.prog X.w) k f fd ps sp) (hr : Room (k + 1) X.A) (hg : Gl X x) (hm : X.mg x = some (.ref C)) (hb : Binds X.K fd ps ds) (hd : Vals dvs ds) (tk : Takes X W)
    (ha : PA X (e :: es) t) (hdb : (x == ("__debug__" : Str)) = false := by decide) (he : starEach (e :: es) X.env = (false, eval e X.env) :: starEach es X.env := by rfl) (hpl : (backTo pos (starEach es X.env)).any (·.1) = false := by rfl) :
    PE X (.Call (.Name x p) (e :: es) [] pos) (fun σ H Q => t σ H fun vs H1 => ∀ x dx, H1 x = none → H1 dx = none → dx ≠ x → sp (.ref x :: (vs ++ dvs)) (upd (upd H1 dx (.own x)) x (.ins C dx [])) (fun v H2 => v = .non ∧ Q (.ref x) H2) fun cls d H' => W cls d σ H') := by
  refine ⟨fun pins s σ H Q I h => ?_⟩
  refine wpAny_Call_Name_kw (ld_glob I hg hm ?_ hdb)
  refine PySem.W.callWith_K (h₀ := X.base) I.ok.mod.kin M.kp (thn (ha.run pos pins s σ H _ I h) fun us s1 ⟨vs, H1, I1, r, q⟩ => ⟨I1.kIn, ?_⟩) he hpl
  exact run_makeW M F hr hb hd tk I1 r q
theorem pe_makeW0 (M : Mk X.K C f) (F : FnOk X.prog X.w X.K X.mg X.base (L2.CX X.prog X.w) k f fd ps sp) (hr : Room (k + 1) X.A) (hg : Gl X x) (hm : X.mg x = some (.ref C)) (hb : Binds X.K fd ps ds) (hd : Vals dvs ds) (tk : Takes X W)
    (hdb : (x == ("__debug__" : Str)) = false := by decide) :
    PE X (.Call (.Name x p) [] [] pos) (fun σ H Q => ∀ x dx, H x = none → H dx = none → dx ≠ x → sp (.ref x :: dvs) (upd (upd H dx (.own x)) x (.ins C dx [])) (fun v H2 => v = .non ∧ Q (.ref x) H2) fun cls d H' => W cls d σ H') := by
  refine ⟨fun pins s σ H Q I h => ?_⟩
  refine wpAny_Call_Name_kw (ld_glob I hg hm ?_ hdb)
  exact PySem.W.callWith_K0 I.kIn M.kp (run_makeW (us := []) (vs := []) M F hr hb hd tk I .nil h)
end
section
variable {X : Cx} {Γ : Gm} {W : WX} {k : Nat} {f C : Addr} {fd : FuncData} {ps : List Str} {sp3 : Sp3} {dds : List D} {dvs : List V} {ds : List Value} {x m : Str} {p pos apos : Pos} {e o : Expr} {es : List Expr} {ta : TE3} {t : TA3}
@[simp] def TCall (sp3 : Sp3) (dds : List D) (t : TA3) : TE3 := fun δ G Q E => t δ G (fun xs G1 => sp3 (xs ++ dds) G1 Q E) E
/-- the default values as data -/
def Dflt3 (K : PySem.W.Frag) (dds : List D) (dvs : List V) : Prop := ∀ Γ H G, DatL K Γ H G dds dvs
theorem dflt_nil {K : PySem.W.Frag} : Dflt3 K [] [] := fun _ _ _ => rfl
theorem pe3_call (F : Fn3 Γ X.prog X.w X.K X.mg X.base k f fd ps sp3) (hr : Room k X.A) (hg : Gl X x) (hm : X.mg x = some (.ref f)) (hk : PySem.W.keepIn X.K (.ref f) = true) (hb : Binds X.K fd ps ds) (hd : Vals dvs ds) (h3 : Dflt3 X.K dds dvs) (tk : Takes X W)
    (ha : PA3 X Γ W (e :: es) t) (hdb : (x == ("__debug__" : Str)) = false := by decide) (he : starEach (e :: es) X.env = (false, eval e X.env) :: starEach es X.env := by rfl) (hpl : (backTo pos (starEach es X.env)).any (·.1) = false := by rfl) :
    PE3 X Γ W (.Call (.Name x p) (e :: es) [] pos) (TCall sp3 dds t) := by
  refine pe_imp (pe_callW F hr hg hm hk hb hd tk ha hdb he hpl) fun σ H Q hw => ?_
  obtain ⟨δ, G, Q3, E3, R, h1, k, ke⟩ := hw
  refine ⟨δ, G, _, E3, R, h1, fun xs vs G1 H1 s1 hp1 dl q => ?_, ke⟩
  exact ⟨xs ++ dds, G1, Q3, E3, dl.append (h3 Γ H1 G1), hp1, q, fun d v G' H' s' => k d v G' H' (s1.trans s'), fun cls G' H' s' => ke cls G' H' (s1.trans s')⟩
theorem pe3_call0 (F : Fn3 Γ X.prog X.w X.K X.mg X.base k f fd ps sp3) (hr : Room k X.A) (hg : Gl X x) (hm : X.mg x = some (.ref f)) (hk : PySem.W.keepIn X.K (.ref f) = true) (hb : Binds X.K fd ps ds) (hd : Vals dvs ds) (h3 : Dflt3 X.K dds dvs) (tk : Takes X W)
    (hdb : (x == ("__debug__" : Str)) = false := by decide) : PE3 X Γ W (.Call (.Name x p) [] [] pos) (TCall sp3 dds TNil) := by
  refine pe_imp (pe_callW0 F hr hg hm hk hb hd tk hdb) fun σ H Q hw => ?_
  obtain ⟨δ, G, Q3, E3, R, h1, k, ke⟩ := hw
  exact ⟨dds, G, Q3, E3, h3 Γ H G, R.hp, h1, k, ke⟩
@[simp] def isObj3 (C : Addr) (m : Str) (G : Gp) (x : D) : Prop := match x with
  | .ref p => (match G p with | some (.ins C' fs) => C' = C ∧ noS (fs.lookup m) | _ => False)
  | .nod (.obj C' ns) xs => C' = C ∧ noS ((ns.zip xs).lookup m)
  | _ => False
theorem isObj3.at {K : PySem.W.Frag} {H : Hp} {G : Gp} {d : D} {v : V} (R : HpR K Γ H G) (h : isObj3 C m (vis G) d) (dv : Dat K Γ H G d v) : ∃ a dx fs, v = .ref a ∧ H a = some (.ins C dx fs) ∧ fs.lookup m = none := by
  unfold isObj3 at h
  split at h
  · obtain rfl : v = _ := dv
    split at h
    · rename_i hg
      obtain ⟨rfl, hl⟩ := h
      obtain ⟨dx, vs, h2, l⟩ := R.own _ _ (vis_some hg)
      exact ⟨_, dx, vs, rfl, h2, DatF.lookup_none l m (noS_iff.mp hl)⟩
    · exact h.elim
  · obtain ⟨rfl, hl⟩ := h
    obtain ⟨p, vs, rfl, ⟨_, hz, dx, h2⟩, l⟩ := dv
    exact ⟨p, dx, _, rfl, h2, DatF.lookup_none (DatF.of_zip l) m (noS_iff.mp hl)⟩
  · exact h.elim
@[simp] def TMeth (C : Addr) (m : Str) (sp3 : Sp3) (dds : List D) (to : TE3) (t : TA3) : TE3 := fun δ G Q E => to δ G (fun x G1 => isObj3 C m G1 x ∧ t δ G1 (fun xs G2 => sp3 (x :: (xs ++ dds)) G2 Q E) E) E
theorem pe3_meth {pl : Sem Bool} (he : PE3 X Γ W o ta) (c : Cls X.K C) (hm : Meth X.K C m f) (F : Fn3 Γ X.prog X.w X.K X.mg X.base k f fd ps sp3) (hr : Room k X.A) (hb : Binds X.K fd ps ds) (hd : Vals dvs ds) (h3 : Dflt3 X.K dds dvs) (tk : Takes X W) (ha : PA3 X Γ W (e :: es) t)
    (hst : starEach (e :: es) X.env = (false, eval e X.env) :: starEach es X.env := by rfl) (hpl : (backTo pos (starEach es X.env)).any (·.1) = false := by rfl)
    (ht : eval (.Call (.Attribute o m apos) (e :: es) [] pos) X.env = (do
      let ov ← eval o X.env
      standAt apos.atName
      let (f, first) ← holding [ov] (getMethod ov m pl)
      callWith pos f first (backTo pos (starEach (e :: es) X.env)) (backToKw pos (keywordEach [] X.env))) := by rfl) :
    PE3 X Γ W (.Call (.Attribute o m apos) (e :: es) [] pos) (TMeth C m sp3 dds ta t) := by
  refine pe_imp (pe_methW he c hm F hr hb hd tk ha hst hpl ht) fun σ H Q hw => ?_
  obtain ⟨δ, G, Q3, E3, R, h1, k, ke⟩ := hw
  refine ⟨δ, G, _, E3, R, h1, fun x v G1 H1 s1 hp1 dx q => ?_, ke⟩
  obtain ⟨a, dxx, fs, rfl, h2, hl⟩ := q.1.at hp1 dx
  refine ⟨a, dxx, fs, rfl, h2, hl, δ, G1, _, E3, R.mono s1 hp1, q.2, fun xs vs G2 H2 s2 hp2 dl q => ?_, fun cls G' H' s' => ke cls G' H' (s1.trans s')⟩
  exact ⟨x :: (xs ++ dds), G2, Q3, E3, .cons (dx.mono s2) (dl.append (h3 Γ H2 G2)), hp2, q, fun d v G' H' s' => k d v G' H' ((s1.trans s2).trans s'), fun cls G' H' s' => ke cls G' H' ((s1.trans s2).trans s')⟩
theorem pe3_meth0 {pl : Sem Bool} (he : PE3 X Γ W o ta) (c : Cls X.K C) (hm : Meth X.K C m f) (F : Fn3 Γ X.prog X.w X.K X.mg X.base k f fd ps sp3) (hr : Room k X.A) (hb : Binds X.K fd ps ds) (hd : Vals dvs ds) (h3 : Dflt3 X.K dds dvs) (tk : Takes X W)
    (ht : eval (.Call (.Attribute o m apos) [] [] pos) X.env = (do
      let ov ← eval o X.env
      standAt apos.atName
      let (f, first) ← holding [ov] (getMethod ov m pl)
      callWith pos f first (backTo pos (starEach [] X.env)) (backToKw pos (keywordEach [] X.env))) := by rfl) :
    PE3 X Γ W (.Call (.Attribute o m apos) [] [] pos) (TMeth C m sp3 dds ta TNil) := by
  refine pe_imp (pe_methW0 he c hm F hr hb hd tk ht) fun σ H Q hw => ?_
  obtain ⟨δ, G, Q3, E3, R, h1, k, ke⟩ := hw
  refine ⟨δ, G, _, E3, R, h1, fun x v G1 H1 s1 hp1 dx q => ?_, ke⟩
  obtain ⟨a, dxx, fs, rfl, h2, hl⟩ := q.1.at hp1 dx
  exact ⟨a, dxx, fs, rfl, h2, hl, x :: dds, G1, Q3, E3, .cons dx (h3 Γ H1 G1), hp1, q.2, fun d v G' H' s' => k d v G' H' (s1.trans s'), fun cls G' H' s' => ke cls G' H' (s1.trans s')⟩
@[simp] def TMake (C : Addr) (sp3 : Sp3) (dds : List D) (t : TA3) : TE3 := fun δ G Q E => t δ G (fun xs G1 => ∀ x, G1 x = none → sp3 (.ref x :: (xs ++ dds)) (gset G1 x (.ins C [])) (fun d G2 => d = .non ∧ Q (.ref x) G2) E) E
theorem made3 {K : PySem.W.Frag} {H : Hp} {G : Gp} {x dx : Addr} (R : HpR K Γ H G) (h1 : H x = none) (h2 : H dx = none) (hne : dx ≠ x) :
    Step K H G (upd (upd H dx (.own x)) x (.ins C dx [])) (gset G x (.ins C [])) ∧ HpR K Γ (upd (upd H dx (.own x)) x (.ins C dx [])) (gset G x (.ins C [])) := by
  have n1 : upd H dx (.own x) x = none := by rw [upd_ne hne.symm]; exact h1
  have R1 : HpR K Γ (upd H dx (.own x)) G := R.new h2
  exact ⟨(Step.new h2).trans (Step.newG n1 (own_none R1 n1)), R1.newG (g := .ins C []) n1 ⟨dx, [], upd_same, .nil⟩⟩
theorem pe3_make (M : Mk X.K C f) (F : Fn3 Γ X.prog X.w X.K X.mg X.base k f fd ps sp3) (hr : Room (k + 1) X.A) (hg : Gl X x) (hm : X.mg x = some (.ref C)) (hb : Binds X.K fd ps ds) (hd : Vals dvs ds) (h3 : Dflt3 X.K dds dvs) (tk : Takes X W)
    (ha : PA3 X Γ W (e :: es) t) (hdb : (x == ("__debug__" : Str)) = false := by decide) (he : starEach (e :: es) X.env = (false, eval e X.env) :: starEach es X.env := by rfl) (hpl : (backTo pos (starEach es X.env)).any (·.1) = false := by rfl) :
    PE3 X Γ W (.Call (.Name x p) (e :: es) [] pos) (TMake C sp3 dds t) := by
  refine pe_imp (pe_makeW M F hr hg hm hb hd tk ha hdb he hpl) fun σ H Q hw => ?_
  obtain ⟨δ, G, Q3, E3, R, h1, k, ke⟩ := hw
  refine ⟨δ, G, _, E3, R, h1, fun xs vs G1 H1 s1 hp1 dl q x dx hx hdx hne => ?_, ke⟩
  obtain ⟨st, hp2⟩ := made3 (C := C) hp1 hx hdx hne
  have q1 := q x (vis_none (own_none hp1 hx))
  rw [← vis_gset (by intro z; cases z)] at q1
  refine ⟨.ref x :: (xs ++ dds), _, _, E3, .cons rfl ((dl.mono st).append (h3 Γ _ _)), hp2, q1, fun d v G' H' s' hp' dv ⟨e1, q2⟩ => ?_, fun cls G' H' s' => ke cls G' H' ((s1.trans st).trans s')⟩
  subst e1
  exact ⟨dv, k (.ref x) _ G' H' ((s1.trans st).trans s') hp' rfl q2⟩
theorem pe3_make0 (M : Mk X.K C f) (F : Fn3 Γ X.prog X.w X.K X.mg X.base k f fd ps sp3) (hr : Room (k + 1) X.A) (hg : Gl X x) (hm : X.mg x = some (.ref C)) (hb : Binds X.K fd ps ds) (hd : Vals dvs ds) (h3 : Dflt3 X.K dds dvs) (tk : Takes X W)
    (hdb : (x == ("__debug__" : Str)) = false := by decide) : PE3 X Γ W (.Call (.Name x p) [] [] pos) (TMake C sp3 dds TNil) := by
  refine pe_imp (pe_makeW0 M F hr hg hm hb hd tk hdb) fun σ H Q hw => ?_
  obtain ⟨δ, G, Q3, E3, R, h1, k, ke⟩ := hw
  intro x dx hx hdx hne
  obtain ⟨st, hp2⟩ := made3 (C := C) R.hp hx hdx hne
  have q1 := h1 x (vis_none (own_none R.hp hx))
  rw [← vis_gset (by intro z; cases z)] at q1
  refine ⟨.ref x :: dds, _, _, E3, .cons rfl (h3 Γ _ _), hp2, q1, fun d v G' H' s' hp' dv ⟨e1, q2⟩ => ?_, fun cls G' H' s' => ke cls G' H' (st.trans s')⟩
  subst e1
  exact ⟨dv, k (.ref x) _ G' H' (st.trans s') hp' rfl q2⟩
/-- raise C(..) -/
@[simp] def TRaise (C : Addr) (t : TA3) : TS3 := fun D3 δ G => t δ G (fun ds G1 => ds.length ≤ sizeLine ∧ D3.ex (.ref C) δ G1) (fun cls G1 => D3.ex cls δ G1)
theorem ps3_raise {bmB : List Value} {B newId initId : String} {rpos : Pos} (hc : X.calm = true) (tk : Takes X W) (F : ExcBaseFacts B newId initId bmB) (q : PySem.W.excIn X.K C bmB newId = true) (gC : X.mg x = some (.ref C))
    (kC : PySem.W.keepIn X.K (.ref C) = true) (r : Raises X (.ref C)) (hg : Gl X x) (ha : PA3 X Γ W (e :: es) t) (hdb : (x == ("__debug__" : Str)) = false := by decide)
    (he : starEach (e :: es) X.env = (false, eval e X.env) :: starEach es X.env := by rfl) (hpl : (backTo pos (starEach es X.env)).any (·.1) = false := by rfl) : PS3 X Γ W (.Raise (some (.Call (.Name x p) (e :: es) [] pos)) none rpos) (TRaise C t) := by
  refine ps_imp (ps_raise hc tk (pmk_ownA F q gC kC r hg ha hdb he hpl)) fun D' σ H hw => ?_
  obtain ⟨δ, G, D3, R, h, k⟩ := hw
  refine ⟨δ, G, _, _, R, h, fun ds vs G1 H1 s1 hp1 dl q => ?_, fun cls G' H' s hp q => k.ex cls δ G' σ H' s (R.mono s hp) q⟩
  exact ⟨by rw [← dl.length]; exact q.1, k.ex _ δ G1 σ H1 s1 (R.mono s1 hp1) q.2⟩
end
end L3
/-! L3, part g: dicts. -/
namespace L3
open PySem PySem.Spec PyProof.Rows L2

/-! ### tables -/
section
variable {κ α : Type} [DecidableEq κ]
def look (kvs : List (κ × α)) (k : κ) : Option α := (kvs.find? fun kv => decide (kv.1 = k)).map (·.2)
def put (kvs : List (κ × α)) (k : κ) (v : α) : List (κ × α) := if (kvs.any fun kv => decide (kv.1 = k)) = true then kvs.map (fun kv => if kv.1 = k then (kv.1, v) else kv) else kvs ++ [(k, v)]
def drop (kvs : List (κ × α)) (k : κ) : List (κ × α) := kvs.filter fun kv => decide (kv.1 ≠ k)
def merge (kvs : List (κ × α)) : List (κ × α) → List (κ × α)
  | [] => kvs
  | (k, v) :: r => merge (put kvs k v) r
end
def keyD : Key → D
  | .inl i => .int i
  | .inr x => .str x
def keysD (ks : List Key) : D := .tup (ks.map keyD)
section
variable {K : PySem.W.Frag} {Γ : Gm} {H : Hp} {G : Gp}
theorem dat_key {k : Key} {v : V} (h : Dat K Γ H G (keyD k) v) : v = kV k := by
  cases k <;> exact h
theorem dat_key' {k : Key} : Dat K Γ H G (keyD k) (kV k) := by cases k <;> rfl
theorem datL_keys : ∀ {ks : List Key} {vs : List V}, DatL K Γ H G (ks.map keyD) vs → vs = ks.map kV
  | [], _, h => h
  | k :: ks, _, h => by
    obtain ⟨v, r, rfl, h1, h2⟩ := h
    rw [dat_key h1, datL_keys h2] <;> rfl
theorem datL_keys' : ∀ {ks : List Key}, DatL K Γ H G (ks.map keyD) (ks.map kV)
  | [] => rfl
  | k :: ks => ⟨_, _, rfl, dat_key', datL_keys'⟩
theorem dat_keys {ks : List Key} {v : V} (h : Dat K Γ H G (keysD ks) v) : ∃ b, v = .ref b ∧ H b = some (.tup (ks.map kV)) := by
  obtain ⟨a, vs, rfl, h1, l⟩ := h
  exact ⟨a, rfl, by rw [← datL_keys l]; exact h1⟩
theorem dat_keys' {ks : List Key} {b : Addr} (h : H b = some (.tup (ks.map kV))) : Dat K Γ H G (keysD ks) (.ref b) := ⟨b, _, rfl, h, datL_keys'⟩
variable {κ : Type} [DecidableEq κ]
theorem datF_look {kvs : List (κ × D)} {vs : List (κ × V)} (h : DatF K Γ H G kvs vs) (k : κ) : (∃ d v, look kvs k = some d ∧ valV vs k = some v ∧ Dat K Γ H G d v) ∨ (look kvs k = none ∧ valV vs k = none) := by
  induction h with
  | nil => exact .inr ⟨rfl, rfl⟩
  | cons r t ih =>
    rename_i p q l1 l2
    obtain ⟨n, d⟩ := p
    obtain ⟨n', v⟩ := q
    obtain ⟨r1, r2⟩ := r
    have r1 : n = n' := r1
    subst r1
    by_cases e : n = k
    · exact .inl ⟨d, v, by simp [look, e], by simp [valV, e], r2⟩
    · have e1 : look ((n, d) :: l1) k = look l1 k := by simp [look, e]
      have e2 : valV ((n, v) :: l2) k = valV l2 k := by simp [valV, e]
      rw [e1, e2]
      exact ih
theorem datF_any {kvs : List (κ × D)} {vs : List (κ × V)} (h : DatF K Γ H G kvs vs) (k : κ) : (kvs.any fun kv => decide (kv.1 = k)) = vs.any fun kv => decide (kv.1 = k) := by
  induction h with
  | nil => rfl
  | cons r t ih => rw [List.any_cons, List.any_cons, ih, r.1]
theorem datF_repl {kvs : List (κ × D)} {vs : List (κ × V)} (h : DatF K Γ H G kvs vs) (k : κ) {d : D} {v : V} (r : Dat K Γ H G d v) : DatF K Γ H G (kvs.map fun kv => if kv.1 = k then (kv.1, d) else kv) (vs.map fun kv => if kv.1 = k then (kv.1, v) else kv) := by
  induction h with
  | nil => exact .nil
  | cons q t ih =>
    rw [List.map_cons, List.map_cons]
    refine .cons ?_ ih
    rename_i p u l1 l2
    rw [← q.1]
    by_cases e : p.1 = k
    · rw [if_pos e, if_pos e]; exact ⟨rfl, r⟩
    · rw [if_neg e, if_neg e]; exact q
theorem datF_snoc {kvs : List (κ × D)} {vs : List (κ × V)} (h : DatF K Γ H G kvs vs) {k : κ} {d : D} {v : V} (r : Dat K Γ H G d v) : DatF K Γ H G (kvs ++ [(k, d)]) (vs ++ [(k, v)]) := by
  induction h with
  | nil => exact .cons ⟨rfl, r⟩ .nil
  | cons q t ih => exact .cons q ih
theorem datF_put {kvs : List (κ × D)} {vs : List (κ × V)} (h : DatF K Γ H G kvs vs) (k : κ) {d : D} {v : V} (r : Dat K Γ H G d v) : DatF K Γ H G (put kvs k d) (putK vs k v) := by
  unfold put putK
  rw [datF_any h k]
  split
  · exact datF_repl h k r
  · exact datF_snoc h r
theorem datF_drop {kvs : List (κ × D)} {vs : List (κ × V)} (h : DatF K Γ H G kvs vs) (k : κ) : DatF K Γ H G (drop kvs k) (dropK vs k) := by
  induction h with
  | nil => exact .nil
  | cons q t ih =>
    rename_i p u l1 l2
    unfold drop dropK at ih ⊢
    rw [List.filter_cons, List.filter_cons, ← q.1]
    by_cases e : p.1 = k
    · rw [if_neg (by simp [e]), if_neg (by simp [e])]; exact ih
    · rw [if_pos (by simp [e]), if_pos (by simp [e])]; exact .cons q ih
theorem datF_get {kvs : List (κ × D)} {vs : List (κ × V)} (h : DatF K Γ H G kvs vs) {i : Nat} {k : κ} {v : V} (e : vs[i]? = some (k, v)) : ∃ d, kvs[i]? = some (k, d) ∧ Dat K Γ H G d v := by
  induction h generalizing i with
  | nil => simp at e
  | cons q t ih =>
    cases i with
    | zero =>
      rename_i p u l1 l2
      simp at e
      subst e
      obtain ⟨n, d⟩ := p
      have q1 : n = k := q.1
      subst q1
      exact ⟨d, by simp, q.2⟩
    | succ i => simpa using ih (by simpa using e)
end

/-- x is a dict with the pairs kvs -/
def DKat (G : Gp) (x : D) (kvs : List (Key × D)) : Prop := x = .dK kvs ∨ ∃ a, x = .ref a ∧ (G a = some (.dK kvs) ∨ G a = some (.lkK kvs))
def DTat (G : Gp) (x : D) (kvs : List (List Key × D)) : Prop := x = .dT kvs ∨ ∃ a, x = .ref a ∧ (G a = some (.dT kvs) ∨ G a = some (.lkT kvs))
/-- what the dict x holds at y -/
def DG3 (G : Gp) (x y : D) (r : Option D) : Prop := (∃ kvs k, DKat G x kvs ∧ y = keyD k ∧ r = look kvs k) ∨ ∃ kvs k, DTat G x kvs ∧ y = keysD k ∧ r = look kvs k
section
variable {K : PySem.W.Frag} {Γ : Gm} {H : Hp} {G : Gp}
theorem DKat.at {x : D} {v : V} {kvs : List (Key × D)} (R : HpR K Γ H G) (h : DKat (vis G) x kvs) (dv : Dat K Γ H G x v) : ∃ a vs, v = .ref a ∧ Rd H a (.dK vs) ∧ DatF K Γ H G kvs vs := by
  rcases h with rfl | ⟨a, rfl, h | h⟩
  · obtain ⟨a, us, rfl, ⟨_, hz, h1⟩, l⟩ := dv
    have := DatF.of_zip (ns := kvs.map (·.1)) l
    rw [zip_self] at this
    exact ⟨a, _, rfl, h1, this⟩
  · obtain rfl : v = _ := dv
    obtain ⟨vs, h1, l⟩ := R.own _ _ (vis_some h)
    exact ⟨a, vs, rfl, .inl h1, l⟩
  · obtain rfl : v = _ := dv
    obtain ⟨o, vs, h1, l⟩ := R.own _ _ (vis_some h)
    exact ⟨a, vs, rfl, .inr ⟨o, h1⟩, l⟩
theorem DTat.at {x : D} {v : V} {kvs : List (List Key × D)} (R : HpR K Γ H G) (h : DTat (vis G) x kvs) (dv : Dat K Γ H G x v) : ∃ a vs, v = .ref a ∧ Rd H a (.dT vs) ∧ DatF K Γ H G kvs vs := by
  rcases h with rfl | ⟨a, rfl, h | h⟩
  · obtain ⟨a, us, rfl, ⟨_, hz, h1⟩, l⟩ := dv
    have := DatF.of_zip (ns := kvs.map (·.1)) l
    rw [zip_self] at this
    exact ⟨a, _, rfl, h1, this⟩
  · obtain rfl : v = _ := dv
    obtain ⟨vs, h1, l⟩ := R.own _ _ (vis_some h)
    exact ⟨a, vs, rfl, .inl h1, l⟩
  · obtain rfl : v = _ := dv
    obtain ⟨o, vs, h1, l⟩ := R.own _ _ (vis_some h)
    exact ⟨a, vs, rfl, .inr ⟨o, h1⟩, l⟩
theorem DG3.at {x y : D} {v u : V} {r : Option D} (R : HpR K Γ H G) (h : DG3 (vis G) x y r) (dv : Dat K Γ H G x v) (du : Dat K Γ H G y u) :
    ∃ a ro, v = .ref a ∧ DGet H a u ro ∧ IsD H a ∧ ((∃ d w, r = some d ∧ ro = some w ∧ Dat K Γ H G d w) ∨ (r = none ∧ ro = none)) := by
  rcases h with ⟨kvs, k, hx, rfl, rfl⟩ | ⟨kvs, k, hx, rfl, rfl⟩
  · obtain ⟨a, vs, rfl, h1, l⟩ := hx.at R dv
    exact ⟨a, valV vs k, rfl, .inl ⟨vs, k, h1, dat_key du, rfl⟩, .inl ⟨vs, h1⟩, (datF_look l k).imp (fun ⟨d, w, e1, e2, e3⟩ => ⟨d, w, e1, e2, e3⟩) fun h => h⟩
  · obtain ⟨a, vs, rfl, h1, l⟩ := hx.at R dv
    obtain ⟨b, rfl, hb⟩ := dat_keys du
    exact ⟨a, valV vs k, rfl, .inr ⟨vs, k, b, h1, rfl, hb, rfl⟩, .inr ⟨vs, h1⟩, (datF_look l k).imp (fun ⟨d, w, e1, e2, e3⟩ => ⟨d, w, e1, e2, e3⟩) fun h => h⟩
end

section
variable {X : Cx} {Γ : Gm} {W : WX} {e o a b c f i : Expr} {pos apos cpos : Pos} {ta tb tc : TE3}
/-! d[k] -/
def rDGet2 : R2 := fun x y H Q => ∃ a v, x = .ref a ∧ DGet H a y (some v) ∧ Q v H
theorem ix_dict (hu : X.A.units + 1 < cLine) : IxR X rDGet2 := by
  intro value slice pins s σ H x y v u Q I rx ry h hs
  obtain ⟨p, r, rfl, g, q⟩ := h
  obtain rfl : v = Value.ref p := rx
  exact tail_any (dict_typeIs I g) slot_dict_getitem.lookup (d_getItem hu I g ry fun w' s3 I3 rw' => ⟨r, H, I3, rw', q⟩) hs
def subR3 : R3 := fun x y G Q => ixR x y G Q ∨ ∃ d, DG3 G x y (some d) ∧ Q d G
theorem sound_sub : Sound2 X.K Γ (fun x y H Q => rIx X.K x y H Q ∨ rDGet2 x y H Q) subR3 := by
  intro x y v u H G Q3 Q R hx hy h k
  rcases h with h | ⟨d, h, q⟩
  · exact .inl (sound_ix (X := X) x y v u H G Q3 Q R hx hy h k)
  · obtain ⟨a, ro, rfl, g, _, e⟩ := h.at R hx hy
    rcases e with ⟨d', w, e1, rfl, dw⟩ | ⟨e1, _⟩
    · cases e1
      exact .inr ⟨a, w, rfl, g, ret k R q dw⟩
    · cases e1
theorem pe3_sub_ (hu : X.A.units + 1 < cLine) (ha : PE3 X Γ W a ta) (hb : PE3 X Γ W b tb) (hs : PlainIx b) : PE3 X Γ W (.Subscript a b pos) (TOp subR3 ta tb) :=
  pe_imp (pe_ix (ix_seq.or (ix_dict hu)) ha hb hs) fun _ _ _ hw => op_sound sound_sub hw
/-! in, not in -/
def rDIn (neg : Bool) : R2 := fun y x H Q => ∃ a ov, x = .ref a ∧ DGet H a y ov ∧ Q (.bl (if neg then !ov.isSome else ov.isSome)) H
theorem op_dIn (hu : X.A.units + 1 < cLine) : OpR X (compareOp .In) (rDIn false) := by
  intro pins s σ H y x u v Q I ry rx h
  obtain ⟨a, ov, rfl, g, q⟩ := h
  obtain rfl : v = Value.ref a := rx
  exact d_in hu I g ry fun s3 I3 => ⟨.bl ov.isSome, H, I3, rfl, q⟩
theorem op_dNotIn (hu : X.A.units + 1 < cLine) : OpR X (compareOp .NotIn) (rDIn true) := by
  intro pins s σ H y x u v Q I ry rx h
  obtain ⟨a, ov, rfl, g, q⟩ := h
  obtain rfl : v = Value.ref a := rx
  exact d_notIn hu I g ry fun s3 I3 => ⟨.bl (!ov.isSome), H, I3, rfl, q⟩
/-- one sign in a text; in a list; in a tuple of flat things; in a dict -/
def flat3 : D → Bool
  | .nod _ _ => false
  | .ref _ => false
  | .clo _ => false
  | _ => true
def inB (x : D) (ds : List D) : Bool := ds.any fun z => eq3 z x
def inR (neg : Bool) : R3 := fun x y G Q =>
  (∃ r, DG3 G y x r ∧ Q (.bl (if neg then !r.isSome else r.isSome)) G) ∨
  (∃ ds, y = .lst ds ∧ gd 60 x = true ∧ gd 60 y = true ∧ Q (.bl (if neg then !inB x ds else inB x ds)) G) ∨
  (∃ c z, x = .str ⟨#[c]⟩ ∧ y = .str z ∧ Q (.bl (if neg then !decide (c ∈ z.cps.toList) else decide (c ∈ z.cps.toList))) G) ∨
  (∃ ds, (y = .tup ds ∨ y = .nod .tuK ds) ∧ flat3 x = true ∧ ds.all flat3 = true ∧ Q (.bl (if neg then !inB x ds else inB x ds)) G)
end
section
variable {K : PySem.W.Frag} {Γ : Gm} {H : Hp} {G : Gp}
theorem flat_eqV {x y : D} {u v : V} (fx : flat3 x = true) (fy : flat3 y = true) (dx : Dat K Γ H G x v) (dy : Dat K Γ H G y u) : flatV v = true ∧ eqV u v = eq3 y x := by
  cases x <;> first | (cases fx; done) | skip
  all_goals (obtain rfl : v = _ := dx)
  all_goals (cases y <;> first | (cases fy; done) | skip)
  all_goals (obtain rfl : u = _ := dy)
  all_goals (refine ⟨rfl, ?_⟩)
  all_goals (simp [L2.eqV, eq3, py, PyData.eqv])
end
end L3
/-! L3, part h: in, dict methods, stores to items, walks over dicts. -/
namespace L3
open PySem PySem.Spec PyProof.Rows L2

section
variable {X : Cx} {Γ : Gm} {W : WX} {e o a b c f i : Expr} {pos apos cpos : Pos} {ta tb tc tv : TE3}
abbrev rInAll (K : PySem.W.Frag) (neg : Bool) (rd : R2) (rs : R2) : R2 := fun y x H Q => rDIn neg y x H Q ∨ rd y x H Q ∨ rs y x H Q ∨ rIn K neg y x H Q
theorem sound_in (neg : Bool) {rd rs : R2} (hd : ∀ y x H Q, (∃ d ds, Dp X.K H y d ∧ Dp X.K H x (.list ds) ∧ SeqAt.shaped d = true ∧ SeqAt.shaped (.list ds) = true ∧ Q (.bl (if neg then !ds.any fun z => PyData.eqv z d else ds.any fun z => PyData.eqv z d)) H) → rd y x H Q)
    (hs : ∀ y x H Q, (∃ c z, y = .str ⟨#[c]⟩ ∧ x = .str z ∧ Q (.bl (if neg then !decide (c ∈ z.cps.toList) else decide (c ∈ z.cps.toList))) H) → rs y x H Q) :
    Sound2 X.K Γ (rInAll X.K neg rd rs) (inR neg) := by
  intro x y v u H G Q3 Q R hx hy h k
  rcases h with ⟨r, h, q⟩ | ⟨ds, rfl, g1, g2, q⟩ | ⟨c, z, rfl, rfl, q⟩ | ⟨ds, hy2, f1, f2, q⟩
  · obtain ⟨a, ro, rfl, g, _, e⟩ := h.at R hy hx
    refine .inl ⟨a, ro, rfl, g, ret k R q ?_⟩
    rcases e with ⟨d, w, rfl, rfl, _⟩ | ⟨rfl, rfl⟩ <;> rfl
  · refine .inr (.inl (hd _ _ _ _ ⟨py x, pyL ds, dat_dp 60 x v g1 hx, dat_dp 60 _ u g2 hy, gd_shaped g1, gd_shaped g2, ret k R q ?_⟩))
    show V.bl _ = V.bl _
    have e : ∀ ds : List D, (pyL ds).any (fun z => PyData.eqv z (py x)) = inB x ds := fun ds => by
      rw [pyL_map]
      unfold inB eq3
      rw [List.any_map] <;> rfl
    rw [e]
  · exact .inr (.inr (.inl (hs _ _ _ _ ⟨c, z, hx, hy, ret k R q rfl⟩)))
  · refine .inr (.inr (.inr ?_))
    have key : ∀ {a : Addr} {vs : List V}, DatL X.K Γ H G ds vs → flatV v = true ∧ vs.all flatV = true ∧ inV v vs = inB x ds := fun {a vs} l => by
      have fx : flatV v = true := (flat_eqV f1 f1 hx hx).1
      refine ⟨fx, ?_⟩
      clear hy2 q hy
      induction ds generalizing vs with
      | nil => cases (show _ = _ from l); exact ⟨rfl, rfl⟩
      | cons d ds ih =>
        obtain ⟨w, r, rfl, l1, l2⟩ := l
        rw [List.all_cons, Bool.and_eq_true] at f2
        obtain ⟨i1, i2⟩ := ih f2.2 l2
        obtain ⟨e1, e2⟩ := flat_eqV f1 f2.1 hx l1
        have e3 := (flat_eqV f2.1 f1 l1 hx).1
        refine ⟨by rw [List.all_cons, e3, i1] <;> rfl, ?_⟩
        unfold inV inB at i2 ⊢
        rw [List.any_cons, List.any_cons, i2, e2]
    rcases hy2 with rfl | rfl
    · obtain ⟨p, vs, rfl, h1, l⟩ := hy
      obtain ⟨k1, k2, k3⟩ := key (a := p) l
      refine ⟨p, vs, rfl, .inr (SqT.of h1), k1, k2, ret k R q ?_⟩
      rw [k3] <;> rfl
    · obtain ⟨p, vs, rfl, h1, l⟩ := hy
      obtain ⟨k1, k2, k3⟩ := key (a := p) l
      refine ⟨p, vs, rfl, .inr ?_, k1, k2, ret k R q ?_⟩
      · rcases h1 with (z | ⟨_, z⟩) | z
        · cases z
        · cases z
        · exact .inr z
      · rw [k3] <;> rfl
theorem op_in3 (hu : X.A.units + 65 < cLine) : OpR X (compareOp .In) (rInAll X.K false (rInD X.K) fun x y H Q => ∃ (c : Nat) (z : Str), x = .str ⟨#[c]⟩ ∧ y = .str z ∧ Q (.bl (decide (c ∈ z.cps.toList))) H) :=
  (op_dIn (by omega)).or ((op_inD hu).or (op_in_sign.or op_in_seq))
theorem op_notIn3 (hu : X.A.units + 65 < cLine) : OpR X (compareOp .NotIn) (rInAll X.K true (rNotInD X.K) fun x y H Q => ∃ (c : Nat) (z : Str), x = .str ⟨#[c]⟩ ∧ y = .str z ∧ Q (.bl (!decide (c ∈ z.cps.toList))) H) :=
  (op_dNotIn (by omega)).or ((op_notInD hu).or (op_notIn_sign.or op_notIn_seq))
theorem sound_in3 : Sound2 X.K Γ (rInAll X.K false (rInD X.K) fun x y H Q => ∃ (c : Nat) (z : Str), x = .str ⟨#[c]⟩ ∧ y = .str z ∧ Q (.bl (decide (c ∈ z.cps.toList))) H) (inR false) := sound_in false (fun _ _ _ _ h => h) fun _ _ _ _ h => h
theorem sound_notIn3 : Sound2 X.K Γ (rInAll X.K true (rNotInD X.K) fun x y H Q => ∃ (c : Nat) (z : Str), x = .str ⟨#[c]⟩ ∧ y = .str z ∧ Q (.bl (!decide (c ∈ z.cps.toList))) H) (inR true) := sound_in true (fun _ _ _ _ h => h) fun _ _ _ _ h => h

/-! d.get(k), d.get(k, x), d.pop(k, x) -/
def IsD3 (G : Gp) (x : D) : Prop := (∃ kvs, DKat G x kvs) ∨ ∃ kvs, DTat G x kvs
theorem IsD3.at {K : PySem.W.Frag} {H : Hp} {G : Gp} {x : D} {v : V} (R : HpR K Γ H G) (h : IsD3 (vis G) x) (dv : Dat K Γ H G x v) : ∃ a, v = .ref a ∧ IsD H a := by
  rcases h with ⟨kvs, h⟩ | ⟨kvs, h⟩
  · obtain ⟨a, vs, e, h1, _⟩ := h.at R dv
    exact ⟨a, e, .inl ⟨vs, h1⟩⟩
  · obtain ⟨a, vs, e, h1, _⟩ := h.at R dv
    exact ⟨a, e, .inr ⟨vs, h1⟩⟩
def TGet1 (td ty : TE3) : TE3 := fun δ G Q E => td δ G (fun x G1 => IsD3 G1 x ∧ ty δ G1 (fun y G2 => ∃ r, DG3 G2 x y r ∧ Q (r.getD .non) G2) E) E
def TGet2 (td ty tx : TE3) : TE3 := fun δ G Q E => td δ G (fun x G1 => IsD3 G1 x ∧ ty δ G1 (fun y G2 => tx δ G2 (fun z G3 => ∃ r, DG3 G3 x y r ∧ Q (r.getD z) G3) E) E) E
theorem pe3_get1 (hu : X.A.units + 1 < cLine) (ho : PE3 X Γ W o ta) (he : PE3 X Γ W e tb) (m : M1 X o "get" apos e cpos) : PE3 X Γ W (.Call (.Attribute o "get" apos) [e] [] cpos) (TGet1 ta tb) := by
  refine pe_imp (pe_dget1 hu ho he m) fun σ H Q hw => ?_
  obtain ⟨δ, G, Q3, E3, R, h1, k, ke⟩ := hw
  refine ⟨δ, G, _, E3, R, h1, fun x v G1 H1 s1 hp1 dx ⟨hd, q⟩ => ?_, ke⟩
  obtain ⟨a, rfl, hD⟩ := hd.at hp1 dx
  refine ⟨a, rfl, hD, δ, G1, _, E3, R.mono s1 hp1, q, fun y u G2 H2 s2 hp2 dy ⟨r, g, q⟩ => ?_, fun cls G' H' s' => ke cls G' H' (s1.trans s')⟩
  obtain ⟨a', ro, e, g, _, er⟩ := g.at hp2 (dx.mono s2) dy
  cases e
  refine ⟨ro, g, ?_⟩
  rcases er with ⟨d, w, rfl, rfl, dw⟩ | ⟨rfl, rfl⟩
  · exact k d w G2 H2 (s1.trans s2) hp2 dw q
  · exact k .non .non G2 H2 (s1.trans s2) hp2 rfl q
theorem pe3_get2 (hu : X.A.units + 1 < cLine) (ho : PE3 X Γ W o ta) (he : PE3 X Γ W e tb) (hf : PE3 X Γ W f tc) (m : M2 X o "get" apos e f cpos) : PE3 X Γ W (.Call (.Attribute o "get" apos) [e, f] [] cpos) (TGet2 ta tb tc) := by
  refine pe_imp (pe_dget2 hu ho he hf m) fun σ H Q hw => ?_
  obtain ⟨δ, G, Q3, E3, R, h1, k, ke⟩ := hw
  refine ⟨δ, G, _, E3, R, h1, fun x v G1 H1 s1 hp1 dx ⟨hd, q⟩ => ?_, ke⟩
  obtain ⟨a, rfl, hD⟩ := hd.at hp1 dx
  refine ⟨a, rfl, hD, δ, G1, _, E3, R.mono s1 hp1, q, fun y u G2 H2 s2 hp2 dy q => ?_, fun cls G' H' s' => ke cls G' H' (s1.trans s')⟩
  refine ⟨δ, G2, _, E3, R.mono (s1.trans s2) hp2, q, fun z w G3 H3 s3 hp3 dz ⟨r, g, q⟩ => ?_, fun cls G' H' s' => ke cls G' H' ((s1.trans s2).trans s')⟩
  obtain ⟨a', ro, e, g, _, er⟩ := g.at hp3 ((dx.mono s2).mono s3) (dy.mono s3)
  cases e
  refine ⟨ro, g, ?_⟩
  rcases er with ⟨d, w', rfl, rfl, dw⟩ | ⟨rfl, rfl⟩
  · exact k d w' G3 H3 ((s1.trans s2).trans s3) hp3 dw q
  · exact k z w G3 H3 ((s1.trans s2).trans s3) hp3 dz q
def TPop2 (td ty tx : TE3) : TE3 := fun δ G Q E => td δ G (fun x G1 => IsD3 G1 x ∧ ty δ G1 (fun y G2 => tx δ G2 (fun z G3 => ∃ a kvs k, x = .ref a ∧ G3 a = some (.dK kvs) ∧ y = keyD k ∧
  (∀ d, look kvs k = some d → Q d (gset G3 a (.dK (drop kvs k)))) ∧ (look kvs k = none → Q z G3)) E) E) E
theorem pe3_pop2 (ho : PE3 X Γ W o ta) (he : PE3 X Γ W e tb) (hf : PE3 X Γ W f tc) (m : M2 X o "pop" apos e f cpos) : PE3 X Γ W (.Call (.Attribute o "pop" apos) [e, f] [] cpos) (TPop2 ta tb tc) := by
  refine pe_imp (pe_dpop2 ho he hf m) fun σ H Q hw => ?_
  obtain ⟨δ, G, Q3, E3, R, h1, k, ke⟩ := hw
  refine ⟨δ, G, _, E3, R, h1, fun x v G1 H1 s1 hp1 dx ⟨hd, q⟩ => ?_, ke⟩
  obtain ⟨a, rfl, hD⟩ := hd.at hp1 dx
  refine ⟨a, rfl, hD, δ, G1, _, E3, R.mono s1 hp1, q, fun y u G2 H2 s2 hp2 dy q => ?_, fun cls G' H' s' => ke cls G' H' (s1.trans s')⟩
  refine ⟨δ, G2, _, E3, R.mono (s1.trans s2) hp2, q, fun z w G3 H3 s3 hp3 dz ⟨a', kvs, k', ea, hg, ey, q1, q2⟩ => ?_, fun cls G' H' s' => ke cls G' H' ((s1.trans s2).trans s')⟩
  subst ea ey
  cases (show _ = _ from dx)
  have hg' := vis_some hg
  obtain ⟨vs, h3, l⟩ := hp3.own _ _ hg'
  refine ⟨vs, k', h3, dat_key (dy.mono s3), fun w' hv => ?_, fun hv => ?_⟩
  · rcases datF_look l k' with ⟨d, w2, e1, e2, dw⟩ | ⟨_, e2⟩
    · rw [hv] at e2; cases e2
      obtain ⟨st, hp4⟩ := hp3.put (o' := .dK (dropK vs k')) (g' := .dK (drop kvs k')) hg' rfl fun st => ⟨_, upd_same, DatF.mono st (datF_drop l k')⟩
      refine k d w' _ _ (((s1.trans s2).trans s3).trans st) hp4 (dw.mono st) ?_
      rw [vis_gset (by intro z; cases z)]
      exact q1 d e1
    · rw [hv] at e2; cases e2
  · rcases datF_look l k' with ⟨d, w2, e1, e2, dw⟩ | ⟨e1, e2⟩
    · rw [hv] at e2; cases e2
    · exact k z w G3 H3 ((s1.trans s2).trans s3) hp3 dz (q2 e1)

/-! o[i] = v -/
def setR (o i v : D) (G : Gp) (Q : Gp → Prop) : Prop :=
  (∃ a xs k j, o = .ref a ∧ i = .int k ∧ G a = some (.lst xs) ∧ ixN xs.length k = some j ∧ Q (gset G a (.lst (xs.set j v)))) ∨
  (∃ a kvs k, o = .ref a ∧ i = keyD k ∧ G a = some (.dK kvs) ∧ kvs.length < sizeLine ∧ Q (gset G a (.dK (put kvs k v)))) ∨
  ∃ a kvs k, o = .ref a ∧ i = keysD k ∧ G a = some (.dT kvs) ∧ kvs.length < sizeLine ∧ Q (gset G a (.dT (put kvs k v)))
def GSub (to ti : TE3) : TG3 := fun d δ G Q E => to δ G (fun o G1 => ti δ G1 (fun i G2 => setR o i d G2 fun G3 => Q δ G3) E) E
theorem pset_or {t t' : L2.TSet} (h : PSet X t) (h' : PSet X t') : PSet X (fun o i v H Q => t o i v H Q ∨ t' o i v H Q) := fun pins s σ H o i v ov iv u Q I ro ri rv q =>
  q.elim (h pins s σ H o i v ov iv u Q I ro ri rv) (h' pins s σ H o i v ov iv u Q I ro ri rv)
theorem pg3_sub (hu : X.A.units + 1 < cLine) (ho : PE3 X Γ W o ta) (hi : PE3 X Γ W i tb)
    (ha : ∀ v, assign (.Subscript o i pos) X.env v = (do
      let ov ← holding [v] (eval o X.env)
      let iv ← holding [v, ov] (eval i X.env)
      standAt pos
      holding [v, ov, iv] (setItem ov iv v)
      release [v, ov, iv] []) := by intro _; rfl) : PG3 X Γ W (.Subscript o i pos) (GSub ta tb) := by
  refine pg_imp (pg_sub ho hi (pset_or set_list (set_dict hu)) ha) fun v σ H Q hw => ?_
  obtain ⟨d, δ, G, Q3, E3, R, dv, h, k, ke⟩ := hw
  refine ⟨δ, G, _, E3, R, h, fun x w G1 H1 s1 hp1 dx q => ?_, ke⟩
  refine ⟨δ, G1, _, E3, R.mono s1 hp1, q, fun y u G2 H2 s2 hp2 dy q => ?_, fun cls G' H' s' => ke cls G' H' (s1.trans s')⟩
  have R2 := R.mono (s1.trans s2) hp2
  have dv2 := (dv.mono s1).mono s2
  rcases q with ⟨a, xs, n, j, rfl, rfl, hg, hj, q⟩ | ⟨a, kvs, n, rfl, rfl, hg, hz, q⟩ | ⟨a, kvs, n, rfl, rfl, hg, hz, q⟩
  · cases (show _ = _ from dx); cases (show _ = _ from dy)
    have hg' := vis_some hg
    obtain ⟨vs, h3, l⟩ := hp2.own _ _ hg'
    obtain ⟨st, hp4⟩ := hp2.put (o' := .lst (vs.set j v)) (g' := .lst (xs.set j d)) hg' rfl fun st => ⟨_, upd_same, (l.set dv2 j).mono st⟩
    refine .inl ⟨a, vs, n, j, rfl, rfl, h3, by rw [← l.length]; exact hj, k δ _ σ _ ((s1.trans s2).trans st) (R2.mono st hp4) ?_⟩
    rw [vis_gset (by intro z; cases z)]
    exact q
  · cases (show _ = _ from dx)
    have hg' := vis_some hg
    obtain ⟨vs, h3, l⟩ := hp2.own _ _ hg'
    obtain ⟨st, hp4⟩ := hp2.put (o' := .dK (putK vs n v)) (g' := .dK (put kvs n d)) hg' rfl fun st => ⟨_, upd_same, DatF.mono st (datF_put l n dv2)⟩
    refine .inr ⟨a, _, rfl, .inl ⟨vs, n, h3, dat_key dy, by rw [← DatF.length l]; exact hz, rfl⟩, k δ _ σ _ ((s1.trans s2).trans st) (R2.mono st hp4) ?_⟩
    rw [vis_gset (by intro z; cases z)]
    exact q
  · cases (show _ = _ from dx)
    have hg' := vis_some hg
    obtain ⟨vs, h3, l⟩ := hp2.own _ _ hg'
    obtain ⟨b, rfl, hb⟩ := dat_keys dy
    obtain ⟨st, hp4⟩ := hp2.put (o' := .dT (putK vs n v)) (g' := .dT (put kvs n d)) hg' rfl fun st => ⟨_, upd_same, DatF.mono st (datF_put l n dv2)⟩
    refine .inr ⟨a, _, rfl, .inr ⟨vs, n, b, h3, rfl, hb, by rw [← DatF.length l]; exact hz, rfl⟩, k δ _ σ _ ((s1.trans s2).trans st) (R2.mono st hp4) ?_⟩
    rw [vis_gset (by intro z; cases z)]
    exact q

/-! {} -/
def TDNewK : TE3 := fun _ G Q _ => ∀ p, G p = none → Q (.ref p) (gset G p (.dK []))
def TDNewT : TE3 := fun _ G Q _ => ∀ p, G p = none → Q (.ref p) (gset G p (.dT []))
theorem pe3_dnewK : PE3 X Γ W (.Dict [] [] pos) TDNewK := pe_imp pe_dnewK fun σ H Q ⟨δ, G, Q3, E3, R, h, k, ke⟩ p hp => by
  have st : Step X.K H G (upd H p (.dK [])) (gset G p (.dK [])) := Step.newG hp (own_none R.hp hp)
  refine k (.ref p) _ (gset G p (.dK [])) _ st (R.hp.newG (g := .dK []) hp ⟨[], upd_same, .nil⟩) rfl ?_
  rw [vis_gset (by intro z; cases z)]
  exact h p (vis_none (own_none R.hp hp))
theorem pe3_dnewT : PE3 X Γ W (.Dict [] [] pos) TDNewT := pe_imp pe_dnewT fun σ H Q ⟨δ, G, Q3, E3, R, h, k, ke⟩ p hp => by
  have st : Step X.K H G (upd H p (.dT [])) (gset G p (.dT [])) := Step.newG hp (own_none R.hp hp)
  refine k (.ref p) _ (gset G p (.dT [])) _ st (R.hp.newG (g := .dT []) hp ⟨[], upd_same, .nil⟩) rfl ?_
  rw [vis_gset (by intro z; cases z)]
  exact h p (vis_none (own_none R.hp hp))
/-- .. by value -/
theorem pe3_dnilK : PE3 X Γ W (.Dict [] [] pos) (TC (.dK [])) := pe_imp pe_dnewK fun σ H Q ⟨δ, G, Q3, E3, R, h, k, ke⟩ p hp =>
  k (.dK []) _ G _ (Step.new hp) (R.hp.new hp) ⟨p, [], rfl, ⟨own_none R.hp hp, rfl, .inl upd_same⟩, rfl⟩ h
theorem pe3_dnilT : PE3 X Γ W (.Dict [] [] pos) (TC (.dT [])) := pe_imp pe_dnewT fun σ H Q ⟨δ, G, Q3, E3, R, h, k, ke⟩ p hp =>
  k (.dT []) _ G _ (Step.new hp) (R.hp.new hp) ⟨p, [], rfl, ⟨own_none R.hp hp, rfl, .inl upd_same⟩, rfl⟩ h
end
end L3
/-! L3, part i: walks over dicts, dict comprehensions. -/
namespace L3
open PySem PySem.Spec PyProof.Rows L2

/-! ### a dict is locked while it is walked -/
inductive LkOf : GO → GO → Prop
  | dK (kvs : List (Key × D)) : LkOf (.dK kvs) (.lkK kvs)
  | dT (kvs : List (List Key × D)) : LkOf (.dT kvs) (.lkT kvs)
  | lst (xs : List D) : LkOf (.lst xs) (.lkL xs)
section
variable {K : PySem.W.Frag} {Γ : Gm} {H : Hp} {G : Gp} {a : Addr} {g l : GO}
theorem LkOf.wr (h : LkOf g l) : g.wr = true := by cases h <;> rfl
theorem LkOf.lk (h : LkOf g l) : l.lk = true := by cases h <;> rfl
theorem LkOf.nh (h : LkOf g l) : g ≠ .hid ∧ l ≠ .hid := by cases h <;> exact ⟨nofun, nofun⟩
theorem LkOf.ok (h : LkOf g l) (q : GOk K Γ H G a g) : ∃ u, H a = some u ∧ Mut (some u) ∧ NoTbl u ∧ (∀ φ, u ≠ .ext φ) ∧ (∀ xs, u ≠ .tup xs) ∧ ∀ (od : Obj) (H' : Hp) (G' : Gp), StepD K H G H' G' → H' a = some (.frz od u) → GOk K Γ H' G' a l := by
  cases h with
  | dK kvs =>
    obtain ⟨vs, e, r⟩ := q
    exact ⟨_, e, trivial, noTbl_dK, nofun, nofun, fun od H' G' s e' => ⟨od, vs, e', r.monoD s⟩⟩
  | dT kvs =>
    obtain ⟨vs, e, r⟩ := q
    exact ⟨_, e, trivial, noTbl_dT, nofun, nofun, fun od H' G' s e' => ⟨od, vs, e', r.monoD s⟩⟩
  | lst xs =>
    obtain ⟨vs, e, r⟩ := q
    exact ⟨_, e, trivial, noTbl_lst, nofun, nofun, fun od H' G' s e' => ⟨od, vs, e', r.monoD s⟩⟩
theorem LkOf.back (h : LkOf g l) {u : HO} {od : Obj} (q : GOk K Γ H G a l) (e : H a = some (.frz od u)) : ∀ {H' : Hp} {G' : Gp}, StepD K H G H' G' → H' a = some u → GOk K Γ H' G' a g := by
  intro H' G' s e'
  cases h with
  | dK kvs =>
    obtain ⟨o, vs, e2, r⟩ := q
    rw [e] at e2; cases e2
    exact ⟨vs, e', r.monoD s⟩
  | dT kvs =>
    obtain ⟨o, vs, e2, r⟩ := q
    rw [e] at e2; cases e2
    exact ⟨vs, e', r.monoD s⟩
  | lst kvs =>
    obtain ⟨o, vs, e2, r⟩ := q
    rw [e] at e2; cases e2
    exact ⟨vs, e', r.monoD s⟩
theorem lock3 (R : HpR K Γ H G) (hg : G a = some g) (hl : LkOf g l) : ∃ u, H a = some u ∧ Mut (some u) ∧ ∀ od : Obj, (Step K H G (upd H a (.frz od u)) (gset G a l) ∧ HpR K Γ (upd H a (.frz od u)) (gset G a l)) ∧
    ∀ (H' : Hp) (G' : Gp), Step K (upd H a (.frz od u)) (gset G a l) H' G' → HpR K Γ H' G' → H' a = some (.frz od u) ∧ Step K H G (upd H' a u) (gset G' a g) ∧ HpR K Γ (upd H' a u) (gset G' a g) ∧ StepD K H' G' (upd H' a u) (gset G' a g) := by
  obtain ⟨u, hu, mu, nt, ne, ntup, ok⟩ := hl.ok (R.own a g hg)
  refine ⟨u, hu, mu, fun od => ?_⟩
  obtain ⟨st, hp⟩ := R.put (o' := .frz od u) (g' := l) hg hl.wr fun st => ok od _ _ st.toStep0.d upd_same
  refine ⟨⟨st, hp⟩, fun H' G' s hp' => ?_⟩
  obtain ⟨hG, hH⟩ := s.lck a l gset_same hl.lk
  have hH := hH _ upd_same
  have sd : StepD K H' G' (upd H' a u) (gset G' a g) := by
    refine ⟨fun b xs h => ?_, fun b o h n _ => ?_, fun b o h n _ => ?_⟩
    · rw [upd_ne (fun z => by subst z; rw [hH] at h; cases h)]; exact h
    · rw [upd_ne (fun z => by subst z; rw [hG] at n; cases n)]; exact h
    · have hb : b ≠ a := fun z => by subst z; rw [hG] at n; cases n
      exact ⟨by rw [gset_ne hb]; exact n, o, by rw [upd_ne hb]; exact h⟩
  have s2 := st.trans s
  refine ⟨hH, ⟨⟨fun b xs h => ?_, fun b o h n nt => ?_, fun b h => ?_, fun b o h n nt => ?_, fun b g' h hlk => ?_⟩, fun b o h n nt => ?_⟩, ⟨fun b g' e => ?_, ?_⟩, sd⟩
  · rw [upd_ne (fun z => by subst z; rw [hu] at h; cases h; exact ntup _ rfl)]; exact s2.tup b xs h
  · rw [upd_ne (fun z => by subst z; rw [hg] at n; cases n)]; exact s2.frm b o h n nt
  · rw [gset_ne (fun z => by subst z; rw [hg] at h; cases h; exact hl.nh.1 rfl)]; exact s2.hid b h
  · have hb : b ≠ a := fun z => by subst z; rw [hg] at n; cases n
    rw [gset_ne hb, upd_ne hb]
    exact s2.own b o h n nt
  · have hb : b ≠ a := fun z => by subst z; rw [hg] at h; cases h; exact GO.wr_lk hl.wr hlk
    rw [gset_ne hb, upd_ne hb]
    exact s2.lck b g' h hlk
  · have hb : b ≠ a := fun z => by subst z; rw [hg] at n; cases n; exact hl.nh.1 rfl
    rw [upd_ne hb]
    exact s2.frh b o h n nt
  · by_cases hb : b = a
    · subst hb
      rw [gset_same] at e; cases e
      exact hl.back (hp'.own b l hG) hH sd upd_same
    · rw [gset_ne hb] at e
      exact (hp'.own b g' e).monoD sd fun o h => by rw [upd_ne hb]; exact h
  · exact tabs_upd hp'.tab (.inr ⟨_, hH, noTbl_frz, fun c q z => nomatch z⟩)
end
/-- where the dict stands that is walked -/
abbrev Pth := St3 → Gp → Option Addr
def pthV (i : Nat) : Pth := fun δ _ => match slot δ i with | some (.ref a) => some a | _ => none
def pthF (i : Nat) (f : Str) : Pth := fun δ G => match slot δ i with
  | some (.ref s) => match G s with
    | some (.ins _ fs) => match fs.lookup f with
      | some (.ref a) => some a
      | _ => none
    | _ => none
  | _ => none
def TLkE (p : Pth) (t : TE3) : TE3 := fun δ G Q E => match p δ G with
  | some a => match G a with
    | some (.dK kvs) => t δ (gset G a (.lkK kvs)) (fun d G' => Q d (gset G' a (.dK kvs))) (fun _ _ => False)
    | some (.dT kvs) => t δ (gset G a (.lkT kvs)) (fun d G' => Q d (gset G' a (.dT kvs))) (fun _ _ => False)
    | some (.lst kvs) => t δ (gset G a (.lkL kvs)) (fun d G' => Q d (gset G' a (.lst kvs))) (fun _ _ => False)
    | _ => t δ G Q E
  | none => t δ G Q E
def backTo3 (a : Addr) (g : GO) (D3 : Ends3) : Ends3 where
  nx := fun δ G => D3.nx δ (gset G a g)
  rt := fun d G => D3.rt d (gset G a g)
  bk := fun δ G => D3.bk δ (gset G a g)
  ct := fun δ G => D3.ct δ (gset G a g)
def TLkS (p : Pth) (T : TS3) : TS3 := fun D3 δ G => match p δ G with
  | some a => match G a with
    | some (.dK kvs) => T (backTo3 a (.dK kvs) D3) δ (gset G a (.lkK kvs))
    | some (.dT kvs) => T (backTo3 a (.dT kvs) D3) δ (gset G a (.lkT kvs))
    | some (.lst kvs) => T (backTo3 a (.lst kvs) D3) δ (gset G a (.lkL kvs))
    | _ => T D3 δ G
  | none => T D3 δ G
section
variable {X : Cx} {Γ : Gm} {W : WX} {e : Expr} {st : Stmt} {t : TE3} {T : TS3} {p : Pth}
theorem pe3_lock (h : PE3 X Γ W e t) : PE3 X Γ W e (TLkE p t) := by
  have h2 : PE X e (fun σ H Q => lift X.K Γ W t σ H Q ∨ tLockE (lift X.K Γ W t) σ H Q) := ⟨fun pins s σ H Q I hw => hw.elim (h.run pins s σ H Q I) ((pe_lock h).run pins s σ H Q I)⟩
  refine pe_imp h2 fun σ H Q hw => ?_
  obtain ⟨δ, G, Q3, E3, R, h1, k, ke⟩ := hw
  have plain : t δ (vis G) Q3 E3 → lift X.K Γ W t σ H Q := fun q => ⟨δ, G, Q3, E3, R, q, k, ke⟩
  have main : ∀ a g l, vis G a = some g → LkOf g l → t δ (gset (vis G) a l) (fun d G' => Q3 d (gset G' a g)) (fun _ _ => False) → tLockE (lift X.K Γ W t) σ H Q := fun a g l hg hl q => by
    obtain ⟨u, hu, mu, lk⟩ := lock3 R.hp (vis_some hg) hl
    refine ⟨a, u, hu, mu, fun od => ?_⟩
    obtain ⟨⟨s1, hp1⟩, bk⟩ := lk od
    refine ⟨δ, gset G a l, _, fun _ _ => False, R.mono s1 hp1, by rw [vis_gset hl.nh.2]; exact q, fun d v G' H' s' hp' dv q => ?_, fun _ _ _ _ _ z => z.elim⟩
    obtain ⟨e1, s2, hp2, sd⟩ := bk H' G' s' hp'
    refine ⟨e1, k d v _ _ s2 hp2 (dv.monoD sd) ?_⟩
    rw [vis_gset hl.nh.1]
    exact q
  unfold TLkE at h1
  split at h1
  · split at h1
    · rename_i a _ kvs hg; exact .inr (main _ _ _ hg (.dK kvs) h1)
    · rename_i a _ kvs hg; exact .inr (main _ _ _ hg (.dT kvs) h1)
    · rename_i a _ kvs hg; exact .inr (main _ _ _ hg (.lst kvs) h1)
    · exact .inl (plain h1)
  · exact .inl (plain h1)
theorem ps3_lock (h : PS3 X Γ W st T) : PS3 X Γ W st (TLkS p T) := by
  have h2 : PS X st (fun D' σ H => liftS X.K Γ W T D' σ H ∨ tLock (liftS X.K Γ W T) D' σ H) := ⟨fun pins s σ H Q I hw => hw.elim (h.run pins s σ H Q I) ((ps_lock h).run pins s σ H Q I)⟩
  refine ps_imp h2 fun D' σ H hw => ?_
  obtain ⟨δ, G, D3, R, h1, k⟩ := hw
  have plain : T D3 δ (vis G) → liftS X.K Γ W T D' σ H := fun q => ⟨δ, G, D3, R, q, k⟩
  have main : ∀ a g l, vis G a = some g → LkOf g l → T (backTo3 a g D3) δ (gset (vis G) a l) → tLock (liftS X.K Γ W T) D' σ H := fun a g l hg hl q => by
    obtain ⟨u, hu, mu, lk⟩ := lock3 R.hp (vis_some hg) hl
    refine ⟨a, u, hu, mu, fun od => ?_⟩
    obtain ⟨⟨s1, hp1⟩, bk⟩ := lk od
    have rel : ∀ {δ' σ' H' G'}, Rel X.K Γ δ' G' σ' H' → HpR X.K Γ (upd H' a u) (gset G' a g) → StepD X.K H' G' (upd H' a u) (gset G' a g) → Rel X.K Γ δ' (gset G' a g) σ' (upd H' a u) := fun R' hp sd =>
      ⟨R'.len, fun i d e => let ⟨v, h1, h2⟩ := R'.get i d e; ⟨v, h1, h2.monoD sd⟩, hp⟩
    refine ⟨δ, gset G a l, backTo3 a g D3, R.mono s1 hp1, by rw [vis_gset hl.nh.2]; exact q, ⟨fun δ' G' σ' H' s' R' q => ?_, fun d v G' H' s' hp' dv q => ?_, fun δ' G' σ' H' s' R' q => ?_, fun δ' G' σ' H' s' R' q => ?_, fun _ _ _ _ _ _ _ z => (show False from z).elim⟩⟩
    · obtain ⟨e1, s2, hp2, sd⟩ := bk H' G' s' R'.hp
      exact ⟨e1, k.nx δ' _ σ' _ s2 (rel R' hp2 sd) (by rw [vis_gset hl.nh.1]; exact q)⟩
    · obtain ⟨e1, s2, hp2, sd⟩ := bk H' G' s' hp'
      exact ⟨e1, k.rt d v _ _ s2 hp2 (dv.monoD sd) (by rw [vis_gset hl.nh.1]; exact q)⟩
    · obtain ⟨e1, s2, hp2, sd⟩ := bk H' G' s' R'.hp
      exact ⟨e1, k.bk δ' _ σ' _ s2 (rel R' hp2 sd) (by rw [vis_gset hl.nh.1]; exact q)⟩
    · obtain ⟨e1, s2, hp2, sd⟩ := bk H' G' s' R'.hp
      exact ⟨e1, k.ct δ' _ σ' _ s2 (rel R' hp2 sd) (by rw [vis_gset hl.nh.1]; exact q)⟩
  unfold TLkS at h1
  split at h1
  · split at h1
    · rename_i a _ kvs hg; exact .inr (main _ _ _ hg (.dK kvs) h1)
    · rename_i a _ kvs hg; exact .inr (main _ _ _ hg (.dT kvs) h1)
    · rename_i a _ kvs hg; exact .inr (main _ _ _ hg (.lst kvs) h1)
    · exact .inl (plain h1)
  · exact .inl (plain h1)
end

/-! ### what walks over dicts give -/
section
variable {K : PySem.W.Frag} {Γ : Gm} {a : Addr} {o : Obj} {κ : Type}
theorem fst_get {kvs : List (κ × D)} {vs : List (κ × V)} (h : vs.map (·.1) = kvs.map (·.1)) {i : Nat} {k : κ} {v : V} (e : vs[i]? = some (k, v)) : ∃ d, kvs[i]? = some (k, d) := by
  have e2 : (vs.map (·.1))[i]? = some k := by rw [List.getElem?_map, e] <;> rfl
  rw [h, List.getElem?_map] at e2
  obtain ⟨⟨k', d⟩, h1, h2⟩ := Option.map_eq_some_iff.mp e2
  cases h2
  exact ⟨d, h1⟩
theorem lkK_len {H : Hp} {G : Gp} {kvs : List (Key × D)} {vs : List (Key × V)} (R : HpR K Γ H G) (hg : G a = some (.lkK kvs)) (hh : H a = some (.frz o (.dK vs))) : DatF K Γ H G kvs vs := by
  obtain ⟨o', vs', e, r⟩ := R.own a _ hg
  rw [hh] at e; cases e
  exact r
theorem lkT_len {H : Hp} {G : Gp} {kvs : List (List Key × D)} {vs : List (List Key × V)} (R : HpR K Γ H G) (hg : G a = some (.lkT kvs)) (hh : H a = some (.frz o (.dT vs))) : DatF K Γ H G kvs vs := by
  obtain ⟨o', vs', e, r⟩ := R.own a _ hg
  rw [hh] at e; cases e
  exact r
def PLkK (a : Addr) (o : Obj) (kvs : List (Key × D)) (vs : List (Key × V)) : Hp → Gp → Prop := fun H G => G a = some (.lkK kvs) ∧ H a = some (.frz o (.dK vs))
def PLkT (a : Addr) (o : Obj) (kvs : List (List Key × D)) (vs : List (List Key × V)) : Hp → Gp → Prop := fun H G => G a = some (.lkT kvs) ∧ H a = some (.frz o (.dT vs))
theorem PLkK.keep {kvs : List (Key × D)} {vs : List (Key × V)} {H H' : Hp} {G G' : Gp} (s : Step0 K H G H' G') (h : PLkK a o kvs vs H G) : PLkK a o kvs vs H' G' :=
  let ⟨q, r⟩ := s.lck a _ h.1 rfl
  ⟨q, r _ h.2⟩
theorem PLkT.keep {kvs : List (List Key × D)} {vs : List (List Key × V)} {H H' : Hp} {G G' : Gp} (s : Step0 K H G H' G') (h : PLkT a o kvs vs H G) : PLkT a o kvs vs H' G' :=
  let ⟨q, r⟩ := s.lck a _ h.1 rfl
  ⟨q, r _ h.2⟩
theorem walk_keys {kvs : List (Key × D)} {vs : List (Key × V)} (hl : kvs.length = vs.length) : Walk3 K Γ (Itk a o vs) (PLkK a o kvs vs) (kvs.map fun kv => keyD kv.1) where
  keep := fun H G H' G' s h => h.keep s
  go := fun i H G hi h R => ⟨h.2, by rw [← hl]; simpa using hi⟩
  yld := fun i H G x H' hi h R y => by
    obtain ⟨rfl, k, v, hkv, rfl⟩ := y
    obtain ⟨d, hd, _⟩ := datF_get (lkK_len R h.1 h.2) hkv
    exact ⟨Step.refl, R, keyD k, by rw [List.getElem?_map, hd] <;> rfl, dat_key'⟩
  stop := fun H G h R => ⟨h.2, by rw [List.length_map, hl]; exact Nat.le_refl _⟩
theorem walk_keysT {kvs : List (List Key × D)} {vs : List (List Key × V)} (hl : kvs.length = vs.length) : Walk3 K Γ (Itkt a o vs) (PLkT a o kvs vs) (kvs.map fun kv => keysD kv.1) where
  keep := fun H G H' G' s h => h.keep s
  go := fun i H G hi h R => ⟨h.2, by rw [← hl]; simpa using hi⟩
  yld := fun i H G x H' hi h R y => by
    obtain ⟨rfl, k, v, q, hkv, rfl, hq⟩ := y
    obtain ⟨d, hd, _⟩ := datF_get (lkT_len R h.1 h.2) hkv
    exact ⟨Step.refl, R, keysD k, by rw [List.getElem?_map, hd] <;> rfl, dat_keys' hq⟩
  stop := fun H G h R => ⟨h.2, by rw [List.length_map, hl]; exact Nat.le_refl _⟩
theorem walk_vals {kvs : List (Key × D)} {vs : List (Key × V)} (hl : kvs.length = vs.length) : Walk3 K Γ (Itd a o vs) (PLkK a o kvs vs) (kvs.map fun kv => kv.2) where
  keep := fun H G H' G' s h => h.keep s
  go := fun i H G hi h R => ⟨h.2, by rw [← hl]; simpa using hi⟩
  yld := fun i H G x H' hi h R y => by
    obtain ⟨rfl, k, hkv⟩ := y
    obtain ⟨d, hd, dd⟩ := datF_get (lkK_len R h.1 h.2) hkv
    exact ⟨Step.refl, R, d, by rw [List.getElem?_map, hd] <;> rfl, dd⟩
  stop := fun H G h R => ⟨h.2, by rw [List.length_map, hl]; exact Nat.le_refl _⟩
theorem walk_items {kvs : List (Key × D)} {vs : List (Key × V)} (hl : kvs.length = vs.length) : Walk3 K Γ (Iti a o vs) (PLkK a o kvs vs) (kvs.map fun kv => .tup [keyD kv.1, kv.2]) where
  keep := fun H G H' G' s h => h.keep s
  go := fun i H G hi h R => ⟨h.2, by rw [← hl]; simpa using hi⟩
  yld := fun i H G x H' hi h R y => by
    obtain ⟨T, k, v, hkv, rfl, hT, rfl⟩ := y
    obtain ⟨d, hd, dd⟩ := datF_get (lkK_len R h.1 h.2) hkv
    have st : Step K H G (upd H T (.tup [kV k, v])) G := Step.new hT
    exact ⟨st, R.new hT, .tup [keyD k, d], by rw [List.getElem?_map, hd] <;> rfl, T, _, rfl, upd_same, .cons dat_key' (.cons (dd.mono st) .nil)⟩
  stop := fun H G h R => ⟨h.2, by rw [List.length_map, hl]; exact Nat.le_refl _⟩
end
def IKeys (t : TE3) : TI3 := fun δ G Q E => t δ G (fun d G1 => match d with
  | .ref a => (match G1 a with
    | some (.lkK kvs) => Q (kvs.map fun kv => keyD kv.1) G1
    | some (.lkT kvs) => Q (kvs.map fun kv => keysD kv.1) G1
    | _ => False)
  | _ => False) E
def IVals (t : TE3) : TI3 := fun δ G Q E => t δ G (fun d G1 => match d with
  | .ref a => (match G1 a with | some (.lkK kvs) => Q (kvs.map fun kv => kv.2) G1 | _ => False)
  | _ => False) E
def IItems (t : TE3) : TI3 := fun δ G Q E => t δ G (fun d G1 => match d with
  | .ref a => (match G1 a with | some (.lkK kvs) => Q (kvs.map fun kv => .tup [keyD kv.1, kv.2]) G1 | _ => False)
  | _ => False) E
section
variable {X : Cx} {Γ : Gm} {W : WX} {e tg : Expr} {apos cpos : Pos} {t : TE3}
theorem pi3_keys (h : PE3 X Γ W e t) : PI3 X Γ W tg e (IKeys t) := pi_imp (pi_keys h) fun σ H R' hw => by
  obtain ⟨δ, G, Q3, E3, R, h1, k, ke⟩ := hw
  refine ⟨δ, G, _, E3, R, h1, fun d v G1 H1 s1 hp1 dv q => ?_, ke⟩
  split at q
  · obtain rfl : v = _ := dv
    split at q
    · rename_i kvs hg
      obtain ⟨o, vs, e, r⟩ := hp1.own _ _ (vis_some hg)
      exact ⟨_, o, rfl, .inl ⟨vs, e, k _ _ _ G1 H1 s1 hp1 (walk_keys (DatF.length r)) ⟨vis_some hg, e⟩ q⟩⟩
    · rename_i kvs hg
      obtain ⟨o, vs, e, r⟩ := hp1.own _ _ (vis_some hg)
      exact ⟨_, o, rfl, .inr ⟨vs, e, k _ _ _ G1 H1 s1 hp1 (walk_keysT (DatF.length r)) ⟨vis_some hg, e⟩ q⟩⟩
    · exact q.elim
  · exact q.elim
theorem pi3_vals (h : PE3 X Γ W e t) (hbase : attributeBase e "values" X.env (eval e X.env) = eval e X.env := by rfl) (hline : (apos.endLine == cpos.line) = true := by rfl) : PI3 X Γ W tg (.Call (.Attribute e "values" apos) [] [] cpos) (IVals t) := pi_imp (pi_values h hbase hline) fun σ H R' hw => by
  obtain ⟨δ, G, Q3, E3, R, h1, k, ke⟩ := hw
  refine ⟨δ, G, _, E3, R, h1, fun d v G1 H1 s1 hp1 dv q => ?_, ke⟩
  split at q
  · obtain rfl : v = _ := dv
    split at q
    · rename_i kvs hg
      obtain ⟨o, vs, e, r⟩ := hp1.own _ _ (vis_some hg)
      exact ⟨_, o, vs, rfl, e, k _ _ _ G1 H1 s1 hp1 (walk_vals (DatF.length r)) ⟨vis_some hg, e⟩ q⟩
    · exact q.elim
  · exact q.elim
theorem pi3_items {elts : List Expr} {kk : Nat} {tpos : Pos} (h : PE3 X Γ W e t) (hbase : attributeBase e "items" X.env (eval e X.env) = eval e X.env := by rfl) (hline : (apos.endLine == cpos.line) = true := by rfl) : PI3 X Γ W (.Tuple elts kk tpos) (.Call (.Attribute e "items" apos) [] [] cpos) (IItems t) := pi_imp (pi_items h hbase hline) fun σ H R' hw => by
  obtain ⟨δ, G, Q3, E3, R, h1, k, ke⟩ := hw
  refine ⟨δ, G, _, E3, R, h1, fun d v G1 H1 s1 hp1 dv q => ?_, ke⟩
  split at q
  · obtain rfl : v = _ := dv
    split at q
    · rename_i kvs hg
      obtain ⟨o, vs, e, r⟩ := hp1.own _ _ (vis_some hg)
      exact ⟨_, o, vs, rfl, e, k _ _ _ G1 H1 s1 hp1 (walk_items (DatF.length r)) ⟨vis_some hg, e⟩ q⟩
    · exact q.elim
  · exact q.elim
end

/-! ### dict comprehensions: an owned dict -/
def DcRun (δ0 : St3) (g : TG3) (tt : TT3) (tk te : TE3) : List D → List (Key × D) → Gp → (List (Key × D) → Gp → Prop) → Prop
  | [], acc, G, k => k acc G
  | x :: xs, acc, G, k => g x δ0 G (fun δ2 G2 => tt δ2 G2 (fun b G3 => if b = true then tk δ2 G3 (fun y G4 => ∃ ky, y = keyD ky ∧ te δ2 G4 (fun z G5 => acc.length < sizeLine ∧ DcRun δ0 g tt tk te xs (put acc ky z) G5 k) X0) X0 else DcRun δ0 g tt tk te xs acc G3 k) X0) X0
@[simp] def TDc (ti : TI3) (g : TG3) (tt : TT3) (tk te : TE3) (vs : List Nat) : TE3 := fun δ G Q E => ti δ G (fun ds G1 => DcRun (wipe3 δ vs) g tt tk te ds [] G1 (fun kvs G2 => ∀ p, G2 p = none → Q (.ref p) (gset G2 p (.dK kvs)))) E
section
variable {X : Cx} {Γ : Gm} {W : WX} {e a b c tg iter kx vx : Expr} {pos : Pos} {vs : List Nat}
theorem Step.showG {K : PySem.W.Frag} {H1 H : Hp} {G1 G : Gp} {A : Addr} {g : GO} (s : Step K H1 G1 H G) (n : H1 A = none) (n2 : G1 A = none) : Step K H1 G1 H (gset G A g) where
  tup := s.tup
  frm := s.frm
  frh := s.frh
  hid := fun a e => by rw [gset_ne (fun z => by subst z; rw [n2] at e; cases e)]; exact s.hid a e
  own := fun a o e g nt => by
    have ha : a ≠ A := fun z => by subst z; rw [n] at e; cases e
    rw [gset_ne ha]
    exact s.own a o e g nt
  lck := fun a g e l => ⟨by rw [gset_ne (fun z => by subst z; rw [n2] at e; cases e)]; exact (s.lck a g e l).1, (s.lck a g e l).2⟩
theorem vis_showG {G : Gp} {A : Addr} {g : GO} (h : g ≠ .hid) : vis (gset G A g) = gset (vis G) A g := vis_gset h
theorem Dat.step_show {K : PySem.W.Frag} {H : Hp} {G : Gp} {A : Addr} {g : GO} (hg : G A = some .hid) : StepD K H G H (gset G A g) :=
  ⟨fun _ _ h => h, fun _ _ h _ _ => h, fun b o h n _ => ⟨by rw [gset_ne (fun z => by subst z; rw [hg] at n; cases n)]; exact n, o, h⟩⟩
theorem run_dc {g : TG3} {tt : TT3} {tk te : TE3} {σ : L2.St} {Q : VK} {δ : St3} {ds : List D} {J : It} {P : Hp → Gp → Prop} {G1 : Gp} {H1 : Hp} {Q3 : K3} (R : Rel X.K Γ δ G1 σ H1) (wk : Walk3 X.K Γ J P ds) (p1 : P H1 G1)
    (k : ∀ d v G' H', Step X.K H1 G1 H' G' → HpR X.K Γ H' G' → Dat X.K Γ H' G' d v → Q3 d (vis G') → Q v H') (q1 : DcRun (wipe3 δ vs) g tt tk te ds [] (vis G1) (fun kvs G2 => ∀ p, G2 p = none → Q3 (.ref p) (gset G2 p (.dK kvs)))) :
    ∀ D, H1 D = none → ∃ W : Nat → Nat → Hp → Prop, (∃ m, W 0 m (upd H1 D (.dK []))) ∧ ∀ i m H, W i m H →
      (J.stop i H ∧ Q (.ref D) H) ∨ (J.go i H ∧ ∃ Nx : Hp → Prop, (∀ H', Nx H' → ∃ m', m' < m ∧ W (i + 1) m' H') ∧ ∀ x H', J.yld i H x H' → liftW X.K Γ vs g x (L2.wipe σ vs) H' fun σ2 H2 => L2.wipe σ2 vs = L2.wipe σ vs ∧ liftT X.K Γ W0 tt σ2 H2 fun b H3 =>
        if b = true then lift X.K Γ W0 tk σ2 H3 fun y H4 => lift X.K Γ W0 te σ2 H4 fun z H5 => ∃ kvs k, y = kV k ∧ H5 D = some (.dK kvs) ∧ kvs.length < sizeLine ∧ Nx (upd H5 D (.dK (putK kvs k z))) else Nx H3) := by
  intro A hA
  have hp1 := R.hp
  have hgA : G1 A = none := own_none hp1 hA
  have sA : Step X.K H1 G1 (upd H1 A (.dK [])) (gset G1 A .hid) := Step.newG hA hgA
  have hpA : HpR X.K Γ (upd H1 A (.dK [])) (gset G1 A .hid) := hp1.newG (g := .hid) hA ⟨_, upd_same, noTbl_dK, fun φ z => nomatch z⟩
  refine ⟨fun i m H' => m = ds.length - i ∧ i ≤ ds.length ∧ ∃ G' acc vacc, Step X.K H1 G1 H' G' ∧ HpR X.K Γ H' G' ∧ P H' G' ∧ G' A = some .hid ∧ H' A = some (.dK vacc) ∧ DatF X.K Γ H' G' acc vacc ∧
      DcRun (wipe3 δ vs) g tt tk te (ds.drop i) acc (vis G') (fun kvs G2 => ∀ p, G2 p = none → Q3 (.ref p) (gset G2 p (.dK kvs))), ⟨ds.length, by omega, Nat.zero_le _, gset G1 A .hid, [], [], sA, hpA, wk.keep _ _ _ _ sA.toStep0 p1, gset_same, upd_same, .nil, by rw [vis_hide hgA]; exact q1⟩, ?_⟩
  rintro i m H2 ⟨rfl, hi, G2, acc, vacc, s2, hp2, p2, gA, hA2, dacc, q2⟩
  have Rw : ∀ {H' : Hp} {G' : Gp}, Step X.K H1 G1 H' G' → HpR X.K Γ H' G' → Rel X.K Γ (wipe3 δ vs) G' (L2.wipe σ vs) H' := fun s hp => (R.mono s hp).wipe vs
  by_cases hl : i < ds.length
  · refine .inr ⟨wk.go i H2 G2 hl p2 hp2, fun H' => ∃ G' acc vacc, Step X.K H1 G1 H' G' ∧ HpR X.K Γ H' G' ∧ P H' G' ∧ G' A = some .hid ∧ H' A = some (.dK vacc) ∧ DatF X.K Γ H' G' acc vacc ∧ DcRun (wipe3 δ vs) g tt tk te (ds.drop (i + 1)) acc (vis G') (fun kvs G2 => ∀ p, G2 p = none → Q3 (.ref p) (gset G2 p (.dK kvs))),
      fun H' q => ⟨ds.length - (i + 1), by omega, rfl, hl, q⟩, fun x H' y => ?_⟩
    obtain ⟨s3, hp3, d, hd, dd⟩ := wk.yld i H2 G2 x H' hl p2 hp2 y
    have e : ds.drop i = d :: ds.drop (i + 1) := by
      rw [List.drop_eq_getElem_cons hl]
      have := (List.getElem?_eq_some_iff.mp hd).2
      rw [this]
    rw [e] at q2
    have s23 := s2.trans s3
    have nt : NoTbl (.dK vacc) := noTbl_dK
    refine ⟨d, wipe3 δ vs, G2, _, Rw s23 hp3, dd, q2, fun δ4 G4 σ4 H4 s4 R4 ew q4 => ⟨ew.trans (wipe_wipe σ vs), ?_⟩⟩
    refine ⟨δ4, G4, _, _, R4, q4, fun bb G5 H5 s5 hp5 q5 => ?_, fun _ _ _ _ _ z => z.elim⟩
    have s35 : Step X.K H2 G2 H5 G5 := (s3.trans s4).trans s5
    have s25 := s2.trans s35
    cases bb with
    | false =>
      have q5 : DcRun (wipe3 δ vs) g tt tk te (ds.drop (i + 1)) acc (vis G5) (fun kvs G2 => ∀ p, G2 p = none → Q3 (.ref p) (gset G2 p (.dK kvs))) := q5
      show ∃ G' acc vacc, _
      exact ⟨G5, acc, vacc, s25, hp5, wk.keep _ _ _ _ s35.toStep0 p2, s35.hid A gA, s35.frh A _ hA2 gA nt, dacc.mono s35, q5⟩
    | true =>
      have q5 : tk δ4 (vis G5) (fun y G4 => ∃ ky, y = keyD ky ∧ te δ4 G4 (fun z G5 => acc.length < sizeLine ∧ DcRun (wipe3 δ vs) g tt tk te (ds.drop (i + 1)) (put acc ky z) G5 (fun kvs G2 => ∀ p, G2 p = none → Q3 (.ref p) (gset G2 p (.dK kvs)))) X0) X0 := q5
      show lift X.K Γ W0 tk σ4 H5 _
      refine ⟨δ4, G5, _, _, R4.mono s5 hp5, q5, fun dy vy G6 H6 s6 hp6 dvy q6 => ?_, fun _ _ _ _ _ z => z.elim⟩
      obtain ⟨ky, rfl, q6⟩ := q6
      refine ⟨δ4, G6, _, _, (R4.mono s5 hp5).mono s6 hp6, q6, fun dz vz G7 H7 s7 hp7 dvz q7 => ?_, fun _ _ _ _ _ z => z.elim⟩
      have s37 : Step X.K H2 G2 H7 G7 := (s35.trans s6).trans s7
      have gA6 := s37.hid A gA
      have hA6 := s37.frh A _ hA2 gA nt
      have dacc6 := DatF.mono s37 dacc
      have hh : Step0 X.K H7 G7 (upd H7 A (.dK (putK vacc ky vz))) G7 := Step0.hide gA6 hA6 fun _ z => nomatch z
      refine ⟨vacc, ky, dat_key dvy, hA6, by rw [← DatF.length dacc6]; exact q7.1, G7, put acc ky dz, putK vacc ky vz, Step.hidden (s2.trans s37) hA (fun a ha => upd_ne ha) ⟨_, upd_same⟩, hp7.hide gA6 hA6 (fun _ z => nomatch z) noTbl_dK (fun _ z => nomatch z),
        wk.keep _ _ _ _ (s37.toStep0.trans hh) p2, gA6, upd_same, DatF.mono0 hh (datF_put dacc6 ky dvz), q7.2⟩
  · have e : i = ds.length := by omega
    subst e
    rw [List.drop_length] at q2
    have sd : StepD X.K H2 G2 H2 (gset G2 A (.dK acc)) := Dat.step_show gA
    refine .inl ⟨wk.stop H2 G2 p2 hp2, k (.ref A) _ (gset G2 A (.dK acc)) H2 (s2.showG hA hgA) ⟨fun b g' eb => ?_, hp2.tab⟩ rfl ?_⟩
    · by_cases hb : b = A
      · subst hb
        rw [gset_same] at eb; cases eb
        exact ⟨vacc, hA2, dacc.monoD sd⟩
      · rw [gset_ne hb] at eb
        exact (hp2.own b g' eb).monoD sd fun o h => h
    · rw [vis_gset (by intro z; cases z)]
      refine q2 A ?_
      unfold vis
      rw [gA]
variable {ti : TI3} {g : TG3} {tt : TT3} {tk te : TE3} {ifs : List Expr} {scope : Scope} {own : List (Str × Nat)}
theorem pe3_dc (hc : X.calm = true) (hN : X.N.Nodup) (hi : PI3 X Γ W tg iter ti) (ok : BlkOk X.N X.env.scope scope own)
    (hg : ∀ (s : Shared) (H : Hp) (C : Addr) (cl : List (Str × Addr)) (fp : List Addr), PW3g (X.blk s H scope (compEnvC scope cl C X.env) fp) Γ (own.map (·.2)) tg g) (ht : ∀ (s : Shared) (H : Hp) (C : Addr) (cl : List (Str × Addr)) (fp : List Addr), PTs3 (X.blk s H scope (compEnvC scope cl C X.env) fp) Γ W0 ifs tt)
    (hk : ∀ (s : Shared) (H : Hp) (C : Addr) (cl : List (Str × Addr)) (fp : List Addr), PE3 (X.blk s H scope (compEnvC scope cl C X.env) fp) Γ W0 kx tk)
    (he : ∀ (s : Shared) (H : Hp) (C : Addr) (cl : List (Str × Addr)) (fp : List Addr), PE3 (X.blk s H scope (compEnvC scope cl C X.env) fp) Γ W0 vx te) (hs : ∀ x, foldedSetIterable iter X.env x = pure x := by intro _; rfl) :
    PE3 X Γ W (.DictComp kx vx [⟨tg, iter, ifs, 0⟩] scope pos) (TDc ti g tt tk te (own.map (·.2))) :=
  pe_imp (pe_dc hc hN hi ok hg ht hk he hs) fun σ H Q hw => by
    obtain ⟨δ, G, Q3, E3, R, h, k, ke⟩ := hw
    exact ⟨δ, G, _, E3, R, h, fun ds J P G1 H1 s1 hp1 wk p1 q1 => run_dc (R.mono s1 hp1) wk p1 (fun d v G' H' s' => k d v G' H' (s1.trans s')) q1, ke⟩
end
end L3
/-! L3, part j: built-ins. -/
namespace L3
open PySem PySem.Spec PyProof.Rows L2

/-- the items of a list or a tuple -/
@[simp] def seqD (G : Gp) (d : D) : Option (List D) := match d with
  | .nod .lst xs => some xs
  | .nod .ro xs => some xs
  | .nod .tup xs => some xs
  | .nod .tuK xs => some xs
  | .nod .tuF xs => some xs
  | .ref a => match G a with | some (.lst xs) => some xs | _ => none
  | _ => none
@[simp] def isTup : D → Bool
  | .nod .tup _ => true
  | .nod .tuK _ => true
  | .nod .tuF _ => true
  | _ => false
section
variable {K : PySem.W.Frag} {Γ : Gm} {H : Hp} {G : Gp}
theorem sqL_none {a : Addr} {vs : List V} (h : SqL K (fun _ => none) a vs) (H : Hp) : SqL K H a vs := by
  rcases h with (z | ⟨_, z⟩) | z
  · cases z
  · cases z
  · exact .inr z
theorem sqT_none {a : Addr} {vs : List V} (h : SqT K (fun _ => none) a vs) (H : Hp) : SqT K H a vs := by
  rcases h with (z | ⟨_, z⟩) | z
  · cases z
  · cases z
  · exact .inr z
theorem seqD_at {d : D} {v : V} {xs : List D} (R : HpR K Γ H G) (h : seqD (vis G) d = some xs) (dv : Dat K Γ H G d v) : ∃ p vs, v = .ref p ∧ ((isTup d = false ∧ SqL K H p vs) ∨ (isTup d = true ∧ SqT K H p vs)) ∧ DatL K Γ H G xs vs := by
  unfold seqD at h
  split at h
  · cases h
    obtain ⟨p, vs, rfl, h1, l⟩ := dv
    exact ⟨p, vs, rfl, .inl ⟨rfl, SqL.of h1.2⟩, l⟩
  · cases h
    obtain ⟨p, vs, rfl, h1, l⟩ := dv
    refine ⟨p, vs, rfl, .inl ⟨rfl, ?_⟩, l⟩
    rcases h1 with h1 | h1
    · exact .inl h1.2
    · exact sqL_none h1 H
  · cases h
    obtain ⟨p, vs, rfl, h1, l⟩ := dv
    exact ⟨p, vs, rfl, .inr ⟨rfl, SqT.of h1⟩, l⟩
  · cases h
    obtain ⟨p, vs, rfl, ⟨h1, _⟩, l⟩ := dv
    exact ⟨p, vs, rfl, .inr ⟨rfl, sqT_none h1 H⟩, l⟩
  · cases h
    obtain ⟨p, vs, rfl, ⟨_, o, h1, _⟩, l⟩ := dv
    exact ⟨p, vs, rfl, .inr ⟨rfl, .inl (.inr ⟨o, h1⟩)⟩, l⟩
  · split at h
    · rename_i hg
      cases h
      obtain rfl : v = _ := dv
      obtain ⟨vs, h1, l⟩ := R.own _ _ (vis_some hg)
      exact ⟨_, vs, rfl, .inl ⟨rfl, SqL.of h1⟩, l⟩
    · cases h
  · cases h
theorem datL_one {d : D} {vs : List V} (h : DatL K Γ H G [d] vs) : ∃ v, vs = [v] ∧ Dat K Γ H G d v := by
  obtain ⟨v, r, rfl, h1, h2⟩ := h
  cases (show _ = _ from h2)
  exact ⟨v, rfl, h1⟩
theorem datL_two {d e : D} {vs : List V} (h : DatL K Γ H G [d, e] vs) : ∃ v u, vs = [v, u] ∧ Dat K Γ H G d v ∧ Dat K Γ H G e u := by
  obtain ⟨v, r, rfl, h1, h2⟩ := h
  obtain ⟨u, rfl, h3⟩ := datL_one h2
  exact ⟨v, u, rfl, h1, h3⟩
end

/-! ### numbers -/
@[simp] def absR : C3 := fun ds G Q => match ds with | [.int i] => Q (.int (if i < 0 then -i else i)) G | _ => False
@[simp] def intR : C3 := fun ds G Q => match ds with | [.int i] => Q (.int i) G | [.bl k] => Q (.int (if k = true then 1 else 0)) G | _ => False
/-- the least, the greatest of a list of ints -/
def minI : List Int → Int
  | [] => 0
  | [a] => a
  | a :: b :: r => min a (minI (b :: r))
def maxI : List Int → Int
  | [] => 0
  | [a] => a
  | a :: b :: r => max a (maxI (b :: r))
theorem minI_mem : ∀ {ns : List Int}, ns ≠ [] → minI ns ∈ ns ∧ ∀ y ∈ ns, minI ns ≤ y
  | [], h => absurd rfl h
  | [a], _ => ⟨List.mem_singleton.mpr rfl, fun y hy => by rw [List.mem_singleton.mp hy]; exact Int.le_refl _⟩
  | a :: b :: r, _ => by
    obtain ⟨h1, h2⟩ := minI_mem (ns := b :: r) (by simp)
    show min a (minI (b :: r)) ∈ a :: b :: r ∧ _
    refine ⟨?_, fun y hy => ?_⟩
    · by_cases h : a ≤ minI (b :: r)
      · rw [Int.min_eq_left h]; exact List.mem_cons_self ..
      · rw [Int.min_eq_right (by omega)]; exact List.mem_cons_of_mem _ h1
    · show min a (minI (b :: r)) ≤ y
      rcases List.mem_cons.mp hy with rfl | hy
      · exact Int.min_le_left _ _
      · exact Int.le_trans (Int.min_le_right _ _) (h2 y hy)
theorem maxI_mem : ∀ {ns : List Int}, ns ≠ [] → maxI ns ∈ ns ∧ ∀ y ∈ ns, y ≤ maxI ns
  | [], h => absurd rfl h
  | [a], _ => ⟨List.mem_singleton.mpr rfl, fun y hy => by rw [List.mem_singleton.mp hy]; exact Int.le_refl _⟩
  | a :: b :: r, _ => by
    obtain ⟨h1, h2⟩ := maxI_mem (ns := b :: r) (by simp)
    show max a (maxI (b :: r)) ∈ a :: b :: r ∧ _
    refine ⟨?_, fun y hy => ?_⟩
    · by_cases h : maxI (b :: r) ≤ a
      · rw [Int.max_eq_left h]; exact List.mem_cons_self ..
      · rw [Int.max_eq_right (by omega)]; exact List.mem_cons_of_mem _ h1
    · show y ≤ max a (maxI (b :: r))
      rcases List.mem_cons.mp hy with rfl | hy
      · exact Int.le_max_left _ _
      · exact Int.le_trans (h2 y hy) (Int.le_max_right _ _)
def minR : C3 := fun ds G Q => match ds with
  | [.int i, .int j] => Q (.int (min i j)) G
  | [d] => isTup d = false ∧ ∃ ns : List Int, seqD G d = some (ns.map .int) ∧ ns ≠ [] ∧ Q (.int (minI ns)) G
  | _ => False
def maxR : C3 := fun ds G Q => match ds with
  | [.int i, .int j] => Q (.int (max i j)) G
  | [d] => isTup d = false ∧ ∃ ns : List Int, seqD G d = some (ns.map .int) ∧ ns ≠ [] ∧ Q (.int (maxI ns)) G
  | _ => False
def sumR : C3 := fun ds G Q => match ds with
  | [d] => isTup d = false ∧ ∃ ns : List Int, seqD G d = some (ns.map .int) ∧ Q (.int ns.sum) G
  | _ => False
def lenR : C3 := fun ds G Q => match ds with
  | [.str z] => z.length ≤ sizeLine ∧ Q (.int z.length) G
  | [d] => (match seqD G d with
    | some xs => Q (.int xs.length) G
    | none => match d with
      | .ref a => (match G a with | some (.dK kvs) => Q (.int kvs.length) G | _ => False)
      | _ => False)
  | _ => False
/-- list(xs), by value -/
def listR : C3 := fun ds G Q => match ds with
  | [d] => (match seqD G d with
    | some xs => Q (.lst xs) G
    | none => ∃ kvs, DKat G d kvs ∧ Q (.lst (kvs.map fun kv => keyD kv.1)) G)
  | _ => False
def tupR : C3 := fun ds G Q => match ds with
  | [d] => if isTup d = true then Q d G else ∃ xs, seqD G d = some xs ∧ Q (.tup xs) G
  | _ => False
section
variable {X : Cx} {Γ : Gm}
theorem sound_abs : SoundN X.K Γ (fun xs H Q => ∃ i, xs = [.int i] ∧ Q (.int (if i < 0 then -i else i)) H) absR := by
  intro xs vs H G Q3 Q R hl h k
  unfold absR at h
  split at h
  · obtain ⟨v, rfl, h1⟩ := datL_one hl
    exact ⟨_, by rw [show v = _ from h1], ret k R h rfl⟩
  · exact h.elim
theorem sound_int1 : SoundN X.K Γ (fun xs H Q => (∃ i, xs = [.int i] ∧ Q (.int i) H) ∨ ∃ k, xs = [.bl k] ∧ Q (.int (if k then 1 else 0)) H) intR := by
  intro xs vs H G Q3 Q R hl h k
  unfold intR at h
  split at h
  · obtain ⟨v, rfl, h1⟩ := datL_one hl
    exact .inl ⟨_, by rw [show v = _ from h1], ret k R h rfl⟩
  · obtain ⟨v, rfl, h1⟩ := datL_one hl
    exact .inr ⟨_, by rw [show v = _ from h1], ret k R h rfl⟩
  · exact h.elim
theorem cr_min2 (hc : X.calm = true) : CallR X (.builtin "min") (fun xs H Q => (∃ i j, xs = [.int i, .int j] ∧ Q (.int (if j < i then j else i)) H) ∨ rMin X.K xs H Q) := (call_min2 hc).or (cr_min hc)
theorem cr_max2 (hc : X.calm = true) : CallR X (.builtin "max") (fun xs H Q => (∃ i j, xs = [.int i, .int j] ∧ Q (.int (if j > i then j else i)) H) ∨ rMax X.K xs H Q) := (call_max2 hc).or (cr_max hc)
theorem sound_min : SoundN X.K Γ (fun xs H Q => (∃ i j, xs = [.int i, .int j] ∧ Q (.int (if j < i then j else i)) H) ∨ rMin X.K xs H Q) minR := by
  intro xs vs H G Q3 Q R hl h k
  unfold minR at h
  split at h
  · rename_i i j
    obtain ⟨v, u, rfl, h1, h2⟩ := datL_two hl
    refine .inl ⟨_, _, by rw [show v = _ from h1, show u = _ from h2], ret k R h ?_⟩
    show _ = _
    rw [Int.min_def]
    by_cases e : j < i
    · rw [if_pos e, if_neg (by omega)]
    · rw [if_neg e, if_pos (by omega)]
  · obtain ⟨v, rfl, h1⟩ := datL_one hl
    obtain ⟨nt, ns, e, ne, q⟩ := h
    obtain ⟨p, us, rfl, hs, l⟩ := seqD_at R e h1
    rcases hs with ⟨_, hs⟩ | ⟨z, _⟩
    · rw [DatL.ints l] at hs
      refine .inr ⟨p, ns, rfl, hs, List.length_pos_iff.mpr ne, fun m hm hy => ?_⟩
      obtain ⟨a1, a2⟩ := minI_mem ne
      have e : m = minI ns := Int.le_antisymm (hy _ a1) (a2 _ hm)
      rw [e]
      exact ret k R q rfl
    · rw [nt] at z; cases z
  · exact h.elim
theorem sound_max : SoundN X.K Γ (fun xs H Q => (∃ i j, xs = [.int i, .int j] ∧ Q (.int (if j > i then j else i)) H) ∨ rMax X.K xs H Q) maxR := by
  intro xs vs H G Q3 Q R hl h k
  unfold maxR at h
  split at h
  · rename_i i j
    obtain ⟨v, u, rfl, h1, h2⟩ := datL_two hl
    refine .inl ⟨_, _, by rw [show v = _ from h1, show u = _ from h2], ret k R h ?_⟩
    show _ = _
    rw [Int.max_def]
    by_cases e : j > i
    · rw [if_pos e, if_pos (by omega)]
    · rw [if_neg e]
      by_cases e2 : i ≤ j
      · rw [if_pos e2, show i = j by omega]
      · rw [if_neg e2]
  · obtain ⟨v, rfl, h1⟩ := datL_one hl
    obtain ⟨nt, ns, e, ne, q⟩ := h
    obtain ⟨p, us, rfl, hs, l⟩ := seqD_at R e h1
    rcases hs with ⟨_, hs⟩ | ⟨z, _⟩
    · rw [DatL.ints l] at hs
      refine .inr ⟨p, ns, rfl, hs, List.length_pos_iff.mpr ne, fun m hm hy => ?_⟩
      obtain ⟨a1, a2⟩ := maxI_mem ne
      have e : m = maxI ns := Int.le_antisymm (a2 _ hm) (hy _ a1)
      rw [e]
      exact ret k R q rfl
    · rw [nt] at z; cases z
  · exact h.elim
theorem sound_sum : SoundN X.K Γ (rSum X.K) sumR := by
  intro xs vs H G Q3 Q R hl h k
  unfold sumR at h
  split at h
  · obtain ⟨v, rfl, h1⟩ := datL_one hl
    obtain ⟨nt, ns, e, q⟩ := h
    obtain ⟨p, us, rfl, hs, l⟩ := seqD_at R e h1
    rcases hs with ⟨_, hs⟩ | ⟨z, _⟩
    · rw [DatL.ints l] at hs
      exact ⟨p, ns, rfl, hs, ret k R q rfl⟩
    · rw [nt] at z; cases z
  · exact h.elim
abbrev rLen3 (K : PySem.W.Frag) : List V → Hp → VK → Prop := fun xs H Q => (∃ x n, xs = [x] ∧ LenV K x H n ∧ Q (.int n) H) ∨ ∃ a kvs, xs = [V.ref a] ∧ H a = some (.dK kvs) ∧ Q (.int kvs.length) H
theorem cr_len3 : CallR X (.builtin "len") (rLen3 X.K) := call_len.or call_lenD
theorem sound_len : SoundN X.K Γ (rLen3 X.K) lenR := by
  intro xs vs H G Q3 Q R hl h k
  unfold lenR at h
  split at h
  · obtain ⟨v, rfl, h1⟩ := datL_one hl
    obtain rfl : v = _ := h1
    exact .inl ⟨_, _, rfl, ⟨h.1, rfl⟩, ret k R h.2 rfl⟩
  · obtain ⟨v, rfl, h1⟩ := datL_one hl
    split at h
    · rename_i e
      obtain ⟨p, us, rfl, hs, l⟩ := seqD_at R e h1
      refine .inl ⟨_, us.length, rfl, ?_, by rw [← l.length]; exact ret k R h rfl⟩
      rcases hs with ⟨_, hs⟩ | ⟨_, hs⟩
      · exact .inl ⟨us, hs, rfl⟩
      · exact .inr ⟨us, hs, rfl⟩
    · split at h
      · split at h
        · rename_i hg
          obtain rfl : v = _ := h1
          obtain ⟨us, h2, l⟩ := R.own _ _ (vis_some hg)
          exact .inr ⟨_, us, rfl, h2, by rw [← DatF.length l]; exact ret k R h rfl⟩
        · exact h.elim
      · exact h.elim
  · exact h.elim
abbrev rList3 (K : PySem.W.Frag) : List V → Hp → VK → Prop := fun xs H Q => (∃ p ys, xs = [.ref p] ∧ (SqL K H p ys ∨ SqT K H p ys) ∧ ∀ l, H l = none → Q (.ref l) (upd H l (.lst ys))) ∨
  ∃ (a : Addr) (kvs : List (Key × V)), xs = [.ref a] ∧ Rd H a (.dK kvs) ∧ ∀ p, H p = none → Q (.ref p) (upd H p (.lst (kvs.map fun kv => kV kv.1)))
theorem cr_list3 (hc : X.calm = true) : CallR X (.type "list") (rList3 X.K) := call_list_of.or (call_listD hc)
theorem sound_list : SoundN X.K Γ (rList3 X.K) listR := by
  intro xs vs H G Q3 Q R hl h k
  unfold listR at h
  split at h
  · obtain ⟨v, rfl, h1⟩ := datL_one hl
    split at h
    · rename_i e
      obtain ⟨p, us, rfl, hs, l⟩ := seqD_at R e h1
      exact .inl ⟨p, us, rfl, hs.imp (·.2) (·.2), fun q hq => new_lst R hq l k h⟩
    · obtain ⟨kvs, hd, q⟩ := h
      obtain ⟨a, us, rfl, hr, l⟩ := hd.at R h1
      refine .inr ⟨a, us, rfl, hr, fun p hp => new_lst R hp ?_ k q⟩
      have e : us.map (fun kv => kV kv.1) = (kvs.map (·.1)).map kV := by
        rw [← DatF.fst l, List.map_map] <;> rfl
      have e2 : kvs.map (fun kv => keyD kv.1) = (kvs.map (·.1)).map keyD := by
        rw [List.map_map] <;> rfl
      rw [e, e2]
      exact datL_keys'
  · exact h.elim
theorem sound_tup : SoundN X.K Γ (fun xs H Q => ∃ p ys, xs = [.ref p] ∧ ((SqL X.K H p ys ∧ ∀ l, H l = none → Q (.ref l) (upd H l (.tup ys))) ∨ (SqT X.K H p ys ∧ Q (.ref p) H))) tupR := by
  intro xs vs H G Q3 Q R hl h k
  unfold tupR at h
  split at h
  · rename_i d
    obtain ⟨v, rfl, h1⟩ := datL_one hl
    by_cases ht : isTup d = true
    · rw [if_pos ht] at h
      have hs : ∃ xs, seqD (vis G) d = some xs := by
        unfold isTup at ht
        split at ht
        · exact ⟨_, rfl⟩
        · exact ⟨_, rfl⟩
        · exact ⟨_, rfl⟩
        · cases ht
      obtain ⟨xs, e⟩ := hs
      have h0 := h1
      obtain ⟨p, us, rfl, hs, l⟩ := seqD_at R e h1
      rcases hs with ⟨z, _⟩ | ⟨_, hs⟩
      · rw [ht] at z; cases z
      · exact ⟨p, us, rfl, .inr ⟨hs, ret k R h h0⟩⟩
    · rw [if_neg ht] at h
      obtain ⟨xs, e, q⟩ := h
      obtain ⟨p, us, rfl, hs, l⟩ := seqD_at R e h1
      rcases hs with ⟨_, hs⟩ | ⟨z, _⟩
      · exact ⟨p, us, rfl, .inl ⟨hs, fun q' hq => new_tup R hq l k q⟩⟩
      · exact absurd z ht
  · exact h.elim
end

/-! ### dict(xs) of pairs -/
def pairsD (kvs : List (Key × D)) : List D := kvs.map fun kv => .tup [keyD kv.1, kv.2]
def dictR : C3 := fun ds G Q => ∃ kvs, ds = [.lst (pairsD kvs)] ∧ ∀ p, G p = none → Q (.ref p) (gset G p (.dK (merge [] kvs)))
/-- .. by value -/
def dictVR : C3 := fun ds G Q => ∃ kvs, ds = [.lst (pairsD kvs)] ∧ Q (.dK (merge [] kvs)) G
section
variable {K : PySem.W.Frag} {Γ : Gm} {H : Hp} {G : Gp}
theorem datL_pairs : ∀ {kvs : List (Key × D)} {vs : List V}, DatL K Γ H G (pairsD kvs) vs → ∃ (ps : List Addr) (ws : List (Key × V)), vs = ps.map V.ref ∧ Paired (fun p kv => SqT K H p [kV kv.1, kv.2]) ps ws ∧ DatF K Γ H G kvs ws
  | [], _, h => ⟨[], [], h, .nil, .nil⟩
  | (k, d) :: kvs, _, h => by
    obtain ⟨v, r, rfl, ⟨p, us, rfl, h1, l⟩, h3⟩ := h
    obtain ⟨ps, ws, rfl, h4, h5⟩ := datL_pairs h3
    obtain ⟨u1, u2, rfl, d1, d2⟩ := datL_two l
    have e := dat_key d1
    subst e
    exact ⟨p :: ps, (k, u2) :: ws, rfl, .cons (SqT.of h1) h4, .cons ⟨rfl, d2⟩ h5⟩
theorem datF_merge : ∀ {more : List (Key × D)} {ms : List (Key × V)} {kvs : List (Key × D)} {vs : List (Key × V)}, DatF K Γ H G more ms → DatF K Γ H G kvs vs → DatF K Γ H G (merge kvs more) (mergeK vs ms)
  | _, _, _, _, .nil, h => h
  | (k, d) :: more, (k', v) :: ms, _, _, .cons r t, h => by
    obtain ⟨e, r2⟩ := r
    have e : k = k' := e
    subst e
    exact datF_merge (more := more) (ms := ms) t (datF_put h k r2)
end
section
variable {X : Cx} {Γ : Gm}
abbrev rDictP3 (K : PySem.W.Frag) : List V → Hp → VK → Prop := fun xs H Q => ∃ (a : Addr) (ps : List Addr) (kvs : List (Key × V)), xs = [.ref a] ∧ SqL K H a (ps.map V.ref) ∧ Paired (fun p kv => SqT K H p [kV kv.1, kv.2]) ps kvs ∧
  ∀ p, H p = none → Q (.ref p) (upd H p (.dK (mergeK [] kvs)))
theorem sound_dict : SoundN X.K Γ (rDictP3 X.K) dictR := by
  intro xs vs H G Q3 Q R hl h k
  obtain ⟨kvs, rfl, q⟩ := h
  obtain ⟨v, rfl, h1⟩ := datL_one hl
  obtain ⟨a, us, rfl, h2, l⟩ := h1
  obtain ⟨ps, ws, rfl, h4, h5⟩ := datL_pairs l
  refine ⟨a, ps, ws, rfl, SqL.of h2.2, h4, fun p hp => ?_⟩
  have st : Step X.K H G (upd H p (.dK (mergeK [] ws))) (gset G p (.dK (merge [] kvs))) := Step.newG hp (own_none R hp)
  refine k (.ref p) _ _ _ st (R.newG (g := .dK (merge [] kvs)) hp ⟨_, upd_same, DatF.mono st (datF_merge h5 .nil)⟩) rfl ?_
  rw [vis_gset (by intro z; cases z)]
  exact q p (vis_none (own_none R hp))
theorem sound_dictV : SoundN X.K Γ (rDictP3 X.K) dictVR := by
  intro xs vs H G Q3 Q R hl h k
  obtain ⟨kvs, rfl, q⟩ := h
  obtain ⟨v, rfl, h1⟩ := datL_one hl
  obtain ⟨a, us, rfl, h2, l⟩ := h1
  obtain ⟨ps, ws, rfl, h4, h5⟩ := datL_pairs l
  refine ⟨a, ps, ws, rfl, SqL.of h2.2, h4, fun p hp => ?_⟩
  have st : Step X.K H G (upd H p (.dK (mergeK [] ws))) G := Step.new hp
  have hm := DatF.mono st (datF_merge h5 .nil)
  refine k (.dK (merge [] kvs)) _ _ _ st (R.new hp) ⟨p, _, rfl, ⟨own_none R hp, by rw [List.length_map, List.length_map]; exact DatF.length hm, .inl ?_⟩, DatF.snd hm⟩ q
  rw [← DatF.fst hm, zip_self]
  exact upd_same
end

/-! ### calls of types by name -/
section
variable {X : Cx} {Γ : Gm} {W : WX} {e : Expr} {es : List Expr} {pos p : Pos}
theorem pe3_callTy {T : String} {x : Str} {r : List V → Hp → VK → Prop} {r3 : C3} {t : TA3} (hc : CallR X (.type T) r) (hs : SoundN X.K Γ r r3) (hg : Gl X x) (hm : X.mg x = none) (hv : bootBuiltins x = some (.type T)) (ha : PA3 X Γ W (e :: es) t)
    (hn : x ≠ "__name__" := by decide) (hdb : (x == ("__debug__" : Str)) = false := by decide) (hst : starEach (e :: es) X.env = (false, eval e X.env) :: starEach es X.env := by rfl) (hpl : ((backTo pos (starEach es X.env)).any fun x => x.fst) = false := by rfl) : PE3 X Γ W (.Call (.Name x p) (e :: es) [] pos) (TCB r3 t) :=
  pe_imp (pe_callTy hc hg hm hv ha hn hdb hst hpl) fun _ _ _ hw => cb_sound hs hw
end

/-! ### xs[::-1] -/
def TRev (t : TE3) : TE3 := fun δ G Q E => t δ G (fun d G1 => isTup d = false ∧ ∃ xs, seqD G1 d = some xs ∧ Q (.lst xs.reverse) G1) E
section
variable {X : Cx} {Γ : Gm} {W : WX} {e : Expr} {k : Nat} {p1 p2 p3 pos : Pos} {t : TE3}
theorem pe3_rev (he : PE3 X Γ W e t) : PE3 X Γ W (.Subscript e (.Slice none none (some (.UnaryOp .USub (.Constant (.int 1) k p1) p2)) p3) pos) (TRev t) := pe_imp (pe_revL he) fun σ H Q hw => by
  obtain ⟨δ, G, Q3, E3, R, h1, k, ke⟩ := hw
  refine ⟨δ, G, _, E3, R, h1, fun d v G1 H1 s1 hp1 dv ⟨nt, xs, e, q⟩ => ?_, ke⟩
  obtain ⟨p, us, rfl, hs, l⟩ := seqD_at hp1 e dv
  rcases hs with ⟨_, hs⟩ | ⟨z, _⟩
  · exact ⟨p, us, rfl, hs, fun q' hq => new_lst hp1 hq l.reverse (fun d w G' H' s' => k d w G' H' (s1.trans s')) q⟩
  · rw [nt] at z; cases z
end

/-! ### xs.append(y) -/
def TApp (to : TE3) (t : TA3) : TE3 := fun δ G Q E => to δ G (fun x G1 => match x with
  | .ref a => (∃ xs, G1 a = some (.lst xs)) ∧ t δ G1 (fun ds G2 => match ds with
    | [y] => (match G2 a with | some (.lst xs) => xs.length < sizeLine ∧ Q .non (gset G2 a (.lst (xs ++ [y]))) | _ => False)
    | _ => False) E
  | _ => False) E
section
variable {X : Cx} {Γ : Gm} {W : WX} {o e : Expr} {apos cpos : Pos} {to : TE3} {t : TA3}
theorem pe3_append (ho : PE3 X Γ W o to) (ha : PA3 X Γ W [e] t) (hbase : attributeBase o "append" X.env (eval o X.env) = eval o X.env := by rfl)
    (hfew : ((backTo cpos (starEach [e] X.env)).all (fun x => !x.1) && (backToKw cpos (keywordEach [] X.env)).all (fun x => x.1.isSome) && decide ([e].length + ([] : List Keyword).length + (if ([] : List Keyword).isEmpty then 0 else 1) < 30)) = true := by rfl)
    (hline : (apos.endLine == cpos.line) = true := by rfl) (hs : starEach [e] X.env = [(false, eval e X.env)] := by rfl) : PE3 X Γ W (.Call (.Attribute o "append" apos) [e] [] cpos) (TApp to t) := by
  refine pe_imp (pe_bm PySem.F.plainAttrs_list PySem.F.slot_list_append PySem.F.type_list_append mt_append ho ha hbase hfew hline hs) fun σ H Q hw => ?_
  obtain ⟨δ, G, Q3, E3, R, h1, k, ke⟩ := hw
  refine ⟨δ, G, _, E3, R, h1, fun d v G1 H1 s1 hp1 dv q => ?_, ke⟩
  split at q
  · obtain rfl : v = _ := dv
    obtain ⟨⟨xs, hg⟩, q⟩ := q
    obtain ⟨us, h2, l⟩ := hp1.own _ _ (vis_some hg)
    refine ⟨.inl ⟨rfl, us, SqL.of h2⟩, δ, G1, _, E3, R.mono s1 hp1, q, fun ds vs G2 H2 s2 hp2 dl q => ?_, fun cls G' H' s' => ke cls G' H' (s1.trans s')⟩
    split at q
    · split at q
      · rename_i xs2 hg2
        have hg2' := vis_some hg2
        obtain ⟨us2, h3, l2⟩ := hp2.own _ _ hg2'
        obtain ⟨y, rfl, dy⟩ := datL_one dl
        obtain ⟨st, hp3⟩ := hp2.put (o' := .lst (us2 ++ [y])) (g' := .lst (xs2 ++ [_])) hg2' rfl fun st => ⟨_, upd_same, (l2.append (.cons dy .nil)).mono st⟩
        refine ⟨_, us2, y, rfl, rfl, h3, by rw [← l2.length]; exact q.1, k .non _ _ _ ((s1.trans s2).trans st) hp3 rfl ?_⟩
        rw [vis_gset (by intro z; cases z)]
        exact q.2
      · exact q.elim
    · exact q.elim
  · exact q.elim
end

/-! ### a, b, c = x, y, z -/
@[simp] def TPar3 (i j l : Nat) (t : TA3) : TS3 := fun D3 δ G => t δ G (fun ds G1 => match ds with | [a, b, c] => D3.nx (((δ.set i (some a)).set j (some b)).set l (some c)) G1 | _ => False) (fun cls G1 => D3.ex cls δ G1)
section
variable {X : Cx} {Γ : Gm} {W : WX} {a b c : Expr} {pos : Pos}
theorem ps3_par3 {i j l : Nat} {x y z : Str} {t : TA3} {px py pz pt : Pos} {kt k2 pt2} (hc : X.calm = true) (hN : X.N.Nodup) (hi : X.N[i]? = some x) (hj : X.N[j]? = some y) (hl : X.N[l]? = some z) (hij : i ≠ j) (hil : i ≠ l) (hjl : j ≠ l)
    (hx : X.env.scope.names.lookup x = some .local) (hy : X.env.scope.names.lookup y = some .local) (hz : X.env.scope.names.lookup z = some .local) (ha : PA3 X Γ W [a, b, c] t)
    (hw : swappedStores [.Tuple [.Name x px, .Name y py, .Name z pz] kt pt] (.Tuple [a, b, c] k2 pt2) X.env = pure (some [x, y, z]))
    (hs : swapsWithSole [.Tuple [.Name x px, .Name y py, .Name z pz] kt pt] (.Tuple [a, b, c] k2 pt2) pos.line X.env = pure false := by rfl) :
    PS3 X Γ W (.Assign [.Tuple [.Name x px, .Name y py, .Name z pz] kt pt] (.Tuple [a, b, c] k2 pt2) pos) (TPar3 i j l t) := by
  refine ps_imp (ps_par3 hc hN hi hj hl hij hil hjl hx hy hz ha hw hs) fun D' σ H hw => ?_
  obtain ⟨δ, G, D3, R, h, k⟩ := hw
  refine ⟨δ, G, _, _, R, h, fun ds vs G1 H1 s1 hp1 dl q => ?_, fun cls G' H' s hp q => k.ex cls δ G' σ H' s (R.mono s hp) q⟩
  split at q
  · obtain ⟨v, r, rfl, d1, l1⟩ := dl
    obtain ⟨v2, v3, rfl, d2, d3⟩ := datL_two l1
    exact ⟨v, v2, v3, rfl, k.nx _ G1 _ H1 s1 ((((R.mono s1 hp1).set d1).set d2).set d3) q⟩
  · exact q.elim
end
end L3
/-! L3, part k: sorted. -/

namespace L3
open PySem PySem.Spec PyProof.Rows L2

/-! ### sorted of a tuple -/
section
variable {prog : Program} {w : World} {A : Around} {E : Value → Shared → Prop} {s : Shared}
theorem collect_tupL {t : Addr} {vs : List Value} {o : Obj} {n : Nat} {Q : List Value → Shared → Prop} (ho : s.heap.get? t = some o) (hc : o.cls = .type "tuple") (hd : o.data = .seq vs.toArray n) (hz : vs.length ≤ sizeLine)
    (h : Q vs { s with heap := (s.heap.push (seqObj "list" #[] 0)).update s.heap.objs.size (Obj.mapSeq (· ++ vs.toArray)) }) : wpAny (model prog w) A (collect (.ref t)) Q E s := by
  have hp : (s.heap.push (seqObj "list" #[] 0)).get? t = some o := Heap.get?_push_of_some _ ho
  have hn : (s.heap.push (seqObj "list" #[] 0)).get? s.heap.objs.size = some (seqObj "list" #[] 0) := Heap.get?_push_size _ rfl
  have hlen : (#[] ++ vs.toArray : Array Value).size ≤ sizeLine + 1 := by
    simp only [Array.size_append, List.size_toArray, List.length_nil]
    omega
  unfold collect
  refine wpAny_bind (wpAny_runValue (codeAny_builtin entry_proto_collect' ?_))
  refine wpAny_bind (m := newList []) (wpAny_newList (wpAny_pure ⟨Code.quiet_builtin _ (by decide +kernel), codeAny_builtin entry_list_iadd' ?_⟩))
  show wpAny _ _ (Builtin.List.listExtendWith (.ref s.heap.objs.size) (.ref t) (.ref s.heap.objs.size)) _ _ _
  unfold Builtin.List.listExtendWith
  refine wpAny_bind (wpAny_typeOf (T := "tuple") ⟨o, hp, hc⟩ ?_)
  rw [if_pos (by rw [show (Value.type "tuple" == Value.type "tuple") = true by rfl, Bool.or_true])]
  refine wpAny_bind (listItems_at hp hd ?_)
  refine wpAny_bind (listItems_at hn rfl ?_)
  rw [if_neg (by simp)]
  refine wpAny_bind (listUpdate_at hn rfl ?_ (Nat.zero_le _) hlen)
  refine wpAny_pure ?_
  refine wpAny_bind (m := load s.heap.objs.size) (wpAny_load (get?_update_seq hn _) ?_)
  refine wpAny_pure ?_
  rw [show ((#[] : Array Value) ++ vs.toArray).toList = vs by simp]
  exact h
theorem sorted_tupO {t : Addr} {vs : List Value} {o : Obj} {n : Nat} {ltv : Value → Value → Bool} {Q : Value → Shared → Prop} (O : SrtO.Swo ltv) (ho : s.heap.get? t = some o) (hc : o.cls = .type "tuple") (hd : o.data = .seq vs.toArray n) (hz : vs.length ≤ sizeLine)
    (hS : 2 ≤ vs.length → ∀ (h1 : Heap) (a : Addr), h1.get? a = some (seqObj "list" vs.toArray 0) → (∀ b o, s.heap.get? b = some o → b ≠ a ∧ h1.get? b = some o) → SrtO.SortableO prog w A.in1.in1 { s with heap := h1 } a vs ltv)
    (h : ∀ out : List Value, SrtO.Srtd ltv out → SrtO.Stb ltv out vs → Q (.ref (s.heap.objs.size + 1)) { s with heap := sortedAll s.heap vs out.toArray }) :
    wpAny (model prog w) A (call (.builtin "sorted") [.ref t]) Q E s := by
  have z1 : ((s.heap.push (seqObj "list" #[] 0)).update s.heap.objs.size (Obj.mapSeq (· ++ vs.toArray))).objs.size = s.heap.objs.size + 1 := by
    rw [Heap.size_update, size_push']
  have new : (((s.heap.push (seqObj "list" #[] 0)).update s.heap.objs.size (Obj.mapSeq (· ++ vs.toArray))).push (seqObj "list" vs.toArray 0)).get? (s.heap.objs.size + 1) = some (seqObj "list" vs.toArray 0) :=
    z1 ▸ Heap.get?_push_size _ rfl
  have old : ∀ b o, s.heap.get? b = some o → b ≠ s.heap.objs.size + 1 ∧ (((s.heap.push (seqObj "list" #[] 0)).update s.heap.objs.size (Obj.mapSeq (· ++ vs.toArray))).push (seqObj "list" vs.toArray 0)).get? b = some o := fun b o e => by
    have lt := Heap.lt_size e
    exact ⟨Nat.ne_of_lt (Nat.lt_succ_of_lt lt), Heap.get?_push_of_some _ ((Heap.get?_update_ne _ _ _ _ (Nat.ne_of_lt lt)).trans (Heap.get?_push_of_some _ e))⟩
  refine Calls.call_function_entry kind_sorted plain_sorted entry_sorted (args_sorted1 _) ?_
  unfold Builtin.«sorted»
  refine wpAny_bind (m := checkCount "sorted" 1 1 _) (wpAny_pure (wpAny_bind (collect_tupL ho hc hd hz ?_)))
  refine wpAny_bind (wpAny_newList ?_ hz)
  show wpAny _ _ _ _ _ { s with heap := ((s.heap.push (seqObj "list" #[] 0)).update s.heap.objs.size (Obj.mapSeq (· ++ vs.toArray))).push (seqObj "list" vs.toArray 0) }
  rw [z1]
  exact wpAny_bind (wpAny_holding (wpAny_call_entry slot_list_sort ⟨_, new, rfl⟩ entry_list_sort (SrtO.list_sort_ord O new hz (fun h2 => hS h2 _ _ new old) fun out hs hb => ⟨_, rfl, wpAny_pure ⟨_, rfl, h out hs hb⟩⟩) (args_list_sort _)))
end

/-! ### as a rule: ints; texts; pairs of ints -/
def lexI (p q : Int × Int) : Prop := p.1 < q.1 ∨ (p.1 = q.1 ∧ p.2 ≤ q.2)
def iiD (p : Int × Int) : D := .tup [.int p.1, .int p.2]
section
variable {X : Cx}
/-- sorted(xs) of a list or a tuple, by an order of its values -/
def rSrt (X : Cx) : List V → Hp → VK → Prop := fun vs H Q => ∃ (a : Addr) (xs : List V), vs = [V.ref a] ∧ (SqL X.K H a xs ∨ SqT X.K H a xs) ∧
  ((∃ ns, xs = ns.map V.int ∧ ∀ (ns' : List Int) (p : Addr), ns'.Perm ns → ns'.Pairwise (· ≤ ·) → H p = none → Q (.ref p) (upd H p (.lst (ns'.map V.int)))) ∨
   (∃ k : V → Int × Int, (∀ x ∈ xs, ∃ t, x = V.ref t ∧ H t = some (.tup [.int (k x).1, .int (k x).2])) ∧ ∀ ys p, SrtO.Srtd (ltP k) ys → SrtO.Stb (ltP k) ys xs → H p = none → Q (.ref p) (upd H p (.lst ys))))
theorem cr_sortedT2 : CallR X (.builtin "sorted") (rSrt X) := by
  intro pins s σ H vs us Q I r h
  obtain ⟨a, xs, rfl, hs, h⟩ := h
  rcases h with ⟨ns, rfl, q⟩ | ⟨k, hx, q⟩
  · rcases hs with hs | hs
    · exact cr_sortedI pins s σ H _ us Q I r ⟨a, ns, rfl, hs, q⟩
    · obtain ⟨its, rv, hl, hz⟩ := I.tuple hs
      rw [Vals.ref1 r]
      obtain ⟨o, ho, hc, n, hd⟩ := hl
      have hi := rv.ints
      refine sorted_tupO SrtO.swo_int ho hc hd (by rw [← rv.length]; exact hz) (fun h2 h1 a' _ _ => SrtO.ints_sortable hi h2) fun out h1 h2 => ?_
      obtain ⟨k1, k2, k3⟩ := SrtO.ints_out hi h1 h2
      obtain ⟨ep, he'⟩ := PyProof.Rows.sortedAll_at s.heap its out.toArray
      have hlen : ((out.map SrtO.iv).map V.int).length ≤ sizeLine := by
        rw [List.length_map, k2.length_eq]
        simpa using hz
      refine ⟨.ref _, upd H (s.heap.objs.size + 1) (.lst ((out.map SrtO.iv).map V.int)), I.laid (t' := s.toks) (fun _ _ => PyProof.Rows.sortedAll_old) (Nat.le_succ _) ⟨hlen, out, ep, vals_of_ints k1, he'⟩, rfl, ?_⟩
      exact q _ _ k2 k3 (I.hok.fresh (Nat.le_succ _))
  · rcases hs with hs | hs
    · exact cr_sortedPO pins s σ H _ us Q I r ⟨a, xs, k, rfl, hs, hx, q⟩
    · obtain ⟨its, rv, hl, hz⟩ := I.tuple hs
      rw [Vals.ref1 r]
      obtain ⟨o, ho, hc, n, hd⟩ := hl
      obtain ⟨e1, e2⟩ := refs_back rv fun x m => let ⟨t, e, _⟩ := hx x m; ⟨t, e⟩
      have hp : ∀ v ∈ its, Srt.IsPair s.heap v (k (backV v)).1 (k (backV v)).2 := fun v hv => by
        obtain ⟨t, rfl⟩ := e2 v hv
        have hm : V.ref t ∈ xs := by rw [e1]; exact List.mem_map.mpr ⟨_, hv, rfl⟩
        obtain ⟨t', e, ht⟩ := hx _ hm
        cases e
        obtain ⟨_, its2, r2, o2, ho2, hc2, n2, hd2⟩ := I.hok _ _ ht
        obtain ⟨u1, u2, rfl, ⟨t1, rfl⟩, t2, rfl⟩ := vals2 r2
        exact ⟨t, o2, t1, t2, n2, rfl, ho2, hc2, hd2⟩
      have hts : 2 ≤ its.length → ∀ (h1 : Heap) (a : Addr), h1.get? a = some (seqObj "list" its.toArray 0) → (∀ b o, s.heap.get? b = some o → b ≠ a ∧ h1.get? b = some o) → SrtO.SortableO X.prog X.w X.A.in1.in1 { s with heap := h1 } a its fun v u => SrtO.lexB (k (backV v)) (k (backV u)) := fun h2 h1 a ha kk => by
        refine SrtO.pairs_sortableO (k := fun u => k (backV u)) (s := { s with heap := h1 }) (by omega) (fun v hm => (hp v hm).keeps fun b o e _ => (kk b o e).2) fun o e c => ?_
        have e2 : o = seqObj "list" its.toArray 0 := Option.some.inj ((show h1.get? a = some o from e).symm.trans ha)
        rw [e2] at c
        exact absurd (Value.type.inj c) (by decide)
      refine sorted_tupO (SrtO.swo_lex fun u => k (backV u)) ho hc hd (by rw [← rv.length]; exact hz) hts fun out h1 h2 => ?_
      obtain ⟨ep, he'⟩ := PyProof.Rows.sortedAll_at s.heap its out.toArray
      have h3 : ∀ u ∈ out, ∃ a, u = Value.ref a := fun u hu => e2 u (h2.perm.mem_iff.mp hu)
      have hb : SrtO.Stb (ltP k) (out.map backV) xs := by
        rw [e1]
        exact SrtO.Stb.map (ltP_swo k) backV h2
      refine ⟨.ref _, upd H (s.heap.objs.size + 1) (.lst (out.map backV)), I.laid (t' := s.toks) (fun _ _ => PyProof.Rows.sortedAll_old) (Nat.le_succ _) ⟨by rw [hb.len]; exact hz, out, ep, vals_back h3, he'⟩, rfl, ?_⟩
      exact q _ _ (SrtO.srtd_map h1) hb (I.hok.fresh (Nat.le_succ _))
end

def sortedR : C3 := fun ds G Q => match ds with
  | [d] => (∃ ns : List Int, seqD G d = some (ns.map .int) ∧ ∀ ns' : List Int, ns'.Perm ns → ns'.Pairwise (· ≤ ·) → Q (.lst (ns'.map .int)) G) ∨
    ∃ ps : List (Int × Int), seqD G d = some (ps.map iiD) ∧ ∀ ps' : List (Int × Int), ps'.Perm ps → ps'.Pairwise lexI → Q (.lst (ps'.map iiD)) G
  | _ => False
section
variable {X : Cx} {Γ : Gm}
theorem datL_pairI {K : PySem.W.Frag} {H : Hp} {G : Gp} : ∀ {ps : List (Int × Int)} {vs : List V}, DatL K Γ H G (ps.map iiD) vs → ∀ x ∈ vs, ∃ t p, x = V.ref t ∧ H t = some (.tup [.int p.1, .int p.2]) ∧ p ∈ ps
  | [], _, h, x, hx => by cases (show _ = _ from h); cases hx
  | p :: ps, _, h, x, hx => by
    obtain ⟨v, r, rfl, h1, h2⟩ := h
    rcases List.mem_cons.mp hx with rfl | hx
    · obtain ⟨t, us, rfl, ht, l⟩ := h1
      obtain ⟨u1, u2, rfl, d1, d2⟩ := datL_two l
      rw [show u1 = _ from d1, show u2 = _ from d2] at ht
      exact ⟨t, p, rfl, ht, List.mem_cons_self ..⟩
    · obtain ⟨t, q, e, ht, hq⟩ := datL_pairI h2 x hx
      exact ⟨t, q, e, ht, List.mem_cons_of_mem _ hq⟩
/-- the ints of the pair at x -/
def pairAt (H : Hp) : V → Int × Int
  | .ref t => match H t with | some (.tup [.int i, .int j]) => (i, j) | _ => (0, 0)
  | _ => (0, 0)
theorem datL_pairK {K : PySem.W.Frag} {H : Hp} {G : Gp} : ∀ {ps : List (Int × Int)} {vs : List V}, DatL K Γ H G (ps.map iiD) vs → vs.map (pairAt H) = ps
  | [], _, h => by cases (show _ = _ from h); rfl
  | p :: ps, _, h => by
    obtain ⟨v, r, rfl, h1, h2⟩ := h
    rw [List.map_cons, datL_pairK h2]
    obtain ⟨t, us, rfl, ht, l⟩ := h1
    obtain ⟨u1, u2, rfl, d1, d2⟩ := datL_two l
    rw [show u1 = _ from d1, show u2 = _ from d2] at ht
    show (match H t with | some (.tup [.int i, .int j]) => (i, j) | _ => (0, 0)) :: ps = _
    rw [ht]
theorem datL_pairB {K : PySem.W.Frag} {H : Hp} {G : Gp} : ∀ {ys : List V}, (∀ x ∈ ys, ∃ t, x = V.ref t ∧ H t = some (.tup [.int (pairAt H x).1, .int (pairAt H x).2])) → DatL K Γ H G ((ys.map (pairAt H)).map iiD) ys
  | [], _ => rfl
  | y :: ys, h => by
    obtain ⟨t, e, ht⟩ := h y (List.mem_cons_self ..)
    exact ⟨y, ys, rfl, ⟨t, _, e, ht, .cons rfl (.cons rfl .nil)⟩, datL_pairB fun x hx => h x (List.mem_cons_of_mem _ hx)⟩
theorem sound_sorted : SoundN X.K Γ (rSrt X) sortedR := by
  intro xs vs H G Q3 Q R hl h k
  unfold sortedR at h
  split at h
  · obtain ⟨v, rfl, h1⟩ := datL_one hl
    rcases h with ⟨ns, e, q⟩ | ⟨ps, e, q⟩
    · obtain ⟨p, us, rfl, hs, l⟩ := seqD_at R e h1
      have eu := DatL.ints l
      subst eu
      exact ⟨p, _, rfl, hs.imp (·.2) (·.2), .inl ⟨ns, rfl, fun ns' p' h2 h3 hp => new_lst R hp DatL.of_ints k (q ns' h2 h3)⟩⟩
    · obtain ⟨p, us, rfl, hs, l⟩ := seqD_at R e h1
      have key : ∀ x ∈ us, ∃ t, x = V.ref t ∧ H t = some (.tup [.int (pairAt H x).1, .int (pairAt H x).2]) := fun x hx => by
        obtain ⟨t, p, rfl, ht, _⟩ := datL_pairI l x hx
        refine ⟨t, rfl, ?_⟩
        have : pairAt H (.ref t) = p := by
          show (match H t with | some (.tup [.int i, .int j]) => (i, j) | _ => (0, 0)) = _
          rw [ht]
        rw [this]
        exact ht
      refine ⟨p, us, rfl, hs.imp (·.2) (·.2), .inr ⟨pairAt H, key, fun ys p' h2 h3 hp => new_lst R hp (datL_pairB fun x hx => key x (h3.perm.mem_iff.mp hx)) k (q _ ?_ ?_)⟩⟩
      · have := h3.perm.map (pairAt H)
        rw [datL_pairK l] at this
        exact this
      · refine List.pairwise_map.mpr (h2.imp fun {x y} h => ?_)
        have := SrtO.lexB_no.mp h
        unfold lexI
        omega
  · exact h.elim
end
end L3
/-! L3, part l: lambdas. -/
namespace L3
open PySem PySem.Spec PyProof.Rows L2
open LamX (CodeO Tabs TabB ExtN LamS lamCx lamEnv)

theorem GOk.at {K : PySem.W.Frag} {Γ : Gm} {H : Hp} {G : Gp} {a : Addr} : ∀ {g : GO}, GOk K Γ H G a g → ∃ o, H a = some o ∧ NoTbl o
  | .lst _, ⟨_, e, _⟩ => ⟨_, e, noTbl_lst⟩
  | .dK _, ⟨_, e, _⟩ => ⟨_, e, noTbl_dK⟩
  | .dT _, ⟨_, e, _⟩ => ⟨_, e, noTbl_dT⟩
  | .ins _ _, ⟨_, _, e, _⟩ => ⟨_, e, noTbl_ins⟩
  | .lkK _, ⟨_, _, e, _⟩ => ⟨_, e, noTbl_frz⟩
  | .lkT _, ⟨_, _, e, _⟩ => ⟨_, e, noTbl_frz⟩
  | .lkL _, ⟨_, _, e, _⟩ => ⟨_, e, noTbl_frz⟩
  | .hid, ⟨o, e, n, _⟩ => ⟨o, e, n⟩
theorem noTbl_ext {φ : Heap → Prop} : NoTbl (.ext φ) := fun _ z => nomatch z
theorem noTbl_code {c : Addr} {q : Str} : NoTbl (CodeO c q) := fun _ z => by unfold CodeO at z; cases z
section
variable {K : PySem.W.Frag} {Γ : Gm} {H H1 : Hp} {G : Gp}
theorem Step.ext (R : HpR K Γ H G) (e : ExtN H H1) : Step K H G H1 G where
  tup := fun b xs h => e b _ h noTbl_tup
  frm := fun a o h _ n => e a o h n
  hid := fun a h => h
  own := fun a o h n nt => ⟨n, o, e a o h nt⟩
  lck := fun a g h l => ⟨h, fun o q => by
    obtain ⟨o', q', n⟩ := (R.own a g h).at
    rw [q] at q'
    cases q'
    exact e a o q n⟩
  frh := fun a o h _ n => e a o h n
theorem HpR.ext (R : HpR K Γ H G) (e : ExtN H H1) (t : Tabs Γ.T H1) : HpR K Γ H1 G where
  own := fun a g h => (R.own a g h).mono (Step.ext R e) fun o q => by
    obtain ⟨o', q', n⟩ := (R.own a g h).at
    rw [q] at q'
    cases q'
    exact e a o q n
  tab := t
end

/-! ### told(lambda: ..): what it makes of the lambda -/
def TTold3 (K : PySem.W.Frag) (CS : Addr) (rt : Str) (t : TE3) : TE3 := fun δ G Q E => t δ G Q (fun cls G' => PySem.W.exmOne K cls (.ref CS) = some true ∧ Q (.str rt) G')
section
variable {X : Cx} {Γ : Gm} {W : WX}
theorem told_sound {CS : Addr} {rt : Str} {t : TE3} {σ : L2.St} {H : Hp} {Q : VK} (hw : lift X.K Γ W (TTold3 X.K CS rt t) σ H Q) {H1 : Hp} (e : ExtN H H1) (T1 : Tabs Γ.T H1) : LamX.TTold X.K CS rt (fun E H' Q' => lift X.K Γ (WE3 E) t σ H' Q') H1 Q := by
  obtain ⟨δ, G, Q3, E3, R, h, k, ke⟩ := hw
  have s1 := Step.ext R.hp e
  have hp1 := R.hp.ext e T1
  exact ⟨δ, G, _, _, R.mono s1 hp1, h, fun d v G' H' s' => k d v G' H' (s1.trans s'), fun cls G' H' s' hp' ⟨e1, q⟩ => ⟨true, e1, fun _ => k (.str rt) _ G' H' (s1.trans s') hp' rfl q, fun z => nomatch z⟩⟩
theorem pe3_told {x a : Str} {g c P CS : Addr} {k : Nat} {pg : Arguments} {bg : List Stmt} {sg : Scope} {dV kV doc pm cdv ct oc : Value} {an od : Option Addr} {osl : Array (Option Value)} {Ng : List Str} {params : Arguments} {body : Expr} {scope : Scope} {t : TE3} {p lpos pos : Pos} {rt : Str}
    (hg : Gl X x) (hm : X.mg x = some (.ref g)) (hk : PySem.W.keepIn X.K (.ref g) = true) (lk : X.K.lookup g = some ⟨oc, od, .func (PySem.W.fnOf x x pg bg sg dV kV doc pm an cdv ct), osl⟩) (hcg : PySem.W.codeIn X.K cdv x = true)
    (hb : L2.Binds X.K (PySem.W.fnOf x x pg bg sg dV kV doc pm an cdv ct) [a] []) (Sg : FnScope Ng [a] sg) (hNg : Ng[0]? = some a) (hva : Vis sg a) (hG : LamX.GivesTo X Ng x sg g cdv bg a (X.env.qual ++ "<lambda>") (LamX.TTold X.K CS rt))
    (TB : TabB X.base X.mg c P) (hcode : X.env.code = .ref c) (hmT : (P, X.env.qual ++ "<lambda>") ∈ Γ.T) (hu : ∀ p ∈ Γ.T, p.1 = P → p.2 = X.env.qual ++ "<lambda>") (hr : Room (k + 2) X.A) (L : LamS X.env.scope scope) (hdef : defaultsOf params X.env = ([], []))
    (hbind : ∀ (q : Str) (cl : List (Str × Addr)) (pm cv ctv : Value), bindArgs (PySem.W.kla_fn "<lambda>" q params body scope cl pm cv ctv) ⟨[], []⟩ = pure [])
    (hbody : ∀ (A : Around) (outer : List Env) (s : Shared) (H : Hp) (E : XK) (f c' : Addr), Room k (A.deeper (lamEnv X scope s.heap.objs.size f c')) → PE3 (lamCx X A outer s H E scope f c') Γ (WE3 E) body t)
    (hdb : (x == ("__debug__" : Str)) = false := by decide) (hd : (a == ("__debug__" : Str)) = false := by decide) (hcd : (a == ("__classdict__" : Str)) = false := by decide) :
    PE3 X Γ W (.Call (.Name x p) [.Lambda params body scope lpos] [] pos) (TTold3 X.K CS rt t) :=
  pe_imp (LamX.pe_lamcall hg hm hk lk hcg hb Sg hNg hva hG TB hcode hmT hu hr L hdef hbind hbody hdb hd hcd) fun σ H Q hw => by
    have hw2 := hw
    obtain ⟨δ, G, Q3, E3, R, _⟩ := hw2
    exact ⟨R.hp.tab, fun H1 e T1 => told_sound hw e T1⟩
end

/-! ### lambdas that capture nothing, as values -/
/-- the function object of such a lambda -/
def LamO (q : Str) (params : Arguments) (body : Expr) (scope : Scope) (f c : Addr) : HO := .ext fun h => ∃ pm ctv, h.get? f = some (PySem.W.kla_obj "<lambda>" q params body scope [] pm c ctv)
section
variable {X : Cx} {pins : List (Addr × Obj)} {σ : L2.St} {H : Hp} {s : Shared}
theorem lamO_ok {P : Program} {w : World} {q : Str} {params : Arguments} {body : Expr} {scope : Scope} {f c : Addr} {pm ctv : Value} {H : Hp} {h : Heap} (e : h.get? f = some (PySem.W.kla_obj "<lambda>" q params body scope [] pm c ctv)) : ObjOk P w H h f (LamO q params body scope f c) :=
  ⟨⟨pm, ctv, e⟩, ⟨_, e⟩, fun _ _ ⟨pm, ctv, e⟩ st => ⟨pm, ctv, st _ e⟩⟩
/-- the lambda is made and tracked -/
theorem lam_new {T : List (Addr × Str)} {c P : Addr} {params : Arguments} {body : Expr} {scope : Scope} {pos : Pos} {q : Str} {E : Value → Shared → Prop} {Q : Value → Shared → Prop} (I : Inv X pins σ H s) (TB : TabB X.base X.mg c P) (hcode : X.env.code = .ref c)
    (hq : X.env.qual ++ "<lambda>" = q) (hm : (P, q) ∈ T) (hu : ∀ p ∈ T, p.1 = P → p.2 = q) (hT : Tabs T H) (hdef : defaultsOf params X.env = ([], [])) (hfree : ∀ y ∈ scope.names, y.2 ≠ .free) (hcl : ∀ cells, cloFrom cells scope.names [] = [])
    (h : ∀ (f c' : Addr) (H1 : Hp) (s' : Shared), ExtN H H1 → Tabs T H1 → H1 f = none → H1 c' = some (CodeO c' q) → Inv X pins σ (upd H1 f (LamO q params body scope f c')) s' → Q (.ref f) s') :
    wpAny (model X.prog X.w) X.A (eval (.Lambda params body scope pos) X.env) Q E s := by
  subst hq
  have none_free : ∀ y ∈ scope.names, y.2 = .free → ∃ c, X.env.cells.lookup y.1 = some c := fun y hy e => absurd e (hfree y hy)
  have hclo := closure_ok (env := X.env) none_free
  rw [hcl] at hclo
  obtain ⟨ps, tP, tri, told⟩ := hT _ hm
  have bP := TB.bm.keeps I.bk
  have oP : s.heap.get? P = some { cls := .none, data := .fields ps } := I.hok P _ tP
  have glob := I.mod.glob.keeps I.bk
  have cod := TB.code.keeps I.bk
  refine PySem.W.kla_eval hdef ?_
  cases hc : codeAmong pos ps.toList with
  | some cv =>
    obtain ⟨c', rfl, hco⟩ := told pos cv hc
    refine PySem.W.kla_makeFunctionHit (mg := X.mg) hclo I.ok.glob glob hcode cod oP tri hc bP fun ctv h' tk keep size => ?_
    have I0 : Inv X pins σ H { s with heap := h', toks := tk } := I.kept keep
    exact h _ c' H _ (ExtN.refl H) hT (I.hok.fresh size) hco (I0.laid (t' := tk) (fun b u e => Heap.get?_push_of_some _ e) (Nat.le_refl _) (lamO_ok (Heap.get?_push_size _ rfl)))
  | none =>
    refine PySem.W.kla_makeFunction (mg := X.mg) hclo I.ok.glob glob hcode cod oP tri hc TB.gP bP fun c' ctv h' tk keep ge lt rec tab => ?_
    obtain ⟨c2, oc, vs, t, e2, o2, d2, v2⟩ := rec
    cases e2
    have nC : H c' = none := I.hok.fresh ge
    have size : s.heap.objs.size ≤ h'.objs.size := Nat.le_trans ge (Nat.le_of_lt lt)
    have nPc : P ≠ c' := ne_of_none tP nC
    have I0 := LamX.inv_table (t' := tk) (q := X.env.qual ++ "<lambda>") (more := #[rawInt pos.line, rawInt pos.col, .ref c']) I tP keep tab ge ⟨oc, vs, t, o2, d2, v2⟩
    have list : (ps ++ #[rawInt pos.line, rawInt pos.col, .ref c']).toList = ps.toList ++ [rawInt pos.line, rawInt pos.col, .ref c'] := by simp
    have eN : ExtN H (upd (upd H P (.tbl (ps ++ #[rawInt pos.line, rawInt pos.col, .ref c']))) c' (CodeO c' (X.env.qual ++ "<lambda>"))) := fun b o e n => by
      have b1 : b ≠ c' := ne_of_none e nC
      have b2 : b ≠ P := fun z => by
        subst z
        rw [tP] at e
        exact n ps (Option.some.inj e).symm
      rw [upd_ne b1, upd_ne b2]
      exact e
    have T1 : Tabs T (upd (upd H P (.tbl (ps ++ #[rawInt pos.line, rawInt pos.col, .ref c']))) c' (CodeO c' (X.env.qual ++ "<lambda>"))) := fun p hp => by
      by_cases hb : p.1 = P
      · rw [hu p hp hb, hb]
        refine ⟨_, (upd_ne nPc).trans upd_same, list ▸ PySem.TriplesOk_snoc _ _ _ _ tri, fun p' cv hcv => ?_⟩
        rw [list] at hcv
        rcases LamX.among_app _ tri hcv with z | z
        · obtain ⟨c0, r1, r2⟩ := told p' cv z
          exact ⟨c0, r1, eN _ _ r2 LamX.codeO_ne⟩
        · exact ⟨c', z, upd_same⟩
      · obtain ⟨qs, r1, r2, r3⟩ := hT p hp
        refine ⟨qs, (upd_ne (ne_of_none r1 nC)).trans ((upd_ne hb).trans r1), r2, fun p' cv hcv => ?_⟩
        obtain ⟨c0, r4, r5⟩ := r3 p' cv hcv
        exact ⟨c0, r4, eN _ _ r5 LamX.codeO_ne⟩
    have nf : upd (upd H P (.tbl (ps ++ #[rawInt pos.line, rawInt pos.col, .ref c']))) c' (CodeO c' (X.env.qual ++ "<lambda>")) h'.objs.size = none := I0.hok.fresh (Nat.le_refl _)
    exact h _ c' _ _ eN T1 nf upd_same (I0.laid (t' := tk) (fun b u e => Heap.get?_push_of_some _ e) (Nat.le_refl _) (lamO_ok (Heap.get?_push_size _ rfl)))
end
/-- nothing of its own, nothing captured -/
structure ClosedS (scope : Scope) : Prop where
  kind : scope.kind = .function
  co : scope.isCoroutine = false
  gen : scope.isGenerator = false
  glob : ∀ y ∈ scope.names, y.2 ≠ .local ∧ y.2 ≠ .cell ∧ y.2 ≠ .free
  clo : ∀ cells, cloFrom cells scope.names [] = []
abbrev lamEnv0 (q : Str) (scope : Scope) (L f c' : Addr) : Env := PySem.W.envX q scope L f (.ref c') []
/-- the context of its body -/
def lamCx0 (X : Cx) (A : Around) (outer : List Env) (s : Shared) (H : Hp) (E : XK) (q : Str) (scope : Scope) (f c' : Addr) : Cx :=
  { prog := X.prog, w := X.w, K := X.K, mg := X.mg, base := X.base, A := A.deeper (lamEnv0 q scope s.heap.objs.size f c'), N := [], s_0 := s, H_0 := H, env := lamEnv0 q scope s.heap.objs.size f c', outer := outer, stack := lamEnv0 q scope s.heap.objs.size f c' :: outer, ex := [], fn := fun _ => false, calm := true, pn := [],
    xe := fun e s' => wpAny (model X.prog X.w) (A.deeper (lamEnv0 q scope s.heap.objs.size f c')) (leaving (lamEnv0 q scope s.heap.objs.size f c') e) (fun _ s'' => L2.CX X.prog X.w outer H s E e s'') (fun e' s'' => L2.CX X.prog X.w outer H s E e' s'') s' }
section
variable {X : Cx}
theorem lam_start0 {A : Around} {outer : List Env} {E : XK} {q : Str} {scope : Scope} {f c' : Addr} {h1 : Heap} {tk : Nat} {s1 : Shared} {HZ : Hp} (L : ClosedS scope) (e0 : Env0 X.prog X.w X.K X.mg X.base A outer s1 HZ) (hd : A.handled = none)
    (hns : h1.Ns s1.heap.objs.size fun y => ([] : List (Str × Value)).reverse.lookup y) (kp : ∀ b o, s1.heap.get? b = some o → h1.get? b = some o) : Inv (lamCx0 X A outer s1 HZ E q scope f c') [] [] HZ { s1 with heap := h1, toks := tk } := by
  have no : ∀ b : Addr, b ∉ (lamCx0 X A outer s1 HZ E q scope f c').ex := fun b z => nomatch (show b ∈ ([] : List Addr) from z)
  have noC : ∀ {y c}, (lamCx0 X A outer s1 HZ E q scope f c').env.cells.lookup y = some c → False := fun e => nomatch (show ([] : List (Str × Addr)).lookup _ = some _ from e)
  refine ⟨⟨e0.mod, L.kind, rfl, rfl, Nat.le_refl _, fun y z c e1 _ => (noC e1).elim, fun y hy => ?_, fun y c z _ => (nomatch (show false = true from z)), fun _ => hd, Around.frames_deeper e0.frames, .inr ⟨rfl, rfl⟩, fun b z => absurd z (no b), e0.bs, e0.bsz, fun b _ _ => no b,
      fun b z => absurd z (no b), e0.funs, e0.frf⟩, rfl, e0.bare, Un.kept kp, ⟨_, hns, fun i y v e1 _ _ => by simp [lamCx0] at e1⟩, fun y c e => (noC e).elim, e0.hok.fresh (Nat.le_refl _), fun y c e => (noC e).elim, fun p hp => (nomatch (show p ∈ ([] : List (Addr × Obj)) from hp)), e0.hok.kept kp, rfl⟩
  have hy : scope.names.lookup y = some .cell ∨ scope.names.lookup y = some .free := hy
  rcases hy with hy | hy
  · exact absurd rfl (L.glob _ (PySem.mem_of_lookup hy)).2.1
  · exact absurd rfl (L.glob _ (PySem.mem_of_lookup hy)).2.2
theorem pe_act0 {CXg : CXT} {Eg : XK} {Ng : List Str} {qg : Str} {sg : Scope} {g f c' : Addr} {cdg : Value} {params : Arguments} {body : Expr} {scope : Scope} {q : Str} {k i : Nat} {a : Str} {pn : List (Addr × Obj)} {xe : Value → Shared → Prop} {W : WX} {E : XK} {tb : TE} {p1 p2 : Pos} {s : Shared} {H : Hp}
    (L : ClosedS scope) (hbind : ∀ (pm cv ctv : Value), bindArgs (PySem.W.kla_fn "<lambda>" q params body scope [] pm cv ctv) ⟨[], []⟩ = pure [])
    (tk : Takes ((cxOf CXg X.prog X.w X.K X.mg X.base Ng qg sg g cdg X.A X.stack s H Eg).tr pn xe) W) (hW : ∀ cls d σ' H', E cls d H' → W cls d σ' H') (hr : Room (k + 1) (X.A.deeper (envOfC qg sg s.heap.objs.size g cdg)))
    (hbody : ∀ (A : Around) (outer : List Env) (s : Shared) (H : Hp), Room k (A.deeper (lamEnv0 q scope s.heap.objs.size f c')) → PE (lamCx0 X A outer s H E q scope f c') body tb)
    (hN : Ng[i]? = some a) (hv : Vis sg a) (hd : (a == ("__debug__" : Str)) = false := by decide) (hcd : (a == ("__classdict__" : Str)) = false := by decide) :
    PE ((cxOf CXg X.prog X.w X.K X.mg X.base Ng qg sg g cdg X.A X.stack s H Eg).tr pn xe) (.Call (.Name a p1) [] [] p2)
      (fun σZ HZ Q => σZ[i]? = some (some (.ref f)) ∧ HZ c' = some (CodeO c' q) ∧ HZ f = some (LamO q params body scope f c') ∧ tb [] HZ Q) := by
  refine ⟨fun pins sZ σZ HZ Q IZ ⟨hs, hc, hf, ht⟩ => ?_⟩
  have var := (pe_var (pos := p1) (i := i) hN hv hd hcd).run pins sZ σZ HZ (fun v H1 => v = .ref f ∧ H1 = HZ) IZ ⟨.ref f, hs, rfl, rfl⟩
  refine wpAny_Call_Name_kw (thn var fun u s1 ⟨v, H1, I1, r1, ev, eH⟩ => ?_)
  subst ev
  subst eH
  obtain rfl : u = Value.ref f := r1
  obtain ⟨⟨pm, ctv, of1⟩, _, _⟩ := I1.hok f _ hf
  obtain ⟨⟨oc, vs, t, hoc, hdc, hvc⟩, _, _⟩ := I1.hok c' _ hc
  refine PySem.W.callWith_F0 ⟨_, _, _, _, of1⟩ ?_
  have run : codeAny (model X.prog X.w) (X.A.deeper (envOfC qg sg s.heap.objs.size g cdg)) (.call (.ref f) ⟨[], []⟩) (CR (L2.CX X.prog X.w) (envOfC qg sg s.heap.objs.size g cdg :: X.stack) X.prog X.w H1 s1 Q E) s1 := by
    refine PySem.W.kla_callFunE hr.depth of1 rfl L.co L.gen rfl ⟨c', oc, vs, t, rfl, hoc, hdc, hvc⟩ ?_
    rw [hbind]
    refine wpAny_pure (wpAny_newFunctionEnv (fun y hy => (L.glob y hy).2.1) (fun y hy => (nomatch (show y ∈ ([] : List (Str × Value)) from hy))) (fun h1 hns hsb => ⟨I1.nolimit.fresh _ hsb, ?_⟩) L.kind)
    have kp : ∀ b o, s1.heap.get? b = some o → h1.get? b = some o := fun b o e => hsb.extBut b o (Nat.ne_of_lt (Heap.lt_size e)) (Heap.get?_push_of_some _ e)
    have J : Inv (lamCx0 X (X.A.deeper (envOfC qg sg s.heap.objs.size g cdg)) (envOfC qg sg s.heap.objs.size g cdg :: X.stack) s1 H1 E q scope f c') [] [] H1 { s1 with heap := h1, toks := s1.toks + ([] : List (Str × Value)).length } :=
      lam_start0 L I1.env0 hr.hd hns kp
    refine PySem.W.kla_codeExpr (env := lamEnv0 q scope s1.heap.objs.size f c') (wpAny_mono ((hbody _ _ s1 H1 (hr.deeper _)).run [] _ _ H1 Q J ht) (fun v s' hq => ?_) fun e s' hq => hq)
    obtain ⟨w', H', J', rv, qq⟩ := hq
    exact ⟨w', H', J'.os, J'.bare, J'.base, J'.hok, rv, qq⟩
  refine wpAny_call (codeAny_mono run fun r s' hq => ?_)
  match r, hq with
  | .error e, hq => exact passes_call tk hW pins σZ H1 s1 e s' I1 hq
  | .ok (.ret u), hq => exact I1.after hq
  | .ok .next, hq => exact False.elim hq
  | .ok .brk, hq => exact False.elim hq
  | .ok .cont, hq => exact False.elim hq
end

/-! ### told(f), f such a lambda -/
/-- what is known of the i-th lambda -/
structure LamI where
  params : Arguments
  body : Expr
  scope : Scope
def Gm.is (Γ : Gm) (i : Nat) (l : LamI) : Prop := ∀ f c, Γ.clo i f c = LamO (Γ.cq i) l.params l.body l.scope f c
def TToldV (K : PySem.W.Frag) (CS : Addr) (rt : Str) (te : TE3) (ts : List TE3) : TE3 := fun δ G Q E => te δ G (fun d G1 => match d with
  | .clo i => (match ts[i]? with
    | some t => t [] G1 Q (fun cls G' => PySem.W.exmOne K cls (.ref CS) = some true ∧ Q (.str rt) G')
    | none => False)
  | _ => False) E
def TClo (i : Nat) : TE3 := fun _ G Q _ => Q (.clo i) G
section
variable {X : Cx} {Γ : Gm} {W : WX}
theorem pe3_clo {i : Nat} {l : LamI} {c P : Addr} {pos : Pos} (hi : Γ.is i l) (TB : TabB X.base X.mg c P) (hcode : X.env.code = .ref c) (hq : X.env.qual ++ "<lambda>" = Γ.cq i) (hm : (P, Γ.cq i) ∈ Γ.T) (hu : ∀ p ∈ Γ.T, p.1 = P → p.2 = Γ.cq i) (hdef : defaultsOf l.params X.env = ([], [])) (L : ClosedS l.scope) :
    PE3 X Γ W (.Lambda l.params l.body l.scope pos) (TClo i) := by
  refine ⟨fun pins s σ H Q I hw => ?_⟩
  obtain ⟨δ, G, Q3, E3, R, h, k, ke⟩ := hw
  refine lam_new I TB hcode hq hm hu R.hp.tab hdef (fun y hy => (L.glob y hy).2.2) L.clo fun f c' H1 s' e T1 nf hc I1 => ?_
  have s1 := Step.ext R.hp e
  have hp1 := R.hp.ext e T1
  have s2 : Step X.K H1 G (upd H1 f (LamO (Γ.cq i) l.params l.body l.scope f c')) G := Step.new nf
  have hp2 : HpR X.K Γ (upd H1 f (LamO (Γ.cq i) l.params l.body l.scope f c')) G := hp1.new nf
  have nc : G c' = none := by
    cases g : G c' with
    | none => rfl
    | some o =>
      exfalso
      have q := hp1.own c' o g
      cases o with
      | lst ds => obtain ⟨_, q, _⟩ := q; rw [hc] at q; exact nomatch (Option.some.inj q)
      | dK ds => obtain ⟨_, q, _⟩ := q; rw [hc] at q; exact nomatch (Option.some.inj q)
      | dT ds => obtain ⟨_, q, _⟩ := q; rw [hc] at q; exact nomatch (Option.some.inj q)
      | ins C ds => obtain ⟨_, _, q, _⟩ := q; rw [hc] at q; exact nomatch (Option.some.inj q)
      | lkK ds => obtain ⟨_, _, q, _⟩ := q; rw [hc] at q; exact nomatch (Option.some.inj q)
      | lkT ds => obtain ⟨_, _, q, _⟩ := q; rw [hc] at q; exact nomatch (Option.some.inj q)
      | lkL ds => obtain ⟨_, _, q, _⟩ := q; rw [hc] at q; exact nomatch (Option.some.inj q)
      | hid => obtain ⟨_, q, _, n⟩ := q; rw [hc] at q; cases q; exact n _ rfl
  refine ⟨.ref f, _, I1, rfl, k (.clo i) (.ref f) G _ (s1.trans s2) hp2 ⟨f, c', rfl, own_none hp1 nf, nc, ?_, ?_, ?_⟩ h⟩
  · rw [hi f c']
    exact upd_same
  · rw [upd_ne (ne_of_none hc nf)]
    exact hc
  · rw [hi f c']
    exact ⟨_, rfl⟩
theorem pe3_toldV {x a : Str} {g CS : Addr} {k : Nat} {pg : Arguments} {bg : List Stmt} {sg : Scope} {dV kV doc pm cdv ct oc : Value} {an od : Option Addr} {osl : Array (Option Value)} {Ng : List Str} {e : Expr} {te : TE3} {ts : List TE3} {p pos : Pos} {rt : Str}
    (hg : Gl X x) (hm : X.mg x = some (.ref g)) (hk : PySem.W.keepIn X.K (.ref g) = true) (lk : X.K.lookup g = some ⟨oc, od, .func (PySem.W.fnOf x x pg bg sg dV kV doc pm an cdv ct), osl⟩) (hcg : PySem.W.codeIn X.K cdv x = true)
    (hb : L2.Binds X.K (PySem.W.fnOf x x pg bg sg dV kV doc pm an cdv ct) [a] []) (Sg : FnScope Ng [a] sg) (hNg : Ng[0]? = some a) (hva : Vis sg a) (hG : ∀ q, LamX.GivesTo X Ng x sg g cdv bg a q (LamX.TTold X.K CS rt)) (hr : Room (k + 2) X.A) (he : PE3 X Γ W e te)
    (hts : ∀ i t, ts[i]? = some t → ∃ l : LamI, Γ.is i l ∧ ClosedS l.scope ∧ (∀ (pm cv ctv : Value), bindArgs (PySem.W.kla_fn "<lambda>" (Γ.cq i) l.params l.body l.scope [] pm cv ctv) ⟨[], []⟩ = pure []) ∧
      ∀ (A : Around) (outer : List Env) (s : Shared) (H : Hp) (E : XK) (f c' : Addr), Room k (A.deeper (lamEnv0 (Γ.cq i) l.scope s.heap.objs.size f c')) → PE3 (lamCx0 X A outer s H E (Γ.cq i) l.scope f c') Γ (WE3 E) l.body t)
    (hs : starEach [e] X.env = [(false, eval e X.env)] := by rfl) (hdb : (x == ("__debug__" : Str)) = false := by decide) (hd : (a == ("__debug__" : Str)) = false := by decide) (hcd : (a == ("__classdict__" : Str)) = false := by decide) :
    PE3 X Γ W (.Call (.Name x p) [e] [] pos) (TToldV X.K CS rt te ts) := by
  refine ⟨fun pins s σ H Q I hw => ?_⟩
  obtain ⟨δ, G, Q3, E3, R, h, k0, ke⟩ := hw
  refine wpAny_Call_Name_kw (ld_glob I hg hm ?_ hdb)
  refine PySem.W.callWith_K (h₀ := X.base) I.ok.mod.kin hk ?_ hs (by rfl)
  show wpAny _ _ (spliced (backTo pos (starEach [e] X.env))) _ _ s
  rw [hs]
  refine Calls.spliced_cons (thn (he.run pins s σ H (fun v H1 => ∃ G1 i f c', v = V.ref f ∧ HpR X.K Γ H1 G1 ∧ Step X.K H G H1 G1 ∧ H1 f = some (Γ.clo i f c') ∧ H1 c' = some (CodeO c' (Γ.cq i)) ∧
    ∃ t, ts[i]? = some t ∧ t [] (vis G1) Q3 (fun cls G' => PySem.W.exmOne X.K cls (.ref CS) = some true ∧ Q3 (.str rt) G')) I ⟨δ, G, _, E3, R, h, fun d v G1 H1 s1 hp1 dv q => ?_, ke⟩) fun u s1 ⟨v, H1, I1, rv, G1, i, f, c', ev, hp1, st1, hf, hc, t, ht, q⟩ => ?_)
  · split at q
    · split at q
      · rename_i ht
        obtain ⟨f, c', rfl, n1, n2, e1, e2, _⟩ := dv
        exact ⟨G1, _, f, c', rfl, hp1, s1, e1, e2, _, ht, q⟩
      · exact q.elim
    · exact q.elim
  subst ev
  obtain rfl : u = Value.ref f := rv
  refine Calls.spliced_nil ⟨I1.kIn, ?_⟩
  obtain ⟨l, is, L, hbind, hbody⟩ := hts i t ht
  rw [is] at hf
  have rc : codeAny (model X.prog X.w) X.A (.call (.ref g) ⟨[.ref f], []⟩) (CR C8.CX0 X.stack X.prog X.w H1 s1 Q C8.E0) s1 := by
    refine LamX.run_ofS (N := Ng) (ps := [a]) (us := [.ref f]) (vs := [.ref f]) lk hcg Sg hr I1.env0 (hb s1 [.ref f] I1.kIn rfl) (.cons rfl .nil) rfl fun hr' => ?_
    obtain ⟨t', ht', hq'⟩ := hG (Γ.cq i) f c' s1 H1 Q (fun E H' Q' => H' f = some (LamO (Γ.cq i) l.params l.body l.scope f c') ∧ lift X.K Γ (WE3 E) t [] H' Q')
      (fun W' pn xe E p1 p2 tk hW => pe_imp (pe_act0 (i := 0) L hbind tk hW hr' (fun A outer s H hr2 => hbody A outer s H E f c' hr2) hNg hva hd hcd) fun σZ HZ Q' ⟨z1, z2, z3, z4⟩ => ⟨z1, z2, z3, z4⟩) hc
      ⟨hf, [], G1, Q3, _, ⟨rfl, fun i d e => by simp at e, hp1⟩, q, fun d v G' H' s' => k0 d v G' H' (st1.trans s'), fun cls G' H' s' hp' ⟨e1, q⟩ => ⟨true, e1, fun _ => k0 (.str rt) _ G' H' (st1.trans s') hp' rfl q, fun z => nomatch z⟩⟩
    exact ⟨t', ht'.nox, hq'⟩
  refine wpAny_call (codeAny_mono rc fun r s2 hq => ?_)
  match r, hq with
  | .error e, hq => exact (show False from hq).elim
  | .ok (.ret u), hq => exact I1.after hq
  | .ok .next, hq => exact False.elim hq
  | .ok .brk, hq => exact False.elim hq
  | .ok .cont, hq => exact False.elim hq
end
end L3
/-! L3, part m: in of any sequence, op=; what helps the plain proofs. -/
namespace L3
open PySem PySem.Spec PyProof.Rows L2

theorem hu65 {k : Nat} {A : Around} (r : Room k A) : A.units + 65 < cLine := by have := r.un; omega
theorem hu64 {k : Nat} {A : Around} (r : Room k A) : A.units + 64 < cLine := by have := r.un; omega
theorem hu1 {k : Nat} {A : Around} (r : Room k A) : A.units + 1 < cLine := by have := r.un; omega

/-! ### in, not in -/
section
variable {K : PySem.W.Frag} {Γ : Gm} {H : Hp} {G : Gp}
theorem datL_dp {n : Nat} : ∀ {ds : List D} {us : List V}, ds.all (gd n) = true → DatL K Γ H G ds us → DpAll K H us (pyL ds)
  | [], _, _, z => by cases (show _ = _ from z); exact .nil
  | d :: ds, _, g, z => by
    obtain ⟨v, r, rfl, z1, z2⟩ := z
    rw [List.all_cons, Bool.and_eq_true] at g
    exact .cons (dat_dp n d v g.1 z1) (datL_dp g.2 z2)
theorem gd_list {n : Nat} {ds : List D} (g : ds.all (gd n) = true) (hn : n + 1 ≤ 64) : SeqAt.shaped (.list (pyL ds)) = true := gd_shaped (n := n + 1) (d := .lst ds) (by simpa [gd] using g) hn
theorem gd_tuple {n : Nat} {ds : List D} (g : ds.all (gd n) = true) (hn : n + 1 ≤ 64) : SeqAt.shaped (.tuple (pyL ds)) = true := gd_shaped (n := n + 1) (d := .tup ds) (by simpa [gd] using g) hn
end
def rInT (K : PySem.W.Frag) (neg : Bool) : R2 := fun x y H Q => ∃ d ds, Dp K H x d ∧ Dp K H y (.tuple ds) ∧ SeqAt.shaped d = true ∧ SeqAt.shaped (.tuple ds) = true ∧ Q (.bl (if neg then !ds.any fun z => PyData.eqv z d else ds.any fun z => PyData.eqv z d)) H
def inR2 (neg : Bool) : R3 := fun x y G Q => inR neg x y G Q ∨ ∃ ds, seqD G y = some ds ∧ gd 60 x = true ∧ ds.all (gd 59) = true ∧ y ≠ .nod .tuK ds ∧ Q (.bl (if neg then !inB x ds else inB x ds)) G
section
variable {X : Cx} {Γ : Gm}
theorem op_inT (hu : X.A.units + 65 < cLine) : OpR X (compareOp .In) (rInT X.K false) := by
  intro pins s σ H x y v u Q I rx ry ⟨d, ds, hd, he, sd, se, q⟩
  obtain ⟨as, r1⟩ := Dp.reads I d x v hd rx
  obtain ⟨bs, r2⟩ := Dp.reads I (.tuple ds) y u he ry
  exact SeqAt.in_tuple_reads r2 r1 (SeqAt.canLay_of_shaped se) (SeqAt.canLay_of_shaped sd) (room_in_shaped sd hu) ⟨.bl _, H, I, rfl, q⟩
theorem op_notInT (hu : X.A.units + 65 < cLine) : OpR X (compareOp .NotIn) (rInT X.K true) := by
  intro pins s σ H x y v u Q I rx ry ⟨d, ds, hd, he, sd, se, q⟩
  obtain ⟨as, r1⟩ := Dp.reads I d x v hd rx
  obtain ⟨bs, r2⟩ := Dp.reads I (.tuple ds) y u he ry
  exact SeqAt.notIn_tuple_reads r2 r1 (SeqAt.canLay_of_shaped se) (SeqAt.canLay_of_shaped sd) (room_in_shaped sd hu) ⟨.bl _, H, I, rfl, q⟩
theorem pyL_any {x : D} : ∀ ds : List D, (pyL ds).any (fun z => PyData.eqv z (py x)) = inB x ds := fun ds => by
  rw [pyL_map]
  unfold inB eq3
  rw [List.any_map] <;> rfl
theorem in2_sound {neg : Bool} {x y : D} {v u : V} {H : Hp} {G : Gp} {Q3 : K3} {Q : VK} (R : HpR X.K Γ H G) (hx : Dat X.K Γ H G x v) (hy : Dat X.K Γ H G y u)
    (h : ∃ ds, seqD (vis G) y = some ds ∧ gd 60 x = true ∧ ds.all (gd 59) = true ∧ y ≠ .nod .tuK ds ∧ Q3 (.bl (if neg then !inB x ds else inB x ds)) (vis G)) (k : ∀ d w G' H', Step X.K H G H' G' → HpR X.K Γ H' G' → Dat X.K Γ H' G' d w → Q3 d (vis G') → Q w H') :
    (∃ d ds, Dp X.K H v d ∧ Dp X.K H u (.list ds) ∧ SeqAt.shaped d = true ∧ SeqAt.shaped (.list ds) = true ∧ Q (.bl (if neg then !ds.any fun z => PyData.eqv z d else ds.any fun z => PyData.eqv z d)) H) ∨ rInT X.K neg v u H Q := by
  obtain ⟨ds, e, gx, gy, _, q⟩ := h
  obtain ⟨p, vs, rfl, hs, l⟩ := seqD_at R e hy
  rcases hs with ⟨_, hs⟩ | ⟨_, hs⟩
  · exact .inl ⟨py x, pyL ds, dat_dp 60 x v gx hx, .lst hs (datL_dp gy l), gd_shaped gx, gd_list gy (by decide), ret k R q (by rw [pyL_any] <;> rfl)⟩
  · exact .inr ⟨py x, pyL ds, dat_dp 60 x v gx hx, .tup hs (datL_dp gy l), gd_shaped gx, gd_tuple gy (by decide), ret k R q (by rw [pyL_any] <;> rfl)⟩
abbrev rIn4 (K : PySem.W.Frag) : R2 := fun x y H Q => (rInAll K false (rInD K) fun x y H Q => ∃ (c : Nat) (z : Str), x = .str ⟨#[c]⟩ ∧ y = .str z ∧ Q (.bl (decide (c ∈ z.cps.toList))) H) x y H Q ∨ rInT K false x y H Q
abbrev rNotIn4 (K : PySem.W.Frag) : R2 := fun x y H Q => (rInAll K true (rNotInD K) fun x y H Q => ∃ (c : Nat) (z : Str), x = .str ⟨#[c]⟩ ∧ y = .str z ∧ Q (.bl (!decide (c ∈ z.cps.toList))) H) x y H Q ∨ rInT K true x y H Q
theorem op_in4 (hu : X.A.units + 65 < cLine) : OpR X (compareOp .In) (rIn4 X.K) := (op_in3 hu).or (op_inT hu)
theorem op_notIn4 (hu : X.A.units + 65 < cLine) : OpR X (compareOp .NotIn) (rNotIn4 X.K) := (op_notIn3 hu).or (op_notInT hu)
theorem sound_in4 : Sound2 X.K Γ (rIn4 X.K) (inR2 false) := by
  intro x y v u H G Q3 Q R hx hy h k
  rcases h with h | h
  · exact .inl (sound_in3 x y v u H G Q3 Q R hx hy h k)
  · rcases in2_sound R hx hy h k with h | h
    · exact .inl (.inr (.inl h))
    · exact .inr h
theorem sound_notIn4 : Sound2 X.K Γ (rNotIn4 X.K) (inR2 true) := by
  intro x y v u H G Q3 Q R hx hy h k
  rcases h with h | h
  · exact .inl (sound_notIn3 x y v u H G Q3 Q R hx hy h k)
  · rcases in2_sound R hx hy h k with h | h
    · exact .inl (.inr (.inl h))
    · exact .inr h
end

/-! ### name op= e -/
@[simp] def TAug (i : Nat) (r : R3) (t : TE3) : TS3 := fun D3 δ G => match slot δ i with
  | some x => t δ G (fun y G1 => r x y G1 fun z G2 => D3.nx (δ.set i (some z)) G2) (fun cls G1 => D3.ex cls δ G1)
  | none => False
section
variable {X : Cx} {Γ : Gm} {W : WX} {e : Expr} {pos pos' : Pos} {t : TE3}
theorem ps3_aug {i : Nat} {x : Str} {op : Operator} {r : R2} {r3 : R3} (hN : X.N.Nodup) (hi : X.N[i]? = some x) (hx : Loc X.env.scope x) (ho : OpR X (inplaceOp op) r) (hs : Sound2 X.K Γ r r3) (he : PE3 X Γ W e t)
    (hf : X.fn x = true ∨ X.env.scope.names.lookup x = some .local := by first | exact .inl rfl | exact .inr rfl | assumption) : PS3 X Γ W (.AugAssign (.Name x pos') op e pos) (TAug i r3 t) := by
  refine ps_imp (ps_aug (ti := r) hN hi hx he (fun pins s σ H x y v u Q I rx ry h => ho pins s σ H x y v u Q I rx ry h) hf) fun D' σ H hw => ?_
  obtain ⟨δ, G, D3, R, h, k⟩ := hw
  unfold TAug at h
  split at h
  · rename_i d e
    obtain ⟨v, h1, h2⟩ := R.get i d (slot_get e)
    refine ⟨v, h1, δ, G, _, _, R, h, fun y w G1 H1 s1 hp1 dy q => ?_, fun cls G' H' s hp q => k.ex cls δ G' σ H' s (R.mono s hp) q⟩
    exact hs d y v w H1 G1 _ _ hp1 (h2.mono s1) dy q fun z zv G2 H2 s2 hp2 dz q => k.nx _ G2 _ H2 (s1.trans s2) ((R.mono (s1.trans s2) hp2).set dz) q
  · exact h.elim
abbrev rIadd2 : R2 := fun x y H Q => rI0 (fun i j => .int (i + j)) x y H Q ∨ ∃ i j, x = .str i ∧ y = .str j ∧ i.length + j.length ≤ sizeLine ∧ Q (.str (i ++ j)) H
theorem iop_add2 : OpR X (inplaceOp .Add) rIadd2 := iop_add.or iop_add_str
@[simp] def iaddR : R3 := fun x y G Q => match x, y with
  | .int i, .int j => Q (.int (i + j)) G
  | .str s, .str t => s.length + t.length ≤ sizeLine ∧ Q (.str (s ++ t)) G
  | _, _ => False
theorem sound_iadd : Sound2 X.K Γ rIadd2 iaddR := by
  intro x y v u H G Q3 Q R hx hy h k
  unfold iaddR at h
  split at h
  · exact .inl ⟨_, _, hx, hy, ret k R h rfl⟩
  · exact .inr ⟨_, _, hx, hy, h.1, ret k R h.2 rfl⟩
  · exact h.elim
theorem sound_isub : Sound2 X.K Γ (rI0 fun i j => .int (i - j)) subR := sound_ii0 fun _ _ _ _ => rfl
theorem sound_ifdiv : Sound2 X.K Γ (rI CDiv fun i j => .int (i / j)) fdivR := sound_ii fun _ _ _ _ => rfl
end

/-! ### plain proofs: walks -/
/-- one turn of a comprehension that changes nothing: is the item taken, what is made of it -/
def LcStep (δ0 : St3) (g : TG3) (tt : TT3) (te : TE3) (G : Gp) (x : D) (p : Bool) (y : D) : Prop :=
  ∀ (K1 : D → Gp → Prop) (K2 : Gp → Prop), (p = true → K1 y G) → (p = false → K2 G) → g x δ0 G (fun δ2 G2 => tt δ2 G2 (fun b G3 => if b = true then te δ2 G3 K1 X0 else K2 G3) X0) X0
theorem lcRun {δ0 : St3} {g : TG3} {tt : TT3} {te : TE3} {G : Gp} {k : List D → Gp → Prop} (p : D → Bool) (y : D → D) : ∀ (xs acc : List D), (∀ x ∈ xs, LcStep δ0 g tt te G x (p x) (y x)) → acc.length + xs.length ≤ sizeLine → k (acc ++ (xs.filter p).map y) G → LcRun δ0 g tt te xs acc G k
  | [], acc, _, _, h => by simpa [LcRun] using h
  | x :: xs, acc, hs, hl, h => by
    have hl' : acc.length + xs.length + 1 ≤ sizeLine := by simpa [Nat.add_assoc] using hl
    refine hs x (List.mem_cons_self ..) _ _ (fun hp => ⟨by omega, ?_⟩) (fun hp => ?_)
    · refine lcRun p y xs (acc ++ [y x]) (fun x' hx => hs x' (List.mem_cons_of_mem _ hx)) (by simp; omega) ?_
      simpa [List.filter_cons, hp] using h
    · refine lcRun p y xs acc (fun x' hx => hs x' (List.mem_cons_of_mem _ hx)) (by omega) ?_
      simpa [List.filter_cons, hp] using h
def DcStep (δ0 : St3) (g : TG3) (tt : TT3) (tk te : TE3) (G : Gp) (x : D) (p : Bool) (ky : Key) (z : D) : Prop :=
  ∀ (K1 : D → Gp → Prop) (K2 : Gp → Prop), (p = true → K1 z G) → (p = false → K2 G) → g x δ0 G (fun δ2 G2 => tt δ2 G2 (fun b G3 => if b = true then tk δ2 G3 (fun y G4 => ∃ k, y = keyD k ∧ te δ2 G4 (fun z G5 => (k = ky → K1 z G5) ∧ k = ky) X0) X0 else K2 G3) X0) X0
/-- a for loop: an invariant of what is behind -/
theorem forRun {g : TG3} {tb : TS3} {D3 : Ends3} (I : List D → St3 → Gp → Prop) : ∀ (xs : List D) (δ : St3) (G : Gp), I xs δ G →
    (∀ x r δ G, I (x :: r) δ G → ∀ Nx : St3 → Gp → Prop, (∀ δ' G', I r δ' G' → Nx δ' G') → g x δ G (fun δ2 G2 => tb { D3 with nx := Nx, ct := Nx, bk := D3.nx } δ2 G2) (fun cls G2 => D3.ex cls δ G2)) →
    (∀ δ G, I [] δ G → D3.nx δ G) → ForRun g tb D3 xs δ G
  | [], δ, G, h, _, he => he δ G h
  | x :: xs, δ, G, h, hs, he => hs x xs δ G h _ (fun δ' G' h' => forRun I xs δ' G' h' hs he)
/-- a while loop: an invariant with a measure -/
theorem whileRun {t : TT3} {tb : TS3} {D3 : Ends3} (I : Nat → St3 → Gp → Prop) {m : Nat} {δ : St3} {G : Gp} (h : I m δ G)
    (hs : ∀ m δ G, I m δ G → t δ G (fun b G1 => if b = true then tb { D3 with nx := fun δ' G' => ∃ m', m' < m ∧ I m' δ' G', ct := fun δ' G' => ∃ m', m' < m ∧ I m' δ' G', bk := D3.nx } δ G1 else D3.nx δ G1) (fun cls G1 => D3.ex cls δ G1)) : TWhile t tb D3 δ G := ⟨I, ⟨m, h⟩, hs⟩
end L3
namespace L3
open PySem PySem.Spec PyProof.Rows L2
@[simp] def TDead : TS3 := fun _ _ _ => False
abbrev GC2 (t : TG3) (u : TGs3) : TGs3 := fun ds δ G Q _ => GCons t u ds δ G Q fun _ _ => False
abbrev GI (t : TG3) : TG3 := fun d δ G Q _ => t d δ G Q fun _ _ => False
end L3
/-! L3, part n: what laws share. -/
namespace L3
open PySem PySem.Spec PyProof.Rows L2

/-- what is owned stands, but at these places -/
def Kp (as : List Addr) (G G' : Gp) : Prop := ∀ x g, G x = some g → x ∉ as → G' x = some g
theorem Kp.refl {as : List Addr} {G : Gp} : Kp as G G := fun _ _ h _ => h
theorem Kp.trans {as bs : List Addr} {G G1 G2 : Gp} (a : Kp as G G1) (b : Kp bs G1 G2) (h : ∀ x ∈ bs, x ∈ as) : Kp as G G2 := fun x g e n => b x g (a x g e n) fun z => n (h x z)
theorem Kp.weak {as bs : List Addr} {G G' : Gp} (a : Kp as G G') (h : ∀ x ∈ as, x ∈ bs) : Kp bs G G' := fun x g e n => a x g e fun z => n (h x z)
theorem Kp.set {as : List Addr} {G : Gp} {p : Addr} {o : GO} (h : p ∈ as) : Kp as G (gset G p o) := fun x g e n => by
  rw [gset_ne (fun z => n (by rw [z]; exact h))]; exact e
theorem Kp.new {as : List Addr} {G : Gp} {p : Addr} {o : GO} (h : G p = none) : Kp as G (gset G p o) := fun x g e n => by
  rw [gset_ne (fun z => by rw [z, h] at e; cases e)]; exact e
theorem Kp.at0 {G G' : Gp} (k : Kp [] G G') {x : Addr} {g : GO} (e : G x = some g) : G' x = some g := k x g e (by simp)
theorem gp_ne {G : Gp} {p q : Addr} {g h : GO} (e : G p = some g) (f : G q = some h) (n : g ≠ h) : p ≠ q := fun z => by
  subst z
  rw [e] at f
  exact n (Option.some.inj f)
theorem gp_new {G : Gp} {p q : Addr} {g : GO} (e : G p = some g) (f : G q = none) : p ≠ q := fun z => by
  subst z
  rw [e] at f
  cases f

/-! ### the laws' dice -/
def DiceAt (G : Gp) (p : Addr) : Prop := ∃ x y z : Int, G p = some (.lst [.int x, .int y, .int z])
theorem DiceAt.kp {as : List Addr} {G G' : Gp} {p : Addr} (h : DiceAt G p) (k : Kp as G G') (n : p ∉ as) : DiceAt G' p := let ⟨x, y, z, e⟩ := h; ⟨x, y, z, k _ _ e n⟩
def spDice : Sp3 := fun ds G Q _ => ∃ c : Int, ds = [.int c] ∧ ∀ p G', DiceAt G' p → G p = none → Kp [] G G' → Q (.ref p) G'
def spRoll : Sp3 := fun ds G Q _ => ∃ (p : Addr) (many : Int), ds = [.ref p, .int many] ∧ DiceAt G p ∧ 0 < many ∧ many ≤ 100000000 ∧ ∀ (r : Int) (G' : Gp), 0 ≤ r → r < many → DiceAt G' p → Kp [p] G G' → Q (.int r) G'
def spRounds : Sp3 := fun ds G Q _ => ∃ (ns : List Int) (m : Int), ds = [.nod .ro (ns.map .int), .int m] ∧ ns.length ≤ 63 ∧ ∀ (ps : List Addr) (G' : Gp), ps.Nodup → (∀ p ∈ ps, DiceAt G' p ∧ G p = none) → Kp [] G G' → Q (.lst (ps.map .ref)) G'

/-- told's def, known -/
structure ToldF (K : PySem.W.Frag) (mg : Str → Option Value) (x : Str) (g : Addr) (d : FuncData) (st : Stmt) (e : Str) (CS : Addr) (rt : Str) : Prop where
  u : Fun K x x st g d
  gm : mg x = some (.ref g)
  b : Binds K d ["what"] []
  sc : FnScope ["what"] ["what"] (defScope st)
  body : ∃ (j : Nat) (p1 p2 p3 p4 p5 p6 p7 p8 : Pos), defBody st = [.Try [.Return (some (.Call (.Name "what" p1) [] [] p2)) p3] [.ExceptHandler (some (.Name e p4)) none [.Return (some (.Constant (.str rt) j p5)) p6] p7] [] [] p8]
  ge : (defScope st).names.lookup e = some .globalImplicit
  de : (e == ("__debug__" : Str)) = false
  me : mg e = some (.ref CS)
  loc : (defScope st).names.lookup ("what" : Str) = some .local
section
variable {X : Cx} {Γ : Gm} {W : WX} {x e : Str} {g CS : Addr} {d : FuncData} {st : Stmt} {rt : Str} {k : Nat}
theorem ToldF.told (F : ToldF X.K X.mg x g d st e CS rt) {c P : Addr} {params : Arguments} {body : Expr} {scope : Scope} {t : TE3} {p lpos pos : Pos} (hg : Gl X x) (hdb : (x == ("__debug__" : Str)) = false) (TB : LamX.TabB X.base X.mg c P) (hcode : X.env.code = .ref c) (hmT : (P, X.env.qual ++ "<lambda>") ∈ Γ.T)
    (hu : ∀ p ∈ Γ.T, p.1 = P → p.2 = X.env.qual ++ "<lambda>") (hr : Room (k + 2) X.A) (L : LamX.LamS X.env.scope scope) (hdef : defaultsOf params X.env = ([], []))
    (hbind : ∀ (q : Str) (cl : List (Str × Addr)) (pm cv ctv : Value), bindArgs (PySem.W.kla_fn "<lambda>" q params body scope cl pm cv ctv) ⟨[], []⟩ = pure [])
    (hbody : ∀ (A : Around) (outer : List Env) (s : Shared) (H : Hp) (E : XK) (f c' : Addr), Room k (A.deeper (LamX.lamEnv X scope s.heap.objs.size f c')) → PE3 (LamX.lamCx X A outer s H E scope f c') Γ (WE3 E) body t) :
    PE3 X Γ W (.Call (.Name x p) [.Lambda params body scope lpos] [] pos) (TTold3 X.K CS rt t) := by
  obtain ⟨oc, od, kV, doc, pm, an, cdv, ct, osl, e1, lk, hcd⟩ := F.u.ex
  obtain ⟨j, p1, p2, p3, p4, p5, p6, p7, p8, eb⟩ := F.body
  have hb := F.b
  rw [e1, eb] at lk
  rw [e1, eb] at hb
  exact pe3_told hg F.gm F.u.kp lk hcd hb F.sc rfl (.inl F.loc) (LamX.told_gives F.ge F.me F.de fun _ => rfl) TB hcode hmT hu hr L hdef hbind hbody hdb
theorem ToldF.toldV (F : ToldF X.K X.mg x g d st e CS rt) {ex : Expr} {te : TE3} {ts : List TE3} {p pos : Pos} (hg : Gl X x) (hdb : (x == ("__debug__" : Str)) = false) (hr : Room (k + 2) X.A) (he : PE3 X Γ W ex te)
    (hts : ∀ i t, ts[i]? = some t → ∃ l : LamI, Γ.is i l ∧ ClosedS l.scope ∧ (∀ (pm cv ctv : Value), bindArgs (PySem.W.kla_fn "<lambda>" (Γ.cq i) l.params l.body l.scope [] pm cv ctv) ⟨[], []⟩ = pure []) ∧
      ∀ (A : Around) (outer : List Env) (s : Shared) (H : Hp) (E : XK) (f c' : Addr), Room k (A.deeper (lamEnv0 (Γ.cq i) l.scope s.heap.objs.size f c')) → PE3 (lamCx0 X A outer s H E (Γ.cq i) l.scope f c') Γ (WE3 E) l.body t)
    (hs : starEach [ex] X.env = [(false, eval ex X.env)] := by rfl) : PE3 X Γ W (.Call (.Name x p) [ex] [] pos) (TToldV X.K CS rt te ts) := by
  obtain ⟨oc, od, kV, doc, pm, an, cdv, ct, osl, e1, lk, hcd⟩ := F.u.ex
  obtain ⟨j, p1, p2, p3, p4, p5, p6, p7, p8, eb⟩ := F.body
  have hb := F.b
  rw [e1, eb] at lk
  rw [e1, eb] at hb
  exact pe3_toldV hg F.gm F.u.kp lk hcd hb F.sc rfl (.inl F.loc) (fun q => LamX.told_gives F.ge F.me F.de fun _ => rfl) hr he hts hs hdb
end
end L3
namespace L3
open PySem
/-! where lambdas stand in a text -/
def stV : Stmt → Expr
  | .Assign _ v _ => v
  | .Return (some v) _ => v
  | .If t _ _ _ => t
  | _ => .Constant .none 0 ⟨0, 0, 0, 0⟩
def eltAt : Expr → Nat → Expr
  | .List es _, j => es.getD j (.Constant .none 0 ⟨0, 0, 0, 0⟩)
  | .Tuple es _ _, j => es.getD j (.Constant .none 0 ⟨0, 0, 0, 0⟩)
  | e, _ => e
def binL : Expr → Expr
  | .BinOp a _ _ _ => a
  | e => e
def binR : Expr → Expr
  | .BinOp _ _ b _ => b
  | e => e
def lcIter : Expr → Expr
  | .ListComp _ (g :: _) _ _ => g.iter
  | e => e
def cmpL : Expr → Expr
  | .Compare a _ _ _ => a
  | e => e
def boolAt : Expr → Nat → Expr
  | .BoolOp _ es _, j => es.getD j (.Constant .none 0 ⟨0, 0, 0, 0⟩)
  | e, _ => e
def lamI : Expr → LamI
  | .Lambda p b s _ => ⟨p, b, s⟩
  | e => ⟨{ posonlyargs := [], args := [], vararg := none, kwonlyargs := [], kw_defaults := [], kwarg := none, defaults := [] }, e, { kind := .function, names := [], isGenerator := false, isCoroutine := false }⟩
end L3
/-! L3, part o: readings that simp may run. -/
namespace L3
open PySem PySem.Spec PyProof.Rows L2

@[simp] theorem gset_gset {G : Gp} {p : Addr} {o o' : GO} : gset (gset G p o) p o' = gset G p o' := by
  funext b
  unfold gset
  by_cases e : b = p
  · rw [if_pos e, if_pos e]
  · rw [if_neg e, if_neg e, if_neg e]
@[simp] theorem gset_at {G : Gp} {p : Addr} {o : GO} : gset G p o p = some o := gset_same
@[simp] theorem size0 : 0 ≤ sizeLine := Nat.zero_le _
@[simp] theorem size1 : 1 ≤ sizeLine := by rw [sizeLine_eq]; decide
@[simp] theorem size2 : 2 ≤ sizeLine := by rw [sizeLine_eq]; decide
@[simp] theorem size3 : 3 ≤ sizeLine := by rw [sizeLine_eq]; decide
@[simp] theorem size4 : 4 ≤ sizeLine := by rw [sizeLine_eq]; decide
theorem sizeLe {n m : Nat} (h : n ≤ m) (hm : m ≤ 16777216) : n ≤ sizeLine := by rw [sizeLine_eq]; omega
theorem sizeLt {n m : Nat} (h : n ≤ m) (hm : m < 16777216) : n < sizeLine := by rw [sizeLine_eq]; omega
/-! ### keys -/
def keyOf : D → Option Key
  | .int i => some (.inl i)
  | .str s => some (.inr s)
  | _ => none
def keysL : List D → Option (List Key)
  | [] => some []
  | d :: ds => match keyOf d, keysL ds with
    | some k, some ks => some (k :: ks)
    | _, _ => none
def keysOf : D → Option (List Key)
  | .nod .tup xs => keysL xs
  | _ => none
theorem keyOf_is {d : D} {k : Key} (h : keyOf d = some k) : d = keyD k := by
  cases d <;> first | (cases h; done) | skip
  all_goals (cases h; rfl)
theorem keysL_is : ∀ {ds : List D} {ks : List Key}, keysL ds = some ks → ds = ks.map keyD
  | [], _, h => by cases h; rfl
  | d :: ds, _, h => by
    unfold keysL at h
    split at h
    · rename_i e1 e2
      cases h
      rw [keyOf_is e1, keysL_is e2] <;> rfl
    · cases h
theorem keysOf_is {d : D} {ks : List Key} (h : keysOf d = some ks) : d = keysD ks := by
  unfold keysOf at h
  split at h
  · rw [keysL_is h] <;> rfl
  · cases h
@[simp] theorem keyOf_int (i : Int) : keyOf (.int i) = some (.inl i) := rfl
@[simp] theorem keyOf_str (x : Str) : keyOf (.str x) = some (.inr x) := rfl
@[simp] theorem keysOf_tup (xs : List D) : keysOf (.tup xs) = keysL xs := rfl
@[simp] theorem keyOf_keyD (k : Key) : keyOf (keyD k) = some k := by cases k <;> rfl
@[simp] theorem keysL_map : ∀ ks : List Key, keysL (ks.map keyD) = some ks
  | [] => rfl
  | k :: ks => by
    show (match keyOf (keyD k), keysL (ks.map keyD) with | some k, some ks => some (k :: ks) | _, _ => none) = _
    rw [keyOf_keyD, keysL_map]
@[simp] theorem keysOf_keysD (ks : List Key) : keysOf (keysD ks) = some ks := keysL_map ks
@[simp] theorem zip_maps {α β : Type} (l : List (α × β)) : (l.map (·.1)).zip (l.map (·.2)) = l := zip_self l
/-- the table at x, with the keys of its kind: what is there at y -/
def tabC (x y : D) (G : Gp) (k : Option D → Prop) : Prop := match x with
  | .ref a => (match G a with
    | some (.dK kvs) => onS (keyOf y) fun ky => k (look kvs ky)
    | some (.lkK kvs) => onS (keyOf y) fun ky => k (look kvs ky)
    | some (.dT kvs) => onS (keysOf y) fun ky => k (look kvs ky)
    | some (.lkT kvs) => onS (keysOf y) fun ky => k (look kvs ky)
    | _ => False)
  | .nod (.dK ks) vs => ks.length = vs.length ∧ onS (keyOf y) fun ky => k (look (ks.zip vs) ky)
  | .nod (.dT ks) vs => ks.length = vs.length ∧ onS (keysOf y) fun ky => k (look (ks.zip vs) ky)
  | _ => False
theorem dK_zip {ks : List Key} {vs : List D} (h : ks.length = vs.length) : (.nod (.dK ks) vs : D) = .dK (ks.zip vs) := by
  show _ = D.nod (.dK ((ks.zip vs).map (·.1))) ((ks.zip vs).map (·.2))
  rw [show (ks.zip vs).map (·.1) = ks from List.map_fst_zip (Nat.le_of_eq h), show (ks.zip vs).map (·.2) = vs from List.map_snd_zip (Nat.le_of_eq h.symm)]
theorem dT_zip {ks : List (List Key)} {vs : List D} (h : ks.length = vs.length) : (.nod (.dT ks) vs : D) = .dT (ks.zip vs) := by
  show _ = D.nod (.dT ((ks.zip vs).map (·.1))) ((ks.zip vs).map (·.2))
  rw [show (ks.zip vs).map (·.1) = ks from List.map_fst_zip (Nat.le_of_eq h), show (ks.zip vs).map (·.2) = vs from List.map_snd_zip (Nat.le_of_eq h.symm)]
theorem tabC_is {x y : D} {G : Gp} {k : Option D → Prop} (h : tabC x y G k) : ∃ r, DG3 G x y r ∧ IsD3 G x ∧ k r := by
  unfold tabC at h
  split at h
  · split at h
    · rename_i hg
      obtain ⟨ky, e, q⟩ := onS_iff.mp h
      exact ⟨_, .inl ⟨_, ky, .inr ⟨_, rfl, .inl hg⟩, keyOf_is e, rfl⟩, .inl ⟨_, .inr ⟨_, rfl, .inl hg⟩⟩, q⟩
    · rename_i hg
      obtain ⟨ky, e, q⟩ := onS_iff.mp h
      exact ⟨_, .inl ⟨_, ky, .inr ⟨_, rfl, .inr hg⟩, keyOf_is e, rfl⟩, .inl ⟨_, .inr ⟨_, rfl, .inr hg⟩⟩, q⟩
    · rename_i hg
      obtain ⟨ky, e, q⟩ := onS_iff.mp h
      exact ⟨_, .inr ⟨_, ky, .inr ⟨_, rfl, .inl hg⟩, keysOf_is e, rfl⟩, .inr ⟨_, .inr ⟨_, rfl, .inl hg⟩⟩, q⟩
    · rename_i hg
      obtain ⟨ky, e, q⟩ := onS_iff.mp h
      exact ⟨_, .inr ⟨_, ky, .inr ⟨_, rfl, .inr hg⟩, keysOf_is e, rfl⟩, .inr ⟨_, .inr ⟨_, rfl, .inr hg⟩⟩, q⟩
    · exact h.elim
  · obtain ⟨hl, h⟩ := h
    obtain ⟨ky, e, q⟩ := onS_iff.mp h
    rw [dK_zip hl]
    exact ⟨_, .inl ⟨_, ky, .inl rfl, keyOf_is e, rfl⟩, .inl ⟨_, .inl rfl⟩, q⟩
  · obtain ⟨hl, h⟩ := h
    obtain ⟨ky, e, q⟩ := onS_iff.mp h
    rw [dT_zip hl]
    exact ⟨_, .inr ⟨_, ky, .inl rfl, keysOf_is e, rfl⟩, .inr ⟨_, .inl rfl⟩, q⟩
  · exact h.elim

/-! ### items -/
/-- the items of x where it is no table -/
def itemsC (x : D) (G : Gp) : Option (List D) := match x with
  | .nod .lst xs => some xs
  | .nod .tup xs => some xs
  | .nod .tuF xs => some xs
  | .ref a => (match G a with | some (.lst xs) => some xs | _ => none)
  | _ => none
def subC (x y : D) (G : Gp) (Q : K3) : Prop := match itemsC x G, y with
  | some xs, .int i => onS (atI xs i) fun d => Q d G
  | some _, _ => False
  | none, y => match x, y with
    | .str z, .int i => z.length ≤ sizeLine ∧ onS (atI z.cps.toList i) fun c => Q (.str ⟨#[c]⟩) G
    | x, y => tabC x y G fun r => onS r fun d => Q d G
theorem subC_of {x y : D} {G : Gp} {Q : K3} (h : subC x y G Q) : subR3 x y G Q := by
  unfold subC at h
  split at h
  · rename_i xs i e
    obtain ⟨d, e1, q⟩ := onS_iff.mp h
    unfold itemsC at e
    split at e
    · cases e; exact .inl ⟨d, e1, q⟩
    · cases e; exact .inl ⟨d, e1, q⟩
    · cases e; exact .inl ⟨d, e1, q⟩
    · split at e
      · rename_i hg
        cases e
        exact .inl ⟨_, d, hg, e1, q⟩
      · cases e
    · cases e
  · exact h.elim
  · split at h
    · obtain ⟨d, e1, q⟩ := onS_iff.mp h.2
      exact .inl ⟨d, h.1, e1, q⟩
    · obtain ⟨r, g, _, q⟩ := tabC_is h
      obtain ⟨d, e1, q⟩ := onS_iff.mp q
      exact .inr ⟨d, by rw [← e1]; exact g, q⟩
def setC (o i v : D) (G : Gp) (Q : Gp → Prop) : Prop := match o with
  | .ref a => (match G a with
    | some (.lst xs) => (match i with | .int k => onS (ixN xs.length k) fun j => Q (gset G a (.lst (xs.set j v))) | _ => False)
    | some (.dK kvs) => onS (keyOf i) fun k => kvs.length < sizeLine ∧ Q (gset G a (.dK (put kvs k v)))
    | some (.dT kvs) => onS (keysOf i) fun k => kvs.length < sizeLine ∧ Q (gset G a (.dT (put kvs k v)))
    | _ => False)
  | _ => False
theorem setC_of {o i v : D} {G : Gp} {Q : Gp → Prop} (h : setC o i v G Q) : setR o i v G Q := by
  unfold setC at h
  split at h
  · split at h
    · rename_i hg
      split at h
      · obtain ⟨j, e, q⟩ := onS_iff.mp h
        exact .inl ⟨_, _, _, j, rfl, rfl, hg, e, q⟩
      · exact h.elim
    · rename_i hg
      obtain ⟨k, e, q⟩ := onS_iff.mp h
      exact .inr (.inl ⟨_, _, k, rfl, keyOf_is e, hg, q.1, q.2⟩)
    · rename_i hg
      obtain ⟨k, e, q⟩ := onS_iff.mp h
      exact .inr (.inr ⟨_, _, k, rfl, keysOf_is e, hg, q.1, q.2⟩)
    · exact h.elim
  · exact h.elim
@[simp] def GSubC (to ti : TE3) : TG3 := fun d δ G Q E => to δ G (fun o G1 => ti δ G1 (fun i G2 => setC o i d G2 fun G3 => Q δ G3) E) E
@[simp] def ngB (neg b : Bool) : Bool := if neg then !b else b
/-- in, not in -/
def inC (neg : Bool) : R3 := fun x y G Q => match itemsC y G with
  | some ds => gd 60 x = true ∧ ds.all (gd 59) = true ∧ Q (.bl (ngB neg (inB x ds))) G
  | none => (match y with
    | .nod .tuK ds => flat3 x = true ∧ ds.all flat3 = true ∧ Q (.bl (ngB neg (inB x ds))) G
    | .str z => (match x with | .str ⟨⟨[c]⟩⟩ => Q (.bl (ngB neg (decide (c ∈ z.cps.toList)))) G | _ => False)
    | y => tabC y x G fun r => Q (.bl (ngB neg r.isSome)) G)
theorem inC_of {neg : Bool} {x y : D} {G : Gp} {Q : K3} (h : inC neg x y G Q) : inR2 neg x y G Q := by
  unfold inC at h
  split at h
  · rename_i ds e
    have e2 : seqD G y = some ds ∧ y ≠ .nod .tuK ds := by
      unfold itemsC at e
      split at e
      · cases e; exact ⟨rfl, nofun⟩
      · cases e; exact ⟨rfl, nofun⟩
      · cases e; exact ⟨rfl, nofun⟩
      · split at e
        · rename_i hg
          cases e
          exact ⟨by show (match G _ with | some (.lst xs) => some xs | _ => none) = some ds; rw [hg], nofun⟩
        · cases e
      · cases e
    exact .inr ⟨ds, e2.1, h.1, h.2.1, e2.2, h.2.2⟩
  · split at h
    · exact .inl (.inr (.inr (.inr ⟨_, .inr rfl, h⟩)))
    · split at h
      · exact .inl (.inr (.inr (.inl ⟨_, _, rfl, rfl, h⟩)))
      · exact h.elim
    · obtain ⟨r, g, _, q⟩ := tabC_is h
      exact .inl (.inl ⟨r, g, q⟩)
section
variable {X : Cx} {Γ : Gm} {W : WX} {e o a b c i f : Expr} {pos apos cpos : Pos} {ta tb tc : TE3}
theorem pe3_subC (hu : X.A.units + 1 < cLine) (ha : PE3 X Γ W a ta) (hb : PE3 X Γ W b tb) (hs : PlainIx b) : PE3 X Γ W (.Subscript a b pos) (TOp subC ta tb) :=
  pe_imp (pe_ix (ix_seq.or (ix_dict hu)) ha hb hs) fun _ _ _ hw => op_sound (fun x y v u H G Q3 Q R hx hy h k => sound_sub x y v u H G Q3 Q R hx hy (subC_of h) k) hw
theorem sound_inC : Sound2 X.K Γ (rIn4 X.K) (inC false) := fun x y v u H G Q3 Q R hx hy h k => sound_in4 x y v u H G Q3 Q R hx hy (inC_of h) k
theorem sound_notInC : Sound2 X.K Γ (rNotIn4 X.K) (inC true) := fun x y v u H G Q3 Q R hx hy h k => sound_notIn4 x y v u H G Q3 Q R hx hy (inC_of h) k
theorem pg3_subC (hu : X.A.units + 1 < cLine) (ho : PE3 X Γ W o ta) (hi : PE3 X Γ W i tb)
    (ha : ∀ v, assign (.Subscript o i pos) X.env v = (do
      let ov ← holding [v] (eval o X.env)
      let iv ← holding [v, ov] (eval i X.env)
      standAt pos
      holding [v, ov, iv] (setItem ov iv v)
      release [v, ov, iv] []) := by intro _; rfl) : PG3 X Γ W (.Subscript o i pos) (GSubC ta tb) := by
  refine pg_imp (pg_sub ho hi (pset_or set_list (set_dict hu)) ha) fun v σ H Q hw => ?_
  obtain ⟨d, δ, G, Q3, E3, R, dv, h, k, ke⟩ := hw
  refine ⟨δ, G, _, E3, R, h, fun x w G1 H1 s1 hp1 dx q => ?_, ke⟩
  refine ⟨δ, G1, _, E3, R.mono s1 hp1, q, fun y u G2 H2 s2 hp2 dy q => ?_, fun cls G' H' s' => ke cls G' H' (s1.trans s')⟩
  have R2 := R.mono (s1.trans s2) hp2
  have dv2 := (dv.mono s1).mono s2
  have q := setC_of q
  rcases q with ⟨a, xs, n, j, rfl, rfl, hg, hj, q⟩ | ⟨a, kvs, n, rfl, rfl, hg, hz, q⟩ | ⟨a, kvs, n, rfl, rfl, hg, hz, q⟩
  · cases (show _ = _ from dx); cases (show _ = _ from dy)
    have hg' := vis_some hg
    obtain ⟨vs, h3, l⟩ := hp2.own _ _ hg'
    obtain ⟨st, hp4⟩ := hp2.put (o' := .lst (vs.set j v)) (g' := .lst (xs.set j d)) hg' rfl fun st => ⟨_, upd_same, (l.set dv2 j).mono st⟩
    refine .inl ⟨a, vs, n, j, rfl, rfl, h3, by rw [← l.length]; exact hj, k δ _ σ _ ((s1.trans s2).trans st) (R2.mono st hp4) ?_⟩
    rw [vis_gset (by intro z; cases z)]
    exact q
  · cases (show _ = _ from dx)
    have hg' := vis_some hg
    obtain ⟨vs, h3, l⟩ := hp2.own _ _ hg'
    obtain ⟨st, hp4⟩ := hp2.put (o' := .dK (putK vs n v)) (g' := .dK (put kvs n d)) hg' rfl fun st => ⟨_, upd_same, DatF.mono st (datF_put l n dv2)⟩
    refine .inr ⟨a, _, rfl, .inl ⟨vs, n, h3, dat_key dy, by rw [← DatF.length l]; exact hz, rfl⟩, k δ _ σ _ ((s1.trans s2).trans st) (R2.mono st hp4) ?_⟩
    rw [vis_gset (by intro z; cases z)]
    exact q
  · cases (show _ = _ from dx)
    have hg' := vis_some hg
    obtain ⟨vs, h3, l⟩ := hp2.own _ _ hg'
    obtain ⟨b, rfl, hb⟩ := dat_keys dy
    obtain ⟨st, hp4⟩ := hp2.put (o' := .dT (putK vs n v)) (g' := .dT (put kvs n d)) hg' rfl fun st => ⟨_, upd_same, DatF.mono st (datF_put l n dv2)⟩
    refine .inr ⟨a, _, rfl, .inr ⟨vs, n, b, h3, rfl, hb, by rw [← DatF.length l]; exact hz, rfl⟩, k δ _ σ _ ((s1.trans s2).trans st) (R2.mono st hp4) ?_⟩
    rw [vis_gset (by intro z; cases z)]
    exact q

end
/-- a table stands there -/
def isDC (x : D) (G : Gp) : Prop := match x with
  | .ref a => (match G a with
    | some (.dK _) => True
    | some (.lkK _) => True
    | some (.dT _) => True
    | some (.lkT _) => True
    | _ => False)
  | .nod (.dK ks) vs => ks.length = vs.length
  | .nod (.dT ks) vs => ks.length = vs.length
  | _ => False
theorem isDC_of {x : D} {G : Gp} (h : isDC x G) : IsD3 G x := by
  unfold isDC at h
  split at h
  · split at h
    · rename_i hg; exact .inl ⟨_, .inr ⟨_, rfl, .inl hg⟩⟩
    · rename_i hg; exact .inl ⟨_, .inr ⟨_, rfl, .inr hg⟩⟩
    · rename_i hg; exact .inr ⟨_, .inr ⟨_, rfl, .inl hg⟩⟩
    · rename_i hg; exact .inr ⟨_, .inr ⟨_, rfl, .inr hg⟩⟩
    · exact h.elim
  · rw [dK_zip h]; exact .inl ⟨_, .inl rfl⟩
  · rw [dT_zip h]; exact .inr ⟨_, .inl rfl⟩
  · exact h.elim
section
variable {X : Cx} {Γ : Gm} {W : WX} {e o a b c i f : Expr} {pos apos cpos : Pos} {ta tb tc : TE3}
@[simp] def TGet1C (td ty : TE3) : TE3 := fun δ G Q E => td δ G (fun x G1 => isDC x G1 ∧ ty δ G1 (fun y G2 => tabC x y G2 fun r => Q (r.getD .non) G2) E) E
@[simp] def TGet2C (td ty tx : TE3) : TE3 := fun δ G Q E => td δ G (fun x G1 => isDC x G1 ∧ ty δ G1 (fun y G2 => tx δ G2 (fun z G3 => tabC x y G3 fun r => Q (r.getD z) G3) E) E) E
theorem pe3_get1C (hu : X.A.units + 1 < cLine) (ho : PE3 X Γ W o ta) (he : PE3 X Γ W e tb) (m : M1 X o "get" apos e cpos) : PE3 X Γ W (.Call (.Attribute o "get" apos) [e] [] cpos) (TGet1C ta tb) := by
  refine pe_imp (pe_dget1 hu ho he m) fun σ H Q hw => ?_
  obtain ⟨δ, G, Q3, E3, R, h1, k, ke⟩ := hw
  refine ⟨δ, G, _, E3, R, h1, fun x v G1 H1 s1 hp1 dx ⟨hd', q⟩ => ?_, ke⟩
  have hd := isDC_of hd'
  obtain ⟨a, rfl, hD⟩ := hd.at hp1 dx
  refine ⟨a, rfl, hD, δ, G1, _, E3, R.mono s1 hp1, q, fun y u G2 H2 s2 hp2 dy q0 => ?_, fun cls G' H' s' => ke cls G' H' (s1.trans s')⟩
  obtain ⟨r, g, _, q⟩ := tabC_is q0
  obtain ⟨a', ro, e, g, _, er⟩ := g.at hp2 (dx.mono s2) dy
  cases e
  refine ⟨ro, g, ?_⟩
  rcases er with ⟨d, w, rfl, rfl, dw⟩ | ⟨rfl, rfl⟩
  · exact k d w G2 H2 (s1.trans s2) hp2 dw q
  · exact k .non .non G2 H2 (s1.trans s2) hp2 rfl q
theorem pe3_get2C (hu : X.A.units + 1 < cLine) (ho : PE3 X Γ W o ta) (he : PE3 X Γ W e tb) (hf : PE3 X Γ W f tc) (m : M2 X o "get" apos e f cpos) : PE3 X Γ W (.Call (.Attribute o "get" apos) [e, f] [] cpos) (TGet2C ta tb tc) := by
  refine pe_imp (pe_dget2 hu ho he hf m) fun σ H Q hw => ?_
  obtain ⟨δ, G, Q3, E3, R, h1, k, ke⟩ := hw
  refine ⟨δ, G, _, E3, R, h1, fun x v G1 H1 s1 hp1 dx ⟨hd', q⟩ => ?_, ke⟩
  have hd := isDC_of hd'
  obtain ⟨a, rfl, hD⟩ := hd.at hp1 dx
  refine ⟨a, rfl, hD, δ, G1, _, E3, R.mono s1 hp1, q, fun y u G2 H2 s2 hp2 dy q => ?_, fun cls G' H' s' => ke cls G' H' (s1.trans s')⟩
  refine ⟨δ, G2, _, E3, R.mono (s1.trans s2) hp2, q, fun z w G3 H3 s3 hp3 dz q0 => ?_, fun cls G' H' s' => ke cls G' H' ((s1.trans s2).trans s')⟩
  obtain ⟨r, g, _, q⟩ := tabC_is q0
  obtain ⟨a', ro, e, g, _, er⟩ := g.at hp3 ((dx.mono s2).mono s3) (dy.mono s3)
  cases e
  refine ⟨ro, g, ?_⟩
  rcases er with ⟨d, w', rfl, rfl, dw⟩ | ⟨rfl, rfl⟩
  · exact k d w' G3 H3 ((s1.trans s2).trans s3) hp3 dw q
  · exact k z w G3 H3 ((s1.trans s2).trans s3) hp3 dz q
def popC (x y z : D) (G : Gp) (Q : K3) : Prop := match x with
  | .ref a => (match G a with
    | some (.dK kvs) => onS (keyOf y) fun k => (match look kvs k with | some d => Q d (gset G a (.dK (drop kvs k))) | none => Q z G)
    | _ => False)
  | _ => False
theorem popC_of {x y z : D} {G : Gp} {Q : K3} (h : popC x y z G Q) : ∃ a kvs k, x = .ref a ∧ G a = some (.dK kvs) ∧ y = keyD k ∧ (∀ d, look kvs k = some d → Q d (gset G a (.dK (drop kvs k)))) ∧ (look kvs k = none → Q z G) := by
  unfold popC at h
  split at h
  · split at h
    · rename_i hg
      obtain ⟨k, e, q⟩ := onS_iff.mp h
      refine ⟨_, _, k, rfl, hg, keyOf_is e, fun d e2 => ?_, fun e2 => ?_⟩
      · rw [e2] at q; exact q
      · rw [e2] at q; exact q
    · exact h.elim
  · exact h.elim
@[simp] def TPop2C (td ty tx : TE3) : TE3 := fun δ G Q E => td δ G (fun x G1 => isDC x G1 ∧ ty δ G1 (fun y G2 => tx δ G2 (fun z G3 => popC x y z G3 Q) E) E) E
theorem pe3_pop2C (ho : PE3 X Γ W o ta) (he : PE3 X Γ W e tb) (hf : PE3 X Γ W f tc) (m : M2 X o "pop" apos e f cpos) : PE3 X Γ W (.Call (.Attribute o "pop" apos) [e, f] [] cpos) (TPop2C ta tb tc) := by
  refine pe_imp (pe_dpop2 ho he hf m) fun σ H Q hw => ?_
  obtain ⟨δ, G, Q3, E3, R, h1, k, ke⟩ := hw
  refine ⟨δ, G, _, E3, R, h1, fun x v G1 H1 s1 hp1 dx ⟨hd', q⟩ => ?_, ke⟩
  have hd := isDC_of hd'
  obtain ⟨a, rfl, hD⟩ := hd.at hp1 dx
  refine ⟨a, rfl, hD, δ, G1, _, E3, R.mono s1 hp1, q, fun y u G2 H2 s2 hp2 dy q => ?_, fun cls G' H' s' => ke cls G' H' (s1.trans s')⟩
  refine ⟨δ, G2, _, E3, R.mono (s1.trans s2) hp2, q, fun z w G3 H3 s3 hp3 dz q0 => ?_, fun cls G' H' s' => ke cls G' H' ((s1.trans s2).trans s')⟩
  obtain ⟨a', kvs, k', ea, hg, ey, q1, q2⟩ := popC_of q0
  subst ea ey
  cases (show _ = _ from dx)
  have hg' := vis_some hg
  obtain ⟨vs, h3, l⟩ := hp3.own _ _ hg'
  refine ⟨vs, k', h3, dat_key (dy.mono s3), fun w' hv => ?_, fun hv => ?_⟩
  · rcases datF_look l k' with ⟨d, w2, e1, e2, dw⟩ | ⟨_, e2⟩
    · rw [hv] at e2; cases e2
      obtain ⟨st, hp4⟩ := hp3.put (o' := .dK (dropK vs k')) (g' := .dK (drop kvs k')) hg' rfl fun st => ⟨_, upd_same, DatF.mono st (datF_drop l k')⟩
      refine k d w' _ _ (((s1.trans s2).trans s3).trans st) hp4 (dw.mono st) ?_
      rw [vis_gset (by intro z; cases z)]
      exact q1 d e1
    · rw [hv] at e2; cases e2
  · rcases datF_look l k' with ⟨d, w2, e1, e2, dw⟩ | ⟨e1, e2⟩
    · rw [hv] at e2; cases e2
    · exact k z w G3 H3 ((s1.trans s2).trans s3) hp3 dz (q2 e1)

end
end L3
/-! L3, part p: == of lists that are owned; == and in of coded things. -/
namespace L3
open PySem PySem.Spec PyProof.Rows L2

/-- what is compared where an owned list stands -/
@[simp] def valD (x : D) (G : Gp) : D := match x with
  | .ref a => (match G a with | some (.lst xs) => .lst xs | _ => x)
  | _ => x
def eqC : R3 := fun x y G Q => match valD x G, valD y G with
  | .int i, .int j => Q (.bl (decide (i = j))) G
  | .str s, .str t => Q (.bl (decide (s = t))) G
  | .bl a, .bl b => Q (.bl (decide (a = b))) G
  | x, y => gd 60 x = true ∧ gd 60 y = true ∧ Q (.bl (eq3 x y)) G
def neC : R3 := fun x y G Q => match valD x G, valD y G with
  | .int i, .int j => Q (.bl (!decide (i = j))) G
  | .str s, .str t => Q (.bl (!decide (s = t))) G
  | .bl a, .bl b => Q (.bl (!decide (a = b))) G
  | x, y => gd 60 x = true ∧ gd 60 y = true ∧ Q (.bl (!eq3 x y)) G
section
variable {K : PySem.W.Frag} {Γ : Gm} {H : Hp} {G : Gp}
theorem valD_cases (x : D) (G : Gp) : valD x G = x ∨ ∃ a xs, x = .ref a ∧ G a = some (.lst xs) ∧ valD x G = .lst xs := by
  unfold valD
  split
  · split
    · rename_i h; exact .inr ⟨_, _, rfl, h, rfl⟩
    · exact .inl rfl
  · exact .inl rfl
theorem valD_dp {x : D} {v : V} (R : HpR K Γ H G) (dv : Dat K Γ H G x v) (g : gd 60 (valD x (vis G)) = true) : Dp K H v (py (valD x (vis G))) := by
  rcases valD_cases x (vis G) with e | ⟨a, xs, rfl, hg, e⟩
  · rw [e] at g ⊢
    exact dat_dp 60 x v g dv
  · rw [e] at g ⊢
    obtain rfl : v = _ := dv
    obtain ⟨vs, h1, l⟩ := R.own _ _ (vis_some hg)
    exact .lst (SqL.of h1) (datL_dp (n := 59) (by simpa [gd] using g) l)
theorem valD_sc {x d : D} {v : V} (dv : Dat K Γ H G x v) (e : valD x (vis G) = d) (h : ∀ xs, d ≠ .lst xs) : Dat K Γ H G d v := by
  rcases valD_cases x (vis G) with e2 | ⟨a, xs, rfl, hg, e2⟩
  · rw [e2] at e
    subst e
    exact dv
  · exact absurd (e.symm.trans e2) (h xs)
theorem sound_eqC : Sound2 K Γ (fun x y H Q => rEq x y H Q ∨ rEqD K x y H Q) eqC := by
  intro x y v u H G Q3 Q R hx hy h k
  unfold eqC at h
  split at h
  · rename_i i j e1 e2
    obtain rfl : v = _ := valD_sc hx e1 nofun
    obtain rfl : u = _ := valD_sc hy e2 nofun
    exact .inl ⟨rfl, ret k R h (by show V.bl _ = V.bl _; rw [dec_int, Bool.beq_eq_decide_eq])⟩
  · rename_i i j e1 e2
    obtain rfl : v = _ := valD_sc hx e1 nofun
    obtain rfl : u = _ := valD_sc hy e2 nofun
    exact .inl ⟨rfl, ret k R h (by show V.bl _ = V.bl _; rw [dec_str, Bool.beq_eq_decide_eq])⟩
  · rename_i i j e1 e2
    obtain rfl : v = _ := valD_sc hx e1 nofun
    obtain rfl : u = _ := valD_sc hy e2 nofun
    exact .inl ⟨rfl, ret k R h (by show V.bl _ = V.bl _; rw [dec_bl, Bool.beq_eq_decide_eq])⟩
  · exact .inr ⟨_, _, valD_dp R hx h.1, valD_dp R hy h.2.1, gd_shaped h.1, gd_shaped h.2.1, ret k R h.2.2 rfl⟩
theorem sound_neC : Sound2 K Γ (fun x y H Q => rNe x y H Q ∨ rNeD K x y H Q) neC := by
  intro x y v u H G Q3 Q R hx hy h k
  unfold neC at h
  split at h
  · rename_i i j e1 e2
    obtain rfl : v = _ := valD_sc hx e1 nofun
    obtain rfl : u = _ := valD_sc hy e2 nofun
    exact .inl ⟨rfl, ret k R h (by show V.bl _ = V.bl _; rw [dec_int, Bool.beq_eq_decide_eq])⟩
  · rename_i i j e1 e2
    obtain rfl : v = _ := valD_sc hx e1 nofun
    obtain rfl : u = _ := valD_sc hy e2 nofun
    exact .inl ⟨rfl, ret k R h (by show V.bl _ = V.bl _; rw [dec_str, Bool.beq_eq_decide_eq])⟩
  · rename_i i j e1 e2
    obtain rfl : v = _ := valD_sc hx e1 nofun
    obtain rfl : u = _ := valD_sc hy e2 nofun
    exact .inl ⟨rfl, ret k R h (by show V.bl _ = V.bl _; rw [dec_bl, Bool.beq_eq_decide_eq])⟩
  · exact .inr ⟨_, _, valD_dp R hx h.1, valD_dp R hy h.2.1, gd_shaped h.1, gd_shaped h.2.1, ret k R h.2.2 rfl⟩
end

/-! ### data coded by a function -/
@[simp] theorem gd_int (n : Nat) (i : Int) : gd n (.int i) = true := by cases n <;> rfl
@[simp] theorem gd_bl (n : Nat) (b : Bool) : gd n (.bl b) = true := by cases n <;> rfl
@[simp] theorem gd_non (n : Nat) : gd n .non = true := by cases n <;> rfl
@[simp] theorem gd_str (n : Nat) (x : Str) : gd n (.str x) = PyData.strOk x := by cases n <;> rfl
theorem gd_lst (n : Nat) (xs : List D) : gd (n + 1) (.lst xs) = xs.all (gd n) := rfl
theorem gd_tup (n : Nat) (xs : List D) : gd (n + 1) (.tup xs) = xs.all (gd n) := rfl
/-- f tells things apart as == does; its things are plain, at most so deep -/
structure Cod {α : Type} [DecidableEq α] (n : Nat) (f : α → D) : Prop where
  eq : ∀ a b, eq3 (f a) (f b) = decide (a = b)
  gd : ∀ a, gd n (f a) = true
theorem gd_mono : ∀ {n m : Nat} {d : D}, n ≤ m → gd n d = true → gd m d = true
  | _, _, .non, _, _ => gd_non _
  | _, _, .bl b, _, _ => gd_bl _ b
  | _, _, .int i, _, _ => gd_int _ i
  | _, _, .str x, _, h => by rw [gd_str] at h ⊢; exact h
  | n + 1, m + 1, .nod .tup xs, hl, h => by
    have h : xs.all (gd n) = true := h
    show xs.all (gd m) = true
    rw [List.all_eq_true] at h ⊢
    exact fun d hd => gd_mono (by omega) (h d hd)
  | n + 1, m + 1, .nod .lst xs, hl, h => by
    have h : xs.all (gd n) = true := h
    show xs.all (gd m) = true
    rw [List.all_eq_true] at h ⊢
    exact fun d hd => gd_mono (by omega) (h d hd)
  | n + 1, m + 1, .nod .tuF xs, hl, h => by
    have h : xs.all (gd n) = true := h
    show xs.all (gd m) = true
    rw [List.all_eq_true] at h ⊢
    exact fun d hd => gd_mono (by omega) (h d hd)
  | n + 1, 0, _, hl, _ => absurd hl (by omega)
  | 0, _, .nod .tup _, _, h => by simp [gd] at h
  | 0, _, .nod .lst _, _, h => by simp [gd] at h
  | 0, _, .nod .ro _, _, h => by simp [gd] at h
  | 0, _, .nod .tuK _, _, h => by simp [gd] at h
  | 0, _, .nod .tuF _, _, h => by simp [gd] at h
  | 0, _, .nod (.dK _) _, _, h => by simp [gd] at h
  | 0, _, .nod (.dT _) _, _, h => by simp [gd] at h
  | 0, _, .nod (.obj _ _) _, _, h => by simp [gd] at h
  | _ + 1, _, .nod .ro _, _, h => by simp [gd] at h
  | _ + 1, _, .nod .tuK _, _, h => by simp [gd] at h
  | _ + 1, _, .nod (.dK _) _, _, h => by simp [gd] at h
  | _ + 1, _, .nod (.dT _) _, _, h => by simp [gd] at h
  | _ + 1, _, .nod (.obj _ _) _, _, h => by simp [gd] at h
  | 0, _, .ref _, _, h => by simp [gd] at h
  | _ + 1, _, .ref _, _, h => by simp [gd] at h
  | 0, _, .clo _, _, h => by simp [gd] at h
  | _ + 1, _, .clo _, _, h => by simp [gd] at h
section
variable {α β : Type} [DecidableEq α] [DecidableEq β] {f : α → D} {g : β → D} {n : Nat}
theorem Cod.int : Cod 0 D.int := ⟨fun a b => by simp [eq3, py, PyData.eqv, Bool.beq_eq_decide_eq], fun _ => rfl⟩
theorem Cod.bl : Cod 0 D.bl := ⟨fun a b => by simp [eq3, py, PyData.eqv, Bool.beq_eq_decide_eq], fun _ => rfl⟩
theorem Cod.mono {m : Nat} (h : Cod n f) (hl : n ≤ m) : Cod m f := ⟨h.eq, fun a => gd_mono hl (h.gd a)⟩
theorem eqvAll_map (h : Cod n f) : ∀ xs ys : List α, PyData.eqvAll (pyL (xs.map f)) (pyL (ys.map f)) = decide (xs = ys)
  | [], [] => by simp [pyL, PyData.eqvAll]
  | [], y :: ys => by simp [pyL, PyData.eqvAll]
  | x :: xs, [] => by simp [pyL, PyData.eqvAll]
  | x :: xs, y :: ys => by
    have e := h.eq x y
    unfold eq3 at e
    simp only [List.map_cons, pyL, PyData.eqvAll, e, eqvAll_map h xs ys]
    by_cases h1 : x = y <;> by_cases h2 : xs = ys <;> simp [h1, h2]
theorem Cod.lst (h : Cod n f) : Cod (n + 1) fun xs : List α => D.lst (xs.map f) := ⟨fun a b => by
  show PyData.eqv (.list (pyL (a.map f))) (.list (pyL (b.map f))) = _
  rw [PyData.eqv]
  exact eqvAll_map h a b, fun a => by
  show (a.map f).all (L3.gd n) = true
  simp [List.all_eq_true, h.gd]⟩
theorem Cod.tup (h : Cod n f) : Cod (n + 1) fun xs : List α => D.tup (xs.map f) := ⟨fun a b => by
  show PyData.eqv (.tuple (pyL (a.map f))) (.tuple (pyL (b.map f))) = _
  rw [PyData.eqv]
  exact eqvAll_map h a b, fun a => by
  show (a.map f).all (L3.gd n) = true
  simp [List.all_eq_true, h.gd]⟩
theorem Cod.pair (h : Cod n f) (h2 : Cod n g) : Cod (n + 1) fun p : α × β => D.tup [f p.1, g p.2] := ⟨fun a b => by
  show PyData.eqv (.tuple [py (f a.1), py (g a.2)]) (.tuple [py (f b.1), py (g b.2)]) = _
  have e1 := h.eq a.1 b.1
  have e2 := h2.eq a.2 b.2
  unfold eq3 at e1 e2
  simp only [PyData.eqv, PyData.eqvAll, e1, e2]
  obtain ⟨a1, a2⟩ := a
  obtain ⟨b1, b2⟩ := b
  by_cases q1 : a1 = b1 <;> by_cases q2 : a2 = b2 <;> simp [q1, q2], fun a => by
  show [f a.1, g a.2].all (L3.gd n) = true
  simp [h.gd, h2.gd]⟩
theorem cod_iiD : Cod 1 iiD := Cod.pair Cod.int Cod.int
theorem Cod.inB (h : Cod n f) (a : α) : ∀ xs : List α, L3.inB (f a) (xs.map f) = decide (a ∈ xs)
  | [] => rfl
  | x :: xs => by
    have ih := h.inB a xs
    unfold L3.inB at ih ⊢
    rw [List.map_cons, List.any_cons, ih, h.eq]
    by_cases q1 : a = x
    · subst q1; simp
    · have q2 : ¬ x = a := fun z => q1 z.symm
      simp [q1, q2]
theorem Cod.all {m : Nat} (h : Cod n f) (hl : n ≤ m) (xs : List α) : (xs.map f).all (L3.gd m) = true := by
  simp only [List.all_map, List.all_eq_true]
  exact fun a _ => gd_mono hl (h.gd a)
theorem Cod.gdl {m : Nat} (h : Cod n f) (hl : n ≤ m) (xs : List α) : L3.gd (m + 1) (.lst (xs.map f)) = true := h.all hl xs
theorem Cod.gdt {m : Nat} (h : Cod n f) (hl : n ≤ m) (xs : List α) : L3.gd (m + 1) (.tup (xs.map f)) = true := h.all hl xs
theorem Cod.eql (h : Cod n f) (xs ys : List α) : eq3 (.lst (xs.map f)) (.lst (ys.map f)) = decide (xs = ys) := h.lst.eq xs ys
theorem Cod.eqt (h : Cod n f) (xs ys : List α) : eq3 (.tup (xs.map f)) (.tup (ys.map f)) = decide (xs = ys) := h.tup.eq xs ys
theorem Cod.nil (h : Cod n f) (xs : List α) : eq3 (.lst (xs.map f)) (.lst []) = decide (xs = []) := h.lst.eq xs []
end
/-- texts that may be laid -/
def StrOk (x : Str) : Prop := PyData.strOk x = true
theorem eq3_str (x y : Str) : eq3 (.str x) (.str y) = decide (x = y) := by simp [eq3, py, PyData.eqv, Bool.beq_eq_decide_eq]
theorem inB_strs (x : Str) : ∀ xs : List Str, inB (.str x) (xs.map .str) = decide (x ∈ xs)
  | [] => rfl
  | y :: xs => by
    have ih := inB_strs x xs
    unfold inB at ih ⊢
    rw [List.map_cons, List.any_cons, ih, eq3_str]
    by_cases q1 : x = y
    · subst q1; simp
    · have q2 : ¬ y = x := fun z => q1 z.symm
      simp [q1, q2]
theorem cut3_map {α : Type} (f : α → D) (xs : List α) (lo hi : Option Int) : ∃ ys : List α, cut3 (xs.map f) lo hi = ys.map f ∧ ys.length ≤ xs.length := by
  refine ⟨(xs.drop (HT.sIx xs.length 0 lo)).take (HT.sIx xs.length xs.length hi - HT.sIx xs.length 0 lo), ?_, ?_⟩
  · unfold cut3
    rw [List.length_map, List.map_take, List.map_drop]
  · rw [List.length_take, List.length_drop]
    omega
section
variable {G : Gp} {Q : K3}
@[simp] theorem eqC_ii (i j : Int) : eqC (.int i) (.int j) G Q = Q (.bl (decide (i = j))) G := rfl
@[simp] theorem eqC_ss (i j : Str) : eqC (.str i) (.str j) G Q = Q (.bl (decide (i = j))) G := rfl
@[simp] theorem eqC_bb (i j : Bool) : eqC (.bl i) (.bl j) G Q = Q (.bl (decide (i = j))) G := rfl
@[simp] theorem eqC_nn (t u : Tag) (xs ys : List D) : eqC (.nod t xs) (.nod u ys) G Q = (gd 60 (.nod t xs) = true ∧ gd 60 (.nod u ys) = true ∧ Q (.bl (eq3 (.nod t xs) (.nod u ys))) G) := rfl
@[simp] theorem neC_ii (i j : Int) : neC (.int i) (.int j) G Q = Q (.bl (!decide (i = j))) G := rfl
@[simp] theorem neC_ss (i j : Str) : neC (.str i) (.str j) G Q = Q (.bl (!decide (i = j))) G := rfl
@[simp] theorem neC_bb (i j : Bool) : neC (.bl i) (.bl j) G Q = Q (.bl (!decide (i = j))) G := rfl
@[simp] theorem neC_nn (t u : Tag) (xs ys : List D) : neC (.nod t xs) (.nod u ys) G Q = (gd 60 (.nod t xs) = true ∧ gd 60 (.nod u ys) = true ∧ Q (.bl (!eq3 (.nod t xs) (.nod u ys))) G) := rfl
end
@[simp] theorem eq3_nilL : eq3 (.lst []) (.lst []) = true := by simp [eq3, py, pyL, PyData.eqv, PyData.eqvAll]
@[simp] theorem gd_nilL : gd 60 (.lst []) = true := rfl
@[simp] theorem gd_nilT : gd 60 (.tup []) = true := rfl
@[simp] theorem gd_ints (xs : List Int) : gd 60 (.lst (xs.map .int)) = true := Cod.int.gdl (m := 59) (by decide) xs
@[simp] theorem eq3_ints (xs ys : List Int) : eq3 (.lst (xs.map .int)) (.lst (ys.map .int)) = decide (xs = ys) := Cod.int.eql xs ys
@[simp] theorem eq3_ints0 (xs : List Int) : eq3 (.lst (xs.map .int)) (.lst []) = decide (xs = []) := Cod.int.nil xs
@[simp] theorem gd_pairs (xs : List (Int × Int)) : gd 60 (.lst (xs.map iiD)) = true := cod_iiD.gdl (m := 59) (by decide) xs
@[simp] theorem gd_pairsT (xs : List (Int × Int)) : gd 60 (.tup (xs.map iiD)) = true := cod_iiD.gdt (m := 59) (by decide) xs
@[simp] theorem eq3_pairs (xs ys : List (Int × Int)) : eq3 (.lst (xs.map iiD)) (.lst (ys.map iiD)) = decide (xs = ys) := cod_iiD.eql xs ys
@[simp] theorem eq3_pairs0 (xs : List (Int × Int)) : eq3 (.lst (xs.map iiD)) (.lst []) = decide (xs = []) := cod_iiD.nil xs
@[simp] theorem eq3_pairsT (xs ys : List (Int × Int)) : eq3 (.tup (xs.map iiD)) (.tup (ys.map iiD)) = decide (xs = ys) := cod_iiD.eqt xs ys
@[simp] theorem gd_pair (p : Int × Int) : gd 60 (iiD p) = true := gd_mono (by decide) (cod_iiD.gd p)
@[simp] theorem eq3_pair (p q : Int × Int) : eq3 (iiD p) (iiD q) = decide (p = q) := cod_iiD.eq p q
@[simp] theorem atI_0 {α : Type} (x : α) (xs : List α) : atI (x :: xs) 0 = some x := by
  unfold atI ixN
  rw [if_pos (by decide), if_pos (by simp only [List.length_cons]; omega)]
  rfl
@[simp] theorem atI_1 {α : Type} (x y : α) (xs : List α) : atI (x :: y :: xs) 1 = some y := by
  unfold atI ixN
  rw [if_pos (by decide), if_pos (by simp only [List.length_cons]; omega)]
  rfl
@[simp] theorem atI_2 {α : Type} (x y z : α) (xs : List α) : atI (x :: y :: z :: xs) 2 = some z := by
  unfold atI ixN
  rw [if_pos (by decide), if_pos (by simp only [List.length_cons]; omega)]
  rfl
theorem ixN_at {n m : Nat} (h : m < n) : ixN n (m : Int) = some m := by unfold ixN; rw [if_pos (by omega), if_pos (by omega)]; simp
@[simp] theorem ixN_last (n : Nat) : ixN (n + 1) (n : Int) = some n := ixN_at (by omega)
theorem atI_at {α : Type} {xs : List α} {m : Nat} (h : m < xs.length) : atI xs (m : Int) = xs[m]? := by unfold atI; rw [ixN_at h] <;> rfl
theorem atI_snoc {α : Type} (xs : List α) (d : α) : atI (xs ++ [d]) (xs.length : Int) = some d := by
  rw [atI_at (by simp)]
  simp
@[simp] theorem atI_snocM {α β : Type} (f : α → β) (xs : List α) (d : β) : atI (xs.map f ++ [d]) (xs.length : Int) = some d := by
  have := atI_snoc (xs.map f) d
  simpa using this
theorem Kp.put {as : List Addr} {G G' : Gp} {f : Addr} {o : GO} (k : Kp as G G') (h : G f = none) : Kp as G (gset G' f o) := fun x g e n => by
  rw [gset_ne (fun z => by rw [z, h] at e; cases e)]
  exact k x g e n
theorem Kp.puts {as : List Addr} {G G' : Gp} {f : Addr} {o : GO} (k : Kp as G G') (h : f ∈ as) : Kp as G (gset G' f o) := fun x g e n => by
  rw [gset_ne (fun z => n (by rw [z]; exact h))]
  exact k x g e n
theorem sub_del {G : Gp} {f : Addr} {g : GO} (h : G f = some g) (hl : g.lk = false) : Sub (gdel G f) G := Sub.del fun g' e => by
  rw [h] at e
  cases e
  exact hl
theorem Kp.del {as : List Addr} {G G' : Gp} {f : Addr} (k : Kp as G G') (h : G f = none) : Kp as G (gdel G' f) := fun x g e n => by
  rw [gdel_ne (fun z => by rw [z, h] at e; cases e)]
  exact k x g e n
/-- a list is let go as it is returned -/
theorem RetC.lst {Q3 : K3} {f : Addr} {G : Gp} {xs : List D} (h : G f = some (.lst xs)) (q : Q3 (.lst xs) (gdel G f)) : RetC Q3 (.ref f) G :=
  ⟨.lst xs, gdel G f, sub_del h rfl, Fz.lst (sub_del h rfl) h gdel_same, q⟩
theorem whileRun2 {t : TT3} {tb : TS3} {D3 : Ends3} (I : Nat → St3 → Gp → Prop) {m : Nat} {δ : St3} {G : Gp} (h : I m δ G)
    (hs : ∀ m δ G, I m δ G → ∀ Nx : St3 → Gp → Prop, (∀ m' δ' G', m' < m → I m' δ' G' → Nx δ' G') → t δ G (fun b G1 => if b = true then tb { D3 with nx := Nx, ct := Nx, bk := D3.nx } δ G1 else D3.nx δ G1) (fun cls G1 => D3.ex cls δ G1)) : TWhile t tb D3 δ G :=
  whileRun I h fun m δ G h => hs m δ G h _ fun m' δ' G' l q => ⟨m', l, q⟩
theorem filter_range_ge (c n : Nat) : (List.range (c + n)).filter (fun j => decide (c ≤ j)) = (List.range n).map (c + ·) := by
  rw [List.range_add, List.filter_append]
  have h1 : (List.range c).filter (fun j => decide (c ≤ j)) = [] := by
    simp only [List.filter_eq_nil_iff, List.mem_range, decide_eq_true_eq]
    omega
  have h2 : ((List.range n).map (c + ·)).filter (fun j => decide (c ≤ j)) = (List.range n).map (c + ·) := by
    simp only [List.filter_eq_self, List.mem_map, decide_eq_true_eq]
    rintro a ⟨b, _, rfl⟩
    omega
  rw [h1, h2, List.nil_append]
theorem reverse_range_map {α : Type} (n : Nat) (g : Nat → α) : ((List.range n).map g).reverse = (List.range n).map fun k => g (n - 1 - k) := by
  apply List.ext_getElem
  · simp
  · intro i h1 h2
    simp [List.getElem_reverse]
theorem gset_self {G : Gp} {p : Addr} {o : GO} (h : G p = some o) : gset G p o = G := by
  funext b
  by_cases e : b = p
  · subst e; rw [gset_same, h]
  · rw [gset_ne e]
@[simp] theorem maxR_2 (i j : Int) (G : Gp) (Q : K3) : maxR [.int i, .int j] G Q = Q (.int (max i j)) G := rfl
@[simp] theorem minR_2 (i j : Int) (G : Gp) (Q : K3) : minR [.int i, .int j] G Q = Q (.int (min i j)) G := rfl
theorem minR_l {ns : List Int} {G : Gp} {Q : K3} (h : ns ≠ []) (q : Q (.int (minI ns)) G) : minR [.lst (ns.map .int)] G Q := ⟨rfl, ns, rfl, h, q⟩
theorem maxR_l {ns : List Int} {G : Gp} {Q : K3} (h : ns ≠ []) (q : Q (.int (maxI ns)) G) : maxR [.lst (ns.map .int)] G Q := ⟨rfl, ns, rfl, h, q⟩
theorem lcRunM {α : Type} {δ0 : St3} {g : TG3} {tt : TT3} {te : TE3} {G : Gp} {k : List D → Gp → Prop} (f : α → D) (p : α → Bool) (y : α → D) : ∀ (xs : List α) (acc : List D), (∀ x ∈ xs, LcStep δ0 g tt te G (f x) (p x) (y x)) → acc.length + xs.length ≤ sizeLine → k (acc ++ (xs.filter p).map y) G → LcRun δ0 g tt te (xs.map f) acc G k
  | [], acc, _, _, h => by simpa [LcRun] using h
  | x :: xs, acc, hs, hl, h => by
    have hl' : acc.length + xs.length + 1 ≤ sizeLine := by simpa [Nat.add_assoc] using hl
    refine hs x (List.mem_cons_self ..) _ _ (fun hp => ⟨by omega, ?_⟩) (fun hp => ?_)
    · refine lcRunM f p y xs (acc ++ [y x]) (fun x' hx => hs x' (List.mem_cons_of_mem _ hx)) (by simp; omega) ?_
      simpa [List.filter_cons, hp] using h
    · refine lcRunM f p y xs acc (fun x' hx => hs x' (List.mem_cons_of_mem _ hx)) (by omega) ?_
      simpa [List.filter_cons, hp] using h
/-! ### range with a step -/
def rangeC3 (i c : Int) (n : Nat) : List D := (List.range n).map fun (k : Nat) => D.int (i + (k : Int) * c)
section
variable {K : PySem.W.Frag} {Γ : Gm} {X : Cx} {W : WX} {a b c tg : Expr} {pos : Pos}
theorem walk_rngC {lo c : Int} {n : Nat} : Walk3 K Γ (Itc lo c n) (fun _ _ => True) (rangeC3 lo c n) where
  keep := fun _ _ _ _ _ h => h
  go := fun i H G hi _ _ => by
    show i < n
    simpa [rangeC3] using hi
  yld := fun i H G x H' hi _ R y => by
    obtain ⟨rfl, rfl⟩ := y
    have hi : i < n := by simpa [rangeC3] using hi
    exact ⟨Step.refl, R, .int (lo + (i : Int) * c), by simp [rangeC3, hi], rfl⟩
  stop := fun H G _ _ => by
    show n ≤ (rangeC3 lo c n).length
    simp [rangeC3]
@[simp] def IRng3 (t : TA3) : TI3 := fun δ G Q E => t δ G (fun ds G1 => match ds with | [.int i, .int j, .int c] => ∃ n, RgC i j c n ∧ Q (rangeC3 i c n) G1 | _ => False) E
theorem pi3_range3 {t : TA3} {p : Pos} (hg : Gl X "range") (hm : X.mg "range" = none) (ha : PA3 X Γ W [a, b, c] t) (hs : starEach [a, b, c] X.env = (false, eval a X.env) :: starEach [b, c] X.env := by rfl) (hpl : (backTo pos (starEach [b, c] X.env)).any (·.1) = false := by rfl) :
    PI3 X Γ W tg (.Call (.Name "range" p) [a, b, c] [] pos) (IRng3 t) := pi_imp (pi_range3 hg hm ha hs hpl) fun σ H R' hw => by
  obtain ⟨δ, G, Q3, E3, R, h1, k, ke⟩ := hw
  refine ⟨δ, G, _, E3, R, h1, fun ds vs G1 H1 s1 hp1 dl q => ?_, ke⟩
  split at q
  · obtain ⟨n, hr, q⟩ := q
    obtain ⟨v, r, rfl, rfl, l⟩ := dl
    obtain ⟨v2, v3, rfl, d2, d3⟩ := datL_two l
    exact ⟨_, _, _, n, by rw [show v2 = _ from d2, show v3 = _ from d3], hr, k _ _ _ G1 H1 s1 hp1 walk_rngC trivial q⟩
  · exact q.elim
end
theorem Kp.transN {as bs : List Addr} {G0 G G' : Gp} (k1 : Kp as G0 G) (k2 : Kp bs G G') (h : ∀ x ∈ bs, x ∈ as ∨ G0 x = none) : Kp as G0 G' := fun x g e n => k2 x g (k1 x g e n) fun z => by
  rcases h x z with q | q
  · exact n q
  · rw [q] at e; cases e
theorem RgC_pos {b c : Int} {n : Nat} (hb : 0 ≤ b) (hb' : b < 1073741824) (hc : 1 ≤ c) (hc' : c < 1073741824) (hn : (b + c - 1) / c = n) : RgC 0 b c n := by
  have h1 : (n : Int) ≤ b + c - 1 := by rw [← hn]; exact Int.ediv_le_self _ (by omega)
  refine ⟨by omega, by omega, ?_, by rw [rangeSize_pos hc hb, hn]⟩
  unfold Builtin.Range.small
  rw [rangeSize_pos hc hb, hn]
  simp only [Builtin.Range.rangeFitsLong, Bool.and_eq_true, Bool.or_eq_true, decide_eq_true_eq, beq_iff_eq, show c > 0 by omega, if_true]
  omega
end L3
/-! L3q: generator expressions whose elements are anything that we can walk. -/
namespace GX
open PySem PySem.Spec PyProof.Rows L2 GenW
/-- the frame of a generator expression: made at s, woken with A around it -/
def gcx (X : Cx) (A : Around) (outer : List Env) (N : List Str) (s : Shared) (H : Hp) (cenv : Env) (fp : List Addr) (pn : List (Addr × Obj)) (c : Code) : Cx :=
  { X with A := A.over c [], N := N, s_0 := s, H_0 := H, env := cenv, outer := outer, stack := cenv :: outer, ex := fp, fn := fun _ => false, calm := true, pn := pn, xe := fun _ _ => False }
/-- at a yield: what is out, the item; the consumer may change what it has pinned, and no more -/
def YG (X : Cx) (CR : List V → List (Addr × Obj) → Prop) (GO : V → Prop) (IP : List V → V → Hp → Prop) : Protocol := fun n s₀ v s kap =>
  ∃ ys y σ H cp ip, CR ys cp ∧ (n + ys.length = sizeLine ∧ ys.length < sizeLine) ∧ RelV y v ∧ IP ys y H ∧ Inv X (cp ++ ip) σ H s ∧ (∀ p ∈ ip, ∀ ys cp, CR ys cp → ∀ q ∈ cp, p.1 ≠ q.1) ∧ ∀ cp' s', CR (ys ++ [y]) cp' → GO y → Inv X (cp' ++ ip) σ H s' → kap (.send .none) s'
def RG (X : Cx) (CR : List V → List (Addr × Obj) → Prop) (EP : List V → Hp → Prop) : GenEnd := fun n s₀ r s => r = .ok .next ∧ ∃ ys σ H cp, CR ys cp ∧ (n + ys.length = sizeLine + 1 ∧ ys.length ≤ sizeLine) ∧ EP ys H ∧ Inv X cp σ H s
def tGx (wi : TI) (g : TG) (tt : TT) (te : TE) (vs : List Nat) (pick : L2.St → L2.St) (GO : V → Prop) (σ : L2.St) (H : Hp) (IP : List V → V → Hp → Prop) (EP : List V → Hp → Prop) : Prop :=
  wi σ H fun J H1 => ∃ W : Nat → Nat → List V → Hp → Prop, (∃ m, W 0 m [] H1) ∧ ∀ i m ys H, W i m ys H →
    (J.stop i H ∧ EP ys H) ∨ (J.go i H ∧ ∃ Nx : List V → Hp → Prop, (∀ ys' H', Nx ys' H' → ∃ m', m' < m ∧ W (i + 1) m' ys' H') ∧ ∀ x H', J.yld i H x H' → g x (pick σ) H' fun σ2 H2 => wipe σ2 vs = pick σ ∧ tt σ2 H2 fun b H3 =>
      if b = true then te σ2 H3 fun y H4 => ys.length < sizeLine ∧ IP ys y H4 ∧ (GO y → Nx (ys ++ [y]) H4) else Nx ys H3)
section
variable {X : Cx} {A : Around} {outer : List Env} {N : List Str} {s0 : Shared} {H0 : Hp} {cenv : Env} {fp : List Addr} {pn : List (Addr × Obj)}
/-- the loop -/
theorem seg_loop {elt tg iter : Expr} {ifs : List Expr} {scope : Scope} {pos : Pos} {it : Addr} {J : It} {tn : Nat → Heap → Prop} {g : TG} {tt : TT} {te : TE} {vs : List Nat} {σ0 : L2.St} {CR : List V → List (Addr × Obj) → Prop} {GO : V → Prop} {IP : List V → V → Hp → Prop} {EP : List V → Hp → Prop}
    (hpf : ∀ p ∈ pn, p.1 ∉ fp) (hcf : ∀ ys cp, CR ys cp → ∀ p ∈ cp, p.1 ∉ fp) (hh : A.handled = none) (hco : cenv.scope.isCoroutine = false) (T : Turn X.prog X.w X.K tg J fp it tn)
    (hg : PG (gcx X A outer N s0 H0 cenv fp pn (.compLoop (.GeneratorExp elt [⟨tg, iter, ifs, 0⟩] scope pos) 0 (.ref it) .none cenv)) tg g) (ht : PTs (gcx X A outer N s0 H0 cenv fp pn (.compLoop (.GeneratorExp elt [⟨tg, iter, ifs, 0⟩] scope pos) 0 (.ref it) .none cenv)) ifs tt)
    (he : PE (gcx X A outer N s0 H0 cenv fp pn (.compLoop (.GeneratorExp elt [⟨tg, iter, ifs, 0⟩] scope pos) 0 (.ref it) .none cenv)) elt te)
    (W : Nat → Nat → List V → Hp → Prop)
    (turn : ∀ i m ys H, W i m ys H → (J.stop i H ∧ EP ys H) ∨ (J.go i H ∧ ∃ Nx : List V → Hp → Prop, (∀ ys' H', Nx ys' H' → ∃ m', m' < m ∧ W (i + 1) m' ys' H') ∧ ∀ x H', J.yld i H x H' → g x σ0 H' fun σ2 H2 => wipe σ2 vs = σ0 ∧ tt σ2 H2 fun b H3 =>
      if b = true then te σ2 H3 fun y H4 => ys.length < sizeLine ∧ IP ys y H4 ∧ (GO y → Nx (ys ++ [y]) H4) else Nx ys H3)) :
    ∀ (m i n : Nat) (ys : List V) (s₀ s : Shared) (H : Hp) (cp : List (Addr × Obj)), (n + ys.length = sizeLine + 1 ∧ ys.length ≤ sizeLine) → W i m ys H → tn i s.heap → (∀ b ∈ fp, H b = none) → CR ys cp →
      Inv (gcx X A outer N s0 H0 cenv fp pn (.compLoop (.GeneratorExp elt [⟨tg, iter, ifs, 0⟩] scope pos) 0 (.ref it) .none cenv)) cp σ0 H s →
      Seg (model X.prog X.w) A (RG (gcx X A outer N s0 H0 cenv fp pn (.compLoop (.GeneratorExp elt [⟨tg, iter, ifs, 0⟩] scope pos) 0 (.ref it) .none cenv)) CR EP)
        (YG (gcx X A outer N s0 H0 cenv fp pn (.compLoop (.GeneratorExp elt [⟨tg, iter, ifs, 0⟩] scope pos) 0 (.ref it) .none cenv)) CR GO IP) n s₀
        (.compLoop (.GeneratorExp elt [⟨tg, iter, ifs, 0⟩] scope pos) 0 (.ref it) .none cenv)
        ((model X.prog X.w).den (.compLoop (.GeneratorExp elt [⟨tg, iter, ifs, 0⟩] scope pos) 0 (.ref it) .none cenv)) [] s := by
  generalize hcode : (Code.compLoop (.GeneratorExp elt [⟨tg, iter, ifs, 0⟩] scope pos) 0 (.ref it) .none cenv) = code at *
  intro m
  induction m using Nat.strongRecOn with
  | ind m ih =>
    intro i n ys s₀ s H cp hn w st nf hca I
    have nin : ∀ {ys : List V} {cq : List (Addr × Obj)}, CR ys cq → ∀ p ∈ pn ++ cq, p.1 ∉ fp := fun {ys cq} e p hp => (List.mem_append.mp hp).elim (hpf p) fun z => hcf _ _ e p z
    have ncp := nin hca
    have stat : ∀ {cp' : List (Addr × Obj)} {σ' : L2.St} {H' : Hp} {s' : Shared}, (∀ p ∈ pn ++ cp', p.1 ∉ fp) → Inv (gcx X A outer N s0 H0 cenv fp pn code) cp' σ' H' s' → (∀ b ∈ fp, H' b = none) → ∀ b ∈ fp, FpOk (gcx X A outer N s0 H0 cenv fp pn code) cp' H' b := fun {cp' σ' H' s'} hp I' hn b hb =>
      ⟨hn b hb, (I'.ok.exf b hb).1, I'.ok.exfs b hb, .inl hb, fun x c e => (I'.ok.exf b hb).2 x c e, fun p hq z => hp p hq (by rw [z]; exact hb)⟩
    subst hcode
    show Seg _ A _ _ _ s₀ _ ((compTurn (.GeneratorExp elt [⟨tg, iter, ifs, 0⟩] scope pos) 0 (.ref it) .none cenv).onRaise (leaving cenv)) [] s
    rw [compTurn_gen, Sem.onRaise_eq_wrap]
    refine seg_bind_wrap (wpAny_standAt ?_)
    rcases turn i m ys H w with ⟨stop, qq⟩ | ⟨go, Nx, hNx, step⟩
    · have td := T.done (gcx X A outer N s0 H0 cenv fp pn _) rfl rfl rfl rfl i cp s _ H (fun _ _ => False) I (stat ncp I nf) st stop
      refine seg_bind_wrap (wpAny_mono td (fun r s6 ⟨hr, I6⟩ => ?_) fun _ _ z => z.elim)
      subst hr
      exact seg_end (.ok .next) ⟨rfl, ys, σ0, H, cp, hca, hn, qq, I6⟩
    · have ti := T.item (gcx X A outer N s0 H0 cenv fp pn _) rfl rfl rfl rfl i cp s _ H (fun _ _ => False) I (stat ncp I nf) st go
      refine seg_bind_wrap (wpAny_mono ti (fun r s6 ⟨u, hr, h6⟩ => ?_) fun _ _ z => z.elim)
      subst hr
      refine seg_bind_wrap (wpAny_mono h6 (fun _ s7 ⟨x, H7, I7, r7, y7, st7, n7⟩ => ?_) fun _ _ z => z.elim)
      have I7' := I7.pinned (stat ncp I7 n7) (T.obj _ _ st7)
      refine seg_bind_wrap (wpAny_mono (hg.run _ s7 _ H7 x u _ I7' r7 (step x H7 y7)) (fun _ s8 ⟨σ8, H8, I8, hw8, q8⟩ => ?_) fun _ _ z => z.elim)
      refine seg_bind_wrap (wpAny_mono (ht.run _ s8 σ8 H8 _ I8 q8) (fun b s9 ⟨H9, I9, q9⟩ => ?_) fun _ _ z => z.elim)
      have fin : ∀ {s' : Shared} {H' : Hp} {ys' : List V} {n' : Nat} {s₀' : Shared} {cq : List (Addr × Obj)}, CR ys' cq → Inv (gcx X A outer N s0 H0 cenv fp pn (.compLoop (.GeneratorExp elt [⟨tg, iter, ifs, 0⟩] scope pos) 0 (.ref it) .none cenv)) (cq ++ pinsAt fp s7.heap) σ8 H' s' → (n' + ys'.length = sizeLine + 1 ∧ ys'.length ≤ sizeLine) → Nx ys' H' →
          Seg (model X.prog X.w) A (RG (gcx X A outer N s0 H0 cenv fp pn (.compLoop (.GeneratorExp elt [⟨tg, iter, ifs, 0⟩] scope pos) 0 (.ref it) .none cenv)) CR EP) (YG (gcx X A outer N s0 H0 cenv fp pn (.compLoop (.GeneratorExp elt [⟨tg, iter, ifs, 0⟩] scope pos) 0 (.ref it) .none cenv)) CR GO IP) n' s₀'
            (.compLoop (.GeneratorExp elt [⟨tg, iter, ifs, 0⟩] scope pos) 0 (.ref it) .none cenv) ((model X.prog X.w).den (.compLoop (.GeneratorExp elt [⟨tg, iter, ifs, 0⟩] scope pos) 0 (.ref it) .none cenv)) [] s' := by
        intro s' H' ys' n' s₀' cq hq I' hn' nx
        obtain ⟨m', hm, w'⟩ := hNx ys' H' nx
        have pin' : ∀ b ∈ fp, ∀ o, s7.heap.get? b = some o → s'.heap.get? b = some o ∧ H' b = none := fun b hb o e =>
          let z := I'.pin (b, o) (List.mem_append_right _ (List.mem_append_right _ (mem_pinsAt hb e)))
          ⟨z.1, z.2.1⟩
        have hl : σ0.length = σ8.length := by rw [← hw8, wipe_length]
        refine ih m' hm (i + 1) n' ys' s₀' s' H' cq hn' w' (T.keep _ _ _ st7 fun b hb o e => (pin' b hb o e).1) (fun b hb => ?_) hq ((I'.unpinned (pins := cq)).weak hl fun j v e => ?_)
        · obtain ⟨o, e, _⟩ := T.obj _ _ st7 b hb
          exact (pin' b hb o e).2
        · rw [← hw8] at e
          exact (wipe_some e).1
      cases b with
      | false =>
        simp only [Bool.false_eq_true, if_false] at q9 ⊢
        exact seg_again rfl (fin hca I9 hn q9)
      | true =>
        simp only [if_true] at q9 ⊢
        have hy : ∀ v, yieldOut cenv v = yieldValue v := fun v => by simp only [yieldOut, hco, Bool.false_eq_true, if_false]
        simp only [hy]
        rw [Sem.bind_eq_wrap', Sem.bind_eq_wrap', Sem.wrap_wrap, Sem.wrap_wrap]
        refine seg_wrap (wpAny_mono (he.run _ s9 σ8 H9 _ I9 q9) (fun v s10 ⟨yv, H10, I10, r10, hz, ip, nx⟩ => ?_) fun _ _ z => z.elim)
        obtain ⟨n1, rfl⟩ : ∃ n1, n = n1 + 1 := ⟨n - 1, by omega⟩
        have hn1 : n1 + ys.length = sizeLine := by omega
        refine seg_at (seg_yield rfl rfl rfl ⟨ys, yv, σ8, H10, cp, pinsAt fp s7.heap, hca, ⟨hn1, hz⟩, r10, ip, I10, fun p hp ys cp hc q hq z => hcf ys cp hc q hq (by rw [← z]; exact (of_pinsAt hp).1), fun cp' s' hc hgo I' => ?_⟩)
        exact seg_again rfl (fin hc I' (by rw [List.length_append]; simp only [List.length_cons, List.length_nil]; omega) (nx hgo))
/-- the frame's code from its beginning -/
theorem seg_begin {elt tg iter : Expr} {ifs : List Expr} {scope : Scope} {pos : Pos} {it : Addr} {J : It} {tn : Nat → Heap → Prop} {R : GenEnd} {Y : Protocol} {n : Nat} {s₀ s : Shared} (T : Turn X.prog X.w X.K tg J fp it tn) (st : tn 0 s.heap)
    (loop : Seg (model X.prog X.w) A R Y n s₀ (.compLoop (.GeneratorExp elt [⟨tg, iter, ifs, 0⟩] scope pos) 0 (.ref it) .none cenv) ((model X.prog X.w).den (.compLoop (.GeneratorExp elt [⟨tg, iter, ifs, 0⟩] scope pos) 0 (.ref it) .none cenv)) [] s) :
    Seg (model X.prog X.w) A R Y n s₀ (.compStart (.GeneratorExp elt [⟨tg, iter, ifs, 0⟩] scope pos) 0 (.ref it) .none cenv) ((model X.prog X.w).den (.compStart (.GeneratorExp elt [⟨tg, iter, ifs, 0⟩] scope pos) 0 (.ref it) .none cenv)) [] s := by
  show Seg _ A _ _ _ s₀ _ ((compStart (.GeneratorExp elt [⟨tg, iter, ifs, 0⟩] scope pos) 0 (.ref it) .none cenv).onRaise (leaving cenv)) [] s
  unfold compStart
  rw [Sem.onRaise_eq_wrap]
  show Seg _ A _ _ _ s₀ _ ((ask >>= _).wrap _ _ _ _) [] s
  refine seg_bind_wrap (wpAny_askSetting ?_)
  split
  · exact seg_again rfl loop
  · first
      | exact seg_bind_wrap (wpAny_rule (seg_bind_wrap (wpAny_standAt (seg_bind_wrap (T.self _ 0 s _ _ st (seg_again rfl loop))))))
      | (refine seg_bind_wrap (wpAny_rule ?_); show Seg _ A _ _ _ s₀ _ ((standAt iter.pos >>= _).wrap _ _ _ _) [] s; exact seg_bind_wrap (wpAny_standAt (seg_bind_wrap (T.self _ 0 s _ _ st (seg_again rfl loop)))))
end
end GX
/-! L3r: a generator expression's frame at its beginning. -/
namespace GX
open PySem PySem.Spec PyProof.Rows L2 GenW
structure GenOk (N : List Str) (sc scope : Scope) (own : List (Str × Nat)) : Prop extends BlkOk N sc scope own where
  nocell : ∀ y ∈ scope.names, y.2 ≠ .cell
  co : scope.isCoroutine = false
  dot : scope.names.lookup (".0" : Str) = some .local
def pick (σ : L2.St) (extra : List Str) (vs : List Nat) : L2.St := wipe (σ ++ extra.map fun _ => none) vs
section
variable {X : Cx} {A : Around} {pins : List (Addr × Obj)} {σ : L2.St} {H : Hp} {s s2 : Shared}
theorem gx_start {scope : Scope} {own : List (Str × Nat)} {extra : List Str} {fp : List Addr} {pn cp : List (Addr × Obj)} {code : Value} {c : Code} {m : Str → Option Value} {bi : Addr} (I : Inv X pins σ H s) (ok : GenOk (X.N ++ extra) X.env.scope scope own) (hN : (X.N ++ extra).Nodup)
    (hfp : ∀ b ∈ fp, FpOk X pins H b ∧ b < s.heap.objs.size) (hh : A.handled = none) (hfr : A.frames = some X.stack) (hbi : bi = builtinsNs) (hc : c.envs = [genEnv scope (cloFrom X.env.cells scope.names []) s.heap.objs.size code bi X.env])
    (kp : ∀ b o, s.heap.get? b = some o → s2.heap.get? b = some o) (hns : s2.heap.Ns s.heap.objs.size m) (os : s2.os = s.os) (hb : AllBare s2.gens)
    (hpin : ∀ p ∈ pn ++ cp, s2.heap.get? p.1 = some p.2 ∧ s.heap.objs.size < p.1 ∧ ∀ v, p.2.data ≠ .cell v) :
    Inv (gcx X A X.stack (X.N ++ extra) s H (genEnv scope (cloFrom X.env.cells scope.names []) s.heap.objs.size code bi X.env) fp pn c) cp (pick σ extra (own.map (·.2))) H s2 := by
  have hfree : ∀ y ∈ scope.names, y.2 = .free → ∃ c, X.env.cells.lookup y.1 = some c := fun y hy e => by
    rcases ok.free y hy e with k | k
    · exact I.ok.has _ (.inl k)
    · exact I.ok.has _ (.inr k)
  have cm : ∀ {y c}, (cloFrom X.env.cells scope.names []).lookup y = some c → X.env.cells.lookup y = some c ∧ c < s.heap.objs.size := fun {y c} e => by
    rcases cloFrom_mem (PySem.mem_of_lookup e) with hm | ⟨h1, h2⟩
    · cases hm
    · obtain ⟨c1, hc1⟩ := hfree _ h1 rfl
      have hc1 : X.env.cells.lookup y = some c1 := hc1
      have e2 : c = c1 := by
        rw [h2, hc1] <;> rfl
      rw [e2]
      obtain ⟨w, z⟩ := I.cell _ _ hc1
      exact ⟨hc1, z.lt⟩
  have look : ∀ {y}, scope.names.lookup y = some .free → ∃ c, (cloFrom X.env.cells scope.names []).lookup y = some c := fun {y} hl => by
    have hy : (y, NameKind.free) ∈ scope.names := PySem.mem_of_lookup hl
    exact mem_lookup (cloFrom_has (cells := X.env.cells) (acc := []) hy)
  have nocell : ∀ {y}, scope.names.lookup y ≠ some .cell := fun {y} h => ok.nocell _ (PySem.mem_of_lookup h) rfl
  have frames : (A.over c []).frames = some (genEnv scope (cloFrom X.env.cells scope.names []) s.heap.objs.size code bi X.env :: X.stack) := by
    show pushEnvs c.envs (pushEnvs (envsOf []) A.frames) = _
    rw [hc, hfr]
    rfl
  refine ⟨⟨I.ok.mod, ok.kind, I.ok.glob, hbi, Nat.le_refl _, fun y z d e1 e2 => I.ok.inj y z d (cm e1).1 (cm e2).1, fun y hy => ?_, fun y d z _ => ?_, fun _ => hh, frames, .inr ⟨rfl, rfl⟩, fun b hb => ⟨Nat.ne_of_lt (hfp b hb).2, fun y d e z => (hfp b hb).1.2.2.2.2.1 y d (cm e).1 z⟩,
      I.bs, Nat.le_trans I.ok.bsz I.sz, fun b o e hb => ?_, fun b hb z => ?_, I.stack, I.stkFree⟩,
    os, hb, Un.kept kp, ⟨_, hns, fun i y v e1 e2 e3 => ?_⟩, fun y d e => ?_, I.hok.fresh (Nat.le_refl _), fun y d e => I.freeC y d (cm e).1, fun p hp => ?_, I.hok.kept kp, ?_⟩
  · have hy : scope.names.lookup y = some .cell ∨ scope.names.lookup y = some .free := hy
    rcases hy with hy | hy
    · exact absurd hy nocell
    · exact look hy
  · have z : false = true := z
    cases z
  · rcases (hfp b hb).1.2.2.2.1 with z | z
    · exact I.ok.noex b o e z
    · exact absurd (Nat.lt_of_lt_of_le (Heap.lt_size e) (Nat.le_trans I.ok.bsz z)) (Nat.lt_irrefl _)
  · rcases List.mem_cons.mp (I.stkSub b z) with z | z
    · exact (hfp b hb).1.2.1 z
    · exact (hfp b hb).1.2.2.1 z
  · have e1 : (X.N ++ extra)[i]? = some y := e1
    obtain ⟨e2, hne⟩ := wipe_some e2
    have hi : i < σ.length := by
      by_cases h : i < σ.length
      · exact h
      · rw [List.getElem?_append_right (Nat.le_of_not_lt h), List.getElem?_map] at e2
        cases q : extra[i - σ.length]? with
        | none => rw [q] at e2; cases e2
        | some z => rw [q] at e2; cases e2
    rw [List.getElem?_append_left hi] at e2
    have e1' : X.N[i]? = some y := by
      rw [← e1, List.getElem?_append_left (by rw [← I.len]; exact hi)]
    have e3 : Vis scope y := e3
    have no : ¬ (scope.names.lookup y = some .local ∨ scope.names.lookup y = some .cell) := fun hh => by
      have hm : ∃ k, (y, k) ∈ scope.names ∧ (k = .local ∨ k = .cell) := hh.elim (fun h => ⟨_, PySem.mem_of_lookup h, .inl rfl⟩) fun h => ⟨_, PySem.mem_of_lookup h, .inr rfl⟩
      obtain ⟨k, hm, hk⟩ := hm
      rcases ok.own _ hm hk with e' | e'
      · obtain ⟨p, hp, hpy⟩ := List.mem_map.mp e'
        have e3 := ok.ix p hp
        have : p.1 = y := hpy
        rw [this] at e3
        exact hne (List.mem_map.mpr ⟨p, hp, nodup_ix hN e3 e1⟩)
      · exact e' (List.mem_of_getElem? e1)
    have hf : scope.names.lookup y = some .free := by
      rcases e3 with k | k | k
      · exact absurd (.inl k) no
      · exact absurd (.inr k) no
      · exact k
    obtain ⟨m', hn, hl⟩ := I.loc
    have hvis : Vis X.env.scope y := (ok.free _ (PySem.mem_of_lookup hf) rfl).elim (fun k => .inr (.inl k)) (fun k => .inr (.inr k))
    obtain ⟨w', r, q⟩ := hl i y v e1' e2 hvis
    obtain ⟨c2, h2⟩ := look hf
    refine ⟨w', r, .inr ⟨.inr hf, c2, h2, ?_⟩⟩
    have c1 := (cm h2).1
    rcases q with ⟨k', _⟩ | ⟨_, c3, e', z⟩
    · have k' : X.env.scope.names.lookup y = some .local := k'
      rcases ok.free _ (PySem.mem_of_lookup hf) rfl with k2 | k2 <;> rw [show X.env.scope.names.lookup y = _ from k2] at k' <;> cases k'
    · rw [c1] at e'
      cases e'
      exact z.keeps kp
  · obtain ⟨w', z⟩ := I.cell y d (cm e).1
    exact ⟨w', z.keeps kp⟩
  · obtain ⟨h1, h2, h3⟩ := hpin p hp
    refine ⟨h1, I.hok.fresh (Nat.le_of_lt h2), Nat.ne_of_gt h2, fun z => ?_, h3⟩
    rcases List.mem_cons.mp (I.stkSub p.1 z) with z | z
    · exact absurd (Nat.lt_trans I.lt h2) (by rw [z]; exact Nat.lt_irrefl _)
    · exact I.nofs (Nat.le_of_lt h2) z
  · unfold pick
    rw [wipe_length, List.length_append, List.length_map, I.len]
    exact List.length_append.symm
end
end GX
/-! L3s: a generator expression is made. -/
namespace GX
open PySem PySem.Spec PyProof.Rows L2 GenW LamX
section
variable {X : Cx} {pins : List (Addr × Obj)} {σ : L2.St} {H : Hp} {s : Shared}
/-- the code object of the generator expression at pos: found in the def's table, or made and put there -/
theorem gx_code {T : List (Addr × Str)} {c P : Addr} {scope : Scope} {pos : Pos} {q : Str} {E : Value → Shared → Prop} {Q : Value → Shared → Prop} (I : Inv X pins σ H s) (TB : LamX.TabB X.base X.mg c P) (hcode : X.env.code = .ref c)
    (hm : (P, q) ∈ T) (hu : ∀ p ∈ T, p.1 = P → p.2 = q) (hT : Tabs T H)
    (h : ∀ (cv : Value) (H1 : Hp) (s' : Shared), ExtN H H1 → Tabs T H1 → Inv X pins σ H1 s' → (∀ b o, b ≠ P → s.heap.get? b = some o → s'.heap.get? b = some o) → (∀ b o, s.heap.get? b = some o → H b = none → H1 b = none) → (∃ o, s.heap.get? P = some o) → H P ≠ none → s.heap.objs.size ≤ s'.heap.objs.size → Q cv s') :
    wpAny (model X.prog X.w) X.A (genexprCode X.env pos q scope) Q E s := by
  obtain ⟨ps, tP, tri, told⟩ := hT _ hm
  have oP : s.heap.get? P = some { cls := .none, data := .fields ps } := I.hok P _ tP
  have cod := TB.code.keeps I.bk
  cases hc : codeAmong pos ps.toList with
  | some cv =>
    refine wpAny_genexprCode_hit hcode (cod.code oP tri) hc ?_
    exact h cv H s (ExtN.refl H) hT I (fun _ _ _ e => e) (fun _ _ _ n => n) ⟨_, oP⟩ (by rw [tP]; simp) (Nat.le_refl _)
  | none =>
    refine wpAny_genexprCodeX hcode (cod.code oP tri) (cod.tab oP) hc fun c' h' tk keep ge lt hco' rec tab _ => ?_
    obtain ⟨c2, oc, vs, t, e2, o2, d2, v2⟩ := rec
    cases e2
    have nC : H c' = none := I.hok.fresh ge
    have nPc : P ≠ c' := ne_of_none tP nC
    have I0 := LamX.inv_table (t' := tk) (q := q) (more := #[rawInt pos.line, rawInt pos.col, .ref c']) I tP keep tab.2 ge ⟨oc, vs, t, o2, d2, v2⟩
    have list : (ps ++ #[rawInt pos.line, rawInt pos.col, .ref c']).toList = ps.toList ++ [rawInt pos.line, rawInt pos.col, .ref c'] := by simp
    have eN : ExtN H (upd (upd H P (.tbl (ps ++ #[rawInt pos.line, rawInt pos.col, .ref c']))) c' (CodeO c' q)) := fun b o e n => by
      have b1 : b ≠ c' := ne_of_none e nC
      have b2 : b ≠ P := fun z => by
        subst z
        rw [tP] at e
        exact n ps (Option.some.inj e).symm
      rw [upd_ne b1, upd_ne b2]
      exact e
    refine h _ _ _ eN (fun p hp => ?_) I0 keep (fun b o e n => (upd_ne (fun z => absurd (Heap.lt_size e) (by rw [z]; exact Nat.not_lt.mpr ge))).trans ((upd_ne (fun z => by rw [z, tP] at n; cases n)).trans n)) ⟨_, oP⟩ (by rw [tP]; simp) (Nat.le_trans ge (Nat.le_of_lt lt))
    by_cases hb : p.1 = P
    · rw [hu p hp hb, hb]
      refine ⟨_, (upd_ne nPc).trans upd_same, list ▸ PySem.TriplesOk_snoc _ _ _ _ tri, fun p' cv hcv => ?_⟩
      rw [list] at hcv
      rcases LamX.among_app _ tri hcv with z | z
      · obtain ⟨c0, r1, r2⟩ := told p' cv z
        exact ⟨c0, r1, eN _ _ r2 LamX.codeO_ne⟩
      · exact ⟨c', z, upd_same⟩
    · obtain ⟨qs, r1, r2, r3⟩ := hT p hp
      refine ⟨qs, (upd_ne (ne_of_none r1 nC)).trans ((upd_ne hb).trans r1), r2, fun p' cv hcv => ?_⟩
      obtain ⟨c0, r4, r5⟩ := r3 p' cv hcv
      exact ⟨c0, r4, eN _ _ r5 LamX.codeO_ne⟩
end
theorem over_comp {A : Around} {elt : Expr} {gs : List Comprehension} {scope : Scope} {pos : Pos} {it acc : Value} {env : Env} : A.over (.compLoop (.GeneratorExp elt gs scope pos) 0 it acc env) [] = A.deeper env := by
  first
    | rfl
    | (obtain ⟨hd, d, fr, gs, u⟩ := A; simp [Around.over, Around.deeper, marksOver, frameCount, unitsOf, envsOf, guardsOf, pushEnvs, pushGuards, Code.envs, Code.env?, Code.isFrame, Code.guards, Code.isGuard, Code.weight, Code.frames, Code.isCreation, Code.isCaller, Code.cUnits])
theorem envs_comp {elt : Expr} {gs : List Comprehension} {scope : Scope} {pos : Pos} {it acc : Value} {env : Env} : (Code.compLoop (.GeneratorExp elt gs scope pos) 0 it acc env).envs = [env] := by
  first
    | rfl
    | simp [Code.envs, Code.env?, Code.isFrame]
/-- a generator has been made, its frame not begun: it runs for whoever wakes it -/
def GxMade (X : Cx) (pins : List (Addr × Obj)) (σ : L2.St) (k : Nat) (GO : V → Prop) (IP : List V → V → Hp → Prop) (EP : List V → Hp → Prop) (u : Value) (s' : Shared) : Prop :=
  ∃ (a : Addr) (g : Nat) (c : Code) (sc : Shared) (H1 : Hp) (fp : List Addr) (go : Obj), u = .ref a ∧ Inv X pins σ H1 sc ∧ (∀ b ∈ fp, FpOk X pins H1 b ∧ b < sc.heap.objs.size) ∧ sc.heap.objs.size < a ∧ a < s'.heap.objs.size ∧ s'.heap.get? a = some go ∧ (∀ h : Heap, h.get? a = some go → h.IsGen a g) ∧
    s'.gens[g]? = some (.fresh c) ∧ s'.os = sc.os ∧ AllBare s'.gens ∧ (∀ b o, sc.heap.get? b = some o → s'.heap.get? b = some o) ∧
    ∀ (A : Around) (CR : List V → List (Addr × Obj) → Prop) (cp : List (Addr × Obj)) (s2 : Shared), CR [] cp → (∀ ys cp, CR ys cp → ∀ p ∈ cp, s'.heap.objs.size ≤ p.1) → Room k A → A.frames = some X.stack → (∀ p ∈ cp, s2.heap.get? p.1 = some p.2 ∧ s'.heap.objs.size ≤ p.1 ∧ ∀ v, p.2.data ≠ .cell v) → (∀ b o, s'.heap.get? b = some o → s2.heap.get? b = some o) → s2.os = sc.os → AllBare s2.gens →
      ∃ Xg : Cx, Xg.prog = X.prog ∧ Xg.w = X.w ∧ Xg.s_0 = sc ∧ Xg.H_0 = H1 ∧ Xg.ex = fp ∧ Xg.outer = X.stack ∧ Xg.pn = [(a, go)] ∧ Xg.env.locals = sc.heap.objs.size ∧ (∀ x d, Xg.env.cells.lookup x = some d → d < sc.heap.objs.size) ∧
        Seg (model X.prog X.w) A (RG Xg CR EP) (YG Xg CR GO IP) (sizeLine + 1) s2 c ((model X.prog X.w).den c) [] s2
def tGxT (T : List (Addr × Str)) (wi : TI) (g : TG) (tt : TT) (te : TE) (vs : List Nat) (extra : List Str) (GO : V → Prop) (σ : L2.St) (H : Hp) (IP : List V → V → Hp → Prop) (EP : List V → Hp → Prop) : Prop :=
  wi σ H fun J H1 => Tabs T H1 ∧ ∀ H2, ExtN H1 H2 → Tabs T H2 → ∃ W : Nat → Nat → List V → Hp → Prop, (∃ m, W 0 m [] H2) ∧ ∀ i m ys H, W i m ys H →
    (J.stop i H ∧ EP ys H) ∨ (J.go i H ∧ ∃ Nx : List V → Hp → Prop, (∀ ys' H', Nx ys' H' → ∃ m', m' < m ∧ W (i + 1) m' ys' H') ∧ ∀ x H', J.yld i H x H' → g x (pick σ extra vs) H' fun σ2 H2 => wipe σ2 vs = pick σ extra vs ∧ tt σ2 H2 fun b H3 =>
      if b = true then te σ2 H3 fun y H4 => ys.length < sizeLine ∧ IP ys y H4 ∧ (GO y → Nx (ys ++ [y]) H4) else Nx ys H3)
section
variable {X : Cx} {pins : List (Addr × Obj)} {σ : L2.St} {H : Hp} {s : Shared}
theorem gx_eval {T : List (Addr × Str)} {c P : Addr} {elt tg iter : Expr} {ifs : List Expr} {scope : Scope} {own : List (Str × Nat)} {extra : List Str} {pos : Pos} {wi : TI} {g : TG} {tt : TT} {te : TE} {k : Nat} {GO : V → Prop} {IP : List V → V → Hp → Prop} {EP : List V → Hp → Prop}
    (hh : X.A.handled = none) (hd : X.A.depth < recursionLimit) (TB : LamX.TabB X.base X.mg c P) (hcode : X.env.code = .ref c) (hm : (P, X.env.qual ++ "<genexpr>") ∈ T) (hu : ∀ p ∈ T, p.1 = P → p.2 = X.env.qual ++ "<genexpr>")
    (hN : (X.N ++ extra).Nodup) (hi : PI X tg iter wi) (ok : GenOk (X.N ++ extra) X.env.scope scope own) (hs : ∀ v, genFold iter X.env v = pure v)
    (hg : ∀ (A : Around) (s : Shared) (H : Hp) (cl : List (Str × Addr)) (L : Addr) (cv : Value) (fp : List Addr) (pn : List (Addr × Obj)) (c : Code), Room k (A.over c []) → PG (gcx X A X.stack (X.N ++ extra) s H (genEnv scope cl L cv builtinsNs X.env) fp pn c) tg g)
    (ht : ∀ (A : Around) (s : Shared) (H : Hp) (cl : List (Str × Addr)) (L : Addr) (cv : Value) (fp : List Addr) (pn : List (Addr × Obj)) (c : Code), Room k (A.over c []) → PTs (gcx X A X.stack (X.N ++ extra) s H (genEnv scope cl L cv builtinsNs X.env) fp pn c) ifs tt)
    (he : ∀ (A : Around) (s : Shared) (H : Hp) (cl : List (Str × Addr)) (L : Addr) (cv : Value) (fp : List Addr) (pn : List (Addr × Obj)) (c : Code), Room k (A.over c []) → PE (gcx X A X.stack (X.N ++ extra) s H (genEnv scope cl L cv builtinsNs X.env) fp pn c) elt te)
    (I : Inv X pins σ H s) (hw : tGxT T wi g tt te (own.map (·.2)) extra GO σ H IP EP) :
    wpAny (model X.prog X.w) X.A (eval (.GeneratorExp elt [⟨tg, iter, ifs, 0⟩] scope pos) X.env) (GxMade X pins σ (k + 1) GO IP EP) X.xe s := by
  have hfree : ∀ y ∈ scope.names, y.2 = .free → ∃ c, X.env.cells.lookup y.1 = some c := fun y hy e => by
    rcases ok.free y hy e with k | k
    · exact I.ok.has _ (.inl k)
    · exact I.ok.has _ (.inr k)
  refine wpAny_GeneratorExp_make ok.co (closure_ok hfree) ok.nocell ok.dot ok.kind hd (thn (hi.run pins s σ H _ I hw) fun xv s1 hx => thn hx fun itv s2 h2 => ?_) hs
  obtain ⟨it, fp, tn, J, H2, e, I2, Tn, st2, f2, hT2, q⟩ := h2
  subst e
  refine ⟨I2.nolimit, ?_⟩
  refine gx_code I2 TB hcode hm hu hT2 fun cv H3 s3 eN hT3 I3 kp3 nn3 hP nP sz3 => ?_
  have sz : ∀ b ∈ fp, b < s2.heap.objs.size := fun b hb => by
    obtain ⟨o, e, _⟩ := Tn.obj _ _ st2 b hb
    exact Heap.lt_size e
  have fpk : ∀ b ∈ fp, ∀ o, s2.heap.get? b = some o → s3.heap.get? b = some o := fun b hb o e => kp3 b o (fun z => nP (by rw [← z]; exact (f2 b hb).1)) e
  have f3 : ∀ b ∈ fp, FpOk X pins H3 b ∧ b < s3.heap.objs.size := fun b hb => by
    obtain ⟨o, e, _⟩ := Tn.obj _ _ st2 b hb
    exact ⟨⟨nn3 b o e (f2 b hb).1, (f2 b hb).2⟩, Nat.lt_of_lt_of_le (sz b hb) sz3⟩
  have st3 : tn 0 s3.heap := Tn.keep _ _ _ st2 fpk
  obtain ⟨W, ⟨m0, w0⟩, turn⟩ := q H3 eN hT3
  obtain ⟨bm, ob, e1, e2, e3, e4, e5, e6, e7, e8⟩ := TB.bm
  refine wpAny_builtinsFor (m := X.mg) (by rw [I3.ok.glob]; exact I3.ok.mod.glob.keeps I3.bk) e1 e2 (I3.bk _ _ e5) e6 e7 e8 ?_
  intro h' hn hsb
  have szh : h'.objs.size = s3.heap.objs.size + 1 := by rw [hsb.1, Heap.size_push]
  have kh : ∀ b o, s3.heap.get? b = some o → h'.get? b = some o := fun b o e => hsb.extBut b o (Nat.ne_of_lt (Heap.lt_size e)) (Heap.get?_push_of_some _ e)
  have kg : ∀ (go : Obj) b o, s3.heap.get? b = some o → (h'.push go).get? b = some o := fun go b o e => Heap.get?_push_of_some _ (kh b o e)
  refine ⟨h'.objs.size, s3.gens.size, _, s3, H3, fp, _, rfl, I3, f3, by rw [szh]; exact Nat.lt_succ_self _, by show _ < (h'.push _).objs.size; rw [Heap.size_push]; exact Nat.lt_succ_self _, Heap.get?_push_size _ rfl, fun h e => ⟨_, _, _, e, rfl, rfl, rfl⟩,
    Array.getElem?_push_size .., rfl, AllBare.push I3.bare rfl, kg _, fun A CR cp s4 hcr hca hr hfr hcp k4 os4 b4 => ?_⟩
  have k34 : ∀ b o, s3.heap.get? b = some o → s4.heap.get? b = some o := fun b o e => k4 b o (kg _ b o e)
  have hns4 := hn.keeps fun b o e => k4 b o (Heap.get?_push_of_some _ e)
  have ncp : ∀ ys cp, CR ys cp → ∀ p ∈ cp, p.1 ∉ fp := fun ys cp hc p hp hf => by
    have h1 : (Heap.push h' _).objs.size ≤ p.1 := hca ys cp hc p hp
    have h2 := (f3 p.1 hf).2
    rw [Heap.size_push, szh] at h1
    exact absurd (Nat.lt_of_lt_of_le h2 (Nat.le_trans (Nat.le_add_right _ 2) h1)) (Nat.lt_irrefl _)
  have room : ∀ {env : Env}, Room k (A.deeper env) := fun {env} => hr.deeper env
  refine ⟨gcx X A X.stack (X.N ++ extra) s3 H3 (genEnv scope (cloFrom X.env.cells scope.names []) s3.heap.objs.size cv builtinsNs X.env) fp [(h'.objs.size, _)] (.compLoop (.GeneratorExp elt [⟨tg, iter, ifs, 0⟩] scope pos) 0 (.ref it) .none (genEnv scope (cloFrom X.env.cells scope.names []) s3.heap.objs.size cv builtinsNs X.env)),
    rfl, rfl, rfl, rfl, rfl, rfl, rfl, rfl, fun x d e => ?_, seg_begin Tn (Tn.keep _ _ _ st3 fun b hb o e => k34 b o e) ?_⟩
  · rcases cloFrom_mem (PySem.mem_of_lookup e) with hm | ⟨h1, h2⟩
    · cases hm
    · obtain ⟨c1, hc1⟩ := hfree _ h1 rfl
      have hc1 : X.env.cells.lookup x = some c1 := hc1
      have e2 : d = c1 := by
        rw [h2, hc1] <;> rfl
      rw [e2]
      obtain ⟨w, z⟩ := I3.cell _ _ hc1
      exact z.lt
  · refine seg_loop (fun p hp z => ?_) ncp hr.hd ok.co Tn (hg A s3 H3 _ _ cv fp _ _ (by rw [over_comp]; exact room)) (ht A s3 H3 _ _ cv fp _ _ (by rw [over_comp]; exact room)) (he A s3 H3 _ _ cv fp _ _ (by rw [over_comp]; exact room)) W turn m0 0 (sizeLine + 1) [] s4 s4 H3 cp ⟨Nat.add_zero _, Nat.zero_le _⟩ w0
      (Tn.keep _ _ _ st3 fun b hb o e => k34 b o e) (fun b hb => (f3 b hb).1.1) hcr (gx_start I3 ok hN f3 hr.hd hfr rfl envs_comp k34 hns4 os4 b4 fun p hp => ?_)
    · rw [List.mem_singleton.mp hp] at z
      have h2 : h'.objs.size < s3.heap.objs.size := (f3 _ z).2
      rw [szh] at h2
      exact absurd h2 (Nat.not_lt.mpr (Nat.le_succ _))
    · rcases List.mem_append.mp hp with hp | hp
      · rw [List.mem_singleton.mp hp]
        refine ⟨k4 _ _ (Heap.get?_push_size _ rfl), by rw [szh]; exact Nat.lt_succ_self _, fun v z => by cases z⟩
      · obtain ⟨h1, h2, h3⟩ := hcp p hp
        refine ⟨h1, Nat.lt_of_lt_of_le ?_ h2, h3⟩
        show _ < (h'.push _).objs.size
        rw [Heap.size_push, szh]
        omega
end
end GX
/-! L3t: who walks a generator expression. -/
namespace GX
open PySem PySem.Spec PyProof.Rows L2 GenW LamX
theorem Inv.gens {X : Cx} {pins : List (Addr × Obj)} {σ : L2.St} {H : Hp} {s : Shared} (I : Inv X pins σ H s) {g' : Array GenState} (hb : AllBare g') : Inv X pins σ H { s with gens := g' } := ⟨I.ok, I.os, hb, I.base, I.loc, I.cell, I.free, I.freeC, I.pin, I.hok, I.len⟩
def FG (X : Cx) (CR : List V → List (Addr × Obj) → Prop) (EP : List V → Hp → Prop) (n : Nat) (_ s : Shared) : Prop := ∃ (ys : List V) (σ : L2.St) (H : Hp) (cp : List (Addr × Obj)), CR ys cp ∧ (n + ys.length = sizeLine + 1 ∧ ys.length ≤ sizeLine) ∧ EP ys H ∧ Inv X cp σ H s
def RG' (X : Cx) (CR : List V → List (Addr × Obj) → Prop) (EP : List V → Hp → Prop) : GenEnd := fun n s₀ r s => ((r = .ok (.ret .none) ∨ r = .ok .next) ∧ FG X CR EP n s₀ s) ∨ ∃ e, r = .error e ∧ False
theorem rg_imp {X : Cx} {CR : List V → List (Addr × Obj) → Prop} {EP : List V → Hp → Prop} {n : Nat} {s₀ : Shared} {r : Result} {s : Shared} (h : RG X CR EP n s₀ r s) : RG' X CR EP n s₀ r s := .inl ⟨.inr h.1, h.2⟩
section
variable {P : Program} {w : World} {A : Around} {X : Cx} {CR : List V → List (Addr × Obj) → Prop} {GO : V → Prop} {IP : List V → V → Hp → Prop} {EP : List V → Hp → Prop} {a g : Addr}
theorem seg_rg {n : Nat} {s₀ s : Shared} {c : Code} {t : Sem PySem.Fin} {fs : List Frame} (h : Seg (model P w) A (RG X CR EP) (YG X CR GO IP) n s₀ c t fs s) : Seg (model P w) A (RG' X CR EP) (YG X CR GO IP) n s₀ c t fs s := by
  refine seg_imp (fun _ _ _ _ h => rg_imp h) (fun n s₀ v s kap kap' hk y => ?_) n h
  obtain ⟨ys, y, σ, H, cp, ip, a1, a2, a3, a4, a5, a7, a6⟩ := y
  exact ⟨ys, y, σ, H, cp, ip, a1, a2, a3, a4, a5, a7, fun cp' s' e o i => hk _ _ (a6 cp' s' e o i)⟩
/-- where a walk stands between two items -/
def At (P : Program) (w : World) (A : Around) (X : Cx) (CR : List V → List (Addr × Obj) → Prop) (GO : V → Prop) (IP : List V → V → Hp → Prop) (EP : List V → Hp → Prop) (g : Nat) (n : Nat) (s : Shared) : Prop :=
  ∃ gs, s.gens[g]? = some gs ∧ gs.Goes (model P w) A (RG' X CR EP) (YG X CR GO IP) n (.send .none) (s.setGen g .running)
theorem gx_next {g n : Nat} {s : Shared} {Q : Option Value → Shared → Prop} {E : Value → Shared → Prop} (hh : A.handled = none) (hd : A.depth < recursionLimit) (hl : s.heap.NoLimit) (hg : s.heap.IsGen a g) (h : At P w A.in1 X CR GO IP EP g n s)
    (hY : ∀ v s1 gs' m ys y σ H cp ip, n = m + 1 → gs'.bare = true → CR ys cp → ys.length < sizeLine → RelV y v → IP ys y H → Inv X (cp ++ ip) σ H s1 → (∀ p ∈ ip, ∀ ys cp, CR ys cp → ∀ q ∈ cp, p.1 ≠ q.1) → g < s1.gens.size →
      (∀ cp' s', CR (ys ++ [y]) cp' → GO y → Inv X (cp' ++ ip) σ H s' → gs'.Goes (model P w) A.in1 (RG' X CR EP) (YG X CR GO IP) m (.send .none) s') → Q (some v) (s1.setGen g gs'))
    (hN : ∀ s1 ys σ H cp, CR ys cp → ys.length ≤ sizeLine → EP ys H → Inv X cp σ H s1 → ∀ h', (∀ b o, s1.heap.get? b = some o → h'.get? b = some o) → Q none { s1.setGen g .finished with heap := h' }) :
    wpAny (model P w) A (pyNext (.ref a)) Q E s := by
  obtain ⟨gs, hgs, hgo⟩ := h
  have hgl : g < s.gens.size := (Array.getElem?_eq_some_iff.mp hgs).1
  refine wpAny_gsz (n := g + 1) hgl (next_genG (Er := fun _ _ => False) (F := FG X CR EP) (Q := fun r s' => g + 1 ≤ s'.gens.size → Q r s') (E := fun e s' => g + 1 ≤ s'.gens.size → E e s') hh hl hd hg hgs hgo (fun v s1 gs' hb hv hz => ?_) (fun s1 hp h' hk _ => ?_) fun e s1 he => he.elim)
  · obtain ⟨ys, y, σ, H, cp, ip, a1, a2, a3, a4, a5, a7, a6⟩ := hv
    have hsz : g < s1.gens.size := by
      have q : (s1.setGen g gs').gens.size = s1.gens.size := setGen_size _ _ _
      omega
    cases n with
    | zero => exact absurd a2 (by omega)
    | succ m => exact hY v s1 gs' m ys y σ H cp ip rfl hb a1 a2.2 a3 a4 a5 a7 hsz a6
  · obtain ⟨ys, σ, H, cp, a1, a2, a3, a4⟩ := hp
    exact hN s1 ys σ H cp a1 a2.2 a3 a4 h' hk
/-- any -/
theorem loop_any {QT QF : Hp → Prop} {R : Result → Shared → Prop} (hh : A.handled = none) (hd : A.depth < recursionLimit) (hX : ∀ cp σ H s', Inv X cp σ H s' → s'.heap.IsGen a g)
    (hR : ∀ b cp σ H s', Inv X cp σ H s' → (if b = true then QT H else QF H) → R (.ok (.ret (.bool b))) s') :
    ∀ (n : Nat) (s : Shared), s.heap.NoLimit → s.heap.IsGen a g → At P w A.in1.in1 X (fun _ cp => cp = []) (fun y => y = .bl false) (fun _ y H => ∃ b, y = .bl b ∧ (b = true → QT H)) (fun _ H => QF H) g n s →
      codeAny (model P w) A (.builtin "any.loop" ⟨[.ref a], []⟩) R s := by
  intro n
  induction n with
  | zero =>
    intro s hl hg h
    refine codeAny_builtin F.entry_any_loop ?_
    rw [Around.under_plainId F.plain_any_loop _]
    show wpAny _ A.in1 (pyNext (.ref a) >>= _) _ _ s
    refine wpAny_bind (gx_next (A := A.in1) hh hd hl hg h (fun v s1 gs' m ys y σ1 H1 cp1 ip e => by omega) fun s1 ys σ1 H1 cp1 _ _ q I1 h' hk => ?_)
    exact wpAny_bind (wpAny_rule (wpAny_pure (hR false _ _ _ _ (Inv.gens (I1.kept (t' := s1.toks) hk) (allBare_setGen I1.bare rfl)) q)))
  | succ n ih =>
    intro s hl hg h
    refine codeAny_builtin F.entry_any_loop ?_
    rw [Around.under_plainId F.plain_any_loop _]
    show wpAny _ A.in1 (pyNext (.ref a) >>= _) _ _ s
    refine wpAny_bind (gx_next (A := A.in1) hh hd hl hg h (fun v s1 gs' m ys y σ1 H1 cp1 ip e hb hc _ r q I1 _ hz go => ?_) fun s1 ys σ1 H1 cp1 _ _ q I1 h' hk => ?_)
    · obtain ⟨b, rfl, q⟩ := q
      obtain rfl : v = Value.bool b := r
      cases e
      refine wpAny_bind (wpAny_holding (wpAny_truthy_bool ?_))
      refine wpAny_bind (wpAny_letGo ?_)
      have I2 : Inv X (cp1 ++ ip) σ1 H1 (s1.setGen g gs') := Inv.gens I1 (allBare_setGen I1.bare hb)
      cases b with
      | false =>
        simp only [Bool.false_eq_true, if_false]
        refine wpAny_pure ⟨plainId_quiet F.plain_any_loop _, ih _ I2.nolimit (hX _ _ _ _ I2) ⟨gs', setGen_at hz, go cp1 _ hc rfl (Inv.gens I2 (allBare_setGen I2.bare rfl))⟩⟩
      | true =>
        simp only [if_true]
        exact wpAny_bind (wpAny_rule (wpAny_pure (hR true _ _ _ _ I2 (q rfl))))
    · exact wpAny_bind (wpAny_rule (wpAny_pure (hR false _ _ _ _ (Inv.gens (I1.kept (t' := s1.toks) hk) (allBare_setGen I1.bare rfl)) q)))
/-- all -/
theorem loop_all {QT QF : Hp → Prop} {R : Result → Shared → Prop} (hh : A.handled = none) (hd : A.depth < recursionLimit) (hX : ∀ cp σ H s', Inv X cp σ H s' → s'.heap.IsGen a g)
    (hR : ∀ b cp σ H s', Inv X cp σ H s' → (if b = true then QT H else QF H) → R (.ok (.ret (.bool b))) s') :
    ∀ (n : Nat) (s : Shared), s.heap.NoLimit → s.heap.IsGen a g → At P w A.in1.in1 X (fun _ cp => cp = []) (fun y => y = .bl true) (fun _ y H => ∃ b, y = .bl b ∧ (b = false → QF H)) (fun _ H => QT H) g n s →
      codeAny (model P w) A (.builtin "all.loop" ⟨[.ref a], []⟩) R s := by
  intro n
  induction n with
  | zero =>
    intro s hl hg h
    refine codeAny_builtin F.entry_all_loop ?_
    rw [Around.under_plainId F.plain_all_loop _]
    show wpAny _ A.in1 (pyNext (.ref a) >>= _) _ _ s
    refine wpAny_bind (gx_next (A := A.in1) hh hd hl hg h (fun v s1 gs' m ys y σ1 H1 cp1 ip e => by omega) fun s1 ys σ1 H1 cp1 _ _ q I1 h' hk => ?_)
    exact wpAny_bind (wpAny_rule (wpAny_pure (hR true _ _ _ _ (Inv.gens (I1.kept (t' := s1.toks) hk) (allBare_setGen I1.bare rfl)) q)))
  | succ n ih =>
    intro s hl hg h
    refine codeAny_builtin F.entry_all_loop ?_
    rw [Around.under_plainId F.plain_all_loop _]
    show wpAny _ A.in1 (pyNext (.ref a) >>= _) _ _ s
    refine wpAny_bind (gx_next (A := A.in1) hh hd hl hg h (fun v s1 gs' m ys y σ1 H1 cp1 ip e hb hc _ r q I1 _ hz go => ?_) fun s1 ys σ1 H1 cp1 _ _ q I1 h' hk => ?_)
    · obtain ⟨b, rfl, q⟩ := q
      obtain rfl : v = Value.bool b := r
      cases e
      refine wpAny_bind (wpAny_holding (wpAny_truthy_bool ?_))
      refine wpAny_bind (wpAny_letGo ?_)
      have I2 : Inv X (cp1 ++ ip) σ1 H1 (s1.setGen g gs') := Inv.gens I1 (allBare_setGen I1.bare hb)
      cases b with
      | true =>
        simp only [if_true]
        refine wpAny_pure ⟨plainId_quiet F.plain_all_loop _, ih _ I2.nolimit (hX _ _ _ _ I2) ⟨gs', setGen_at hz, go cp1 _ hc rfl (Inv.gens I2 (allBare_setGen I2.bare rfl))⟩⟩
      | false =>
        simp only [Bool.false_eq_true, if_false]
        exact wpAny_bind (wpAny_rule (wpAny_pure (hR false _ _ _ _ I2 (q rfl))))
    · exact wpAny_bind (wpAny_rule (wpAny_pure (hR true _ _ _ _ (Inv.gens (I1.kept (t' := s1.toks) hk) (allBare_setGen I1.bare rfl)) q)))
end
/-- back in the frame that walked -/
theorem back {X Xg : Cx} {pins cp : List (Addr × Obj)} {σ σ' : L2.St} {H1 H' : Hp} {sc s' : Shared} {fp : List Addr} (I : Inv X pins σ H1 sc) (hf : ∀ b ∈ fp, FpOk X pins H1 b ∧ b < sc.heap.objs.size) (ep : Xg.prog = X.prog) (ew : Xg.w = X.w) (e0 : Xg.s_0 = sc) (eh : Xg.H_0 = H1) (ee : Xg.ex = fp) (eo : Xg.outer = X.stack)
    (J : Inv Xg cp σ' H' s') : Inv X pins σ H' s' := by
  have os := J.os
  have base := J.base
  have hok := J.hok
  rw [e0] at os
  rw [e0, eh, ee, show Xg.fs = frs X.stack by unfold Cx.fs; rw [eo]] at base
  rw [ep, ew] at hok
  exact I.call' (ch := fp) os base hok J.bare fun b hb => ⟨(hf b hb).1.2.2.2.1, (hf b hb).1.2.1, (hf b hb).1.2.2.2.2.1, (hf b hb).1.2.2.2.2.2⟩
section
variable {X : Cx} {pins : List (Addr × Obj)} {σ : L2.St} {k : Nat} {u : Value} {s : Shared} {Q : VK}
theorem call_any_gx (hr : Room (k + 1) X.A) (h : GxMade X pins σ k (fun y => y = .bl false) (fun _ y H => ∃ b, y = .bl b ∧ (b = true → Q (.bl true) H)) (fun _ H => Q (.bl false) H) u s) : wpAny (model X.prog X.w) X.A (call (.builtin "any") [u]) (EP X pins σ Q) X.xe s := by
  obtain ⟨a, g, c, sc, H1, fp, go, rfl, I, hf, a1, a2, ha, hgen, hgs, os, hb, kp, wake⟩ := h
  refine call_function_tree F.kind_any F.plain_any F.entry_any (F.args_any1 _) ?_
  unfold Builtin.«any»
  refine wpAny_bind (m := oneArg "any" _) (wpAny_pure ?_)
  refine wpAny_bind (wpAny_pyIter_gen (hgen _ ha) ?_)
  obtain ⟨Xg, ep, ew, e0, eh, ee, eo, en, el, ec, sg⟩ := wake X.A.in1.in1 (fun _ cp => cp = []) [] (s.setGen g .running) rfl (fun ys cp e p hp => by rw [e] at hp; cases hp) ⟨hr.hd, by have := hr.dp; show X.A.depth + 3 * k + 5 < _; omega, by have := hr.un; show X.A.units + 1 + 1 + 16 * k + 200 < _; omega⟩ I.ok.frames (fun p hp => by cases hp) (fun _ _ e => e) os (allBare_setGen hb rfl)
  have hX : ∀ cp σ H s', Inv Xg cp σ H s' → s'.heap.IsGen a g := fun cp σ H s' J => hgen _ (J.pin (a, go) (by rw [en]; exact List.mem_append_left _ (List.mem_singleton.mpr rfl))).1
  refine wpAny_pure ⟨plainId_quiet F.plain_any_loop _, loop_any (A := X.A) (P := X.prog) (w := X.w) (X := Xg) (QT := fun H => Q (.bl true) H) (QF := fun H => Q (.bl false) H) hr.hd (by have := hr.dp; omega) hX (fun b cp σ' H' s' J q => ?_) (sizeLine + 1) s (I.nolimit.keeps kp) (hgen _ ha) ⟨_, hgs, rfl, seg_rg sg⟩⟩
  refine ⟨.bl b, H', back I hf ep ew e0 eh ee eo J, rfl, ?_⟩
  cases b with
  | true => exact q
  | false => exact q
theorem call_all_gx (hr : Room (k + 1) X.A) (h : GxMade X pins σ k (fun y => y = .bl true) (fun _ y H => ∃ b, y = .bl b ∧ (b = false → Q (.bl false) H)) (fun _ H => Q (.bl true) H) u s) : wpAny (model X.prog X.w) X.A (call (.builtin "all") [u]) (EP X pins σ Q) X.xe s := by
  obtain ⟨a, g, c, sc, H1, fp, go, rfl, I, hf, a1, a2, ha, hgen, hgs, os, hb, kp, wake⟩ := h
  refine call_function_tree F.kind_all F.plain_all F.entry_all (F.args_all1 _) ?_
  unfold Builtin.«all»
  refine wpAny_bind (m := oneArg "all" _) (wpAny_pure ?_)
  refine wpAny_bind (wpAny_pyIter_gen (hgen _ ha) ?_)
  obtain ⟨Xg, ep, ew, e0, eh, ee, eo, en, el, ec, sg⟩ := wake X.A.in1.in1 (fun _ cp => cp = []) [] (s.setGen g .running) rfl (fun ys cp e p hp => by rw [e] at hp; cases hp) ⟨hr.hd, by have := hr.dp; show X.A.depth + 3 * k + 5 < _; omega, by have := hr.un; show X.A.units + 1 + 1 + 16 * k + 200 < _; omega⟩ I.ok.frames (fun p hp => by cases hp) (fun _ _ e => e) os (allBare_setGen hb rfl)
  have hX : ∀ cp σ H s', Inv Xg cp σ H s' → s'.heap.IsGen a g := fun cp σ H s' J => hgen _ (J.pin (a, go) (by rw [en]; exact List.mem_append_left _ (List.mem_singleton.mpr rfl))).1
  refine wpAny_pure ⟨plainId_quiet F.plain_all_loop _, loop_all (A := X.A) (P := X.prog) (w := X.w) (X := Xg) (QT := fun H => Q (.bl true) H) (QF := fun H => Q (.bl false) H) hr.hd (by have := hr.dp; omega) hX (fun b cp σ' H' s' J q => ?_) (sizeLine + 1) s (I.nolimit.keeps kp) (hgen _ ha) ⟨_, hgs, rfl, seg_rg sg⟩⟩
  refine ⟨.bl b, H', back I hf ep ew e0 eh ee eo J, rfl, ?_⟩
  cases b with
  | true => exact q
  | false => exact q
end
end GX
/-! L3u: tuple and list over a generator expression. -/
namespace GX
open PySem PySem.Spec PyProof.Rows L2 GenW LamX
def CL (S : Addr) (ys : List V) (cp : List (Addr × Obj)) : Prop := ∃ acc c, cp = [(S, lstObj acc c)] ∧ Vals ys acc.toList
section
variable {P : Program} {w : World} {A : Around} {X : Cx} {GO : V → Prop} {IP : List V → V → Hp → Prop} {EP : List V → Hp → Prop} {a g S : Addr}
/-- the consumer puts an item behind its list -/
theorem Inv.push {ip : List (Addr × Obj)} {σ : L2.St} {H : Hp} {s : Shared} {acc : Array Value} {c : Nat} {v : Value} (hA : X.s_0.heap.objs.size ≤ S) (hc : ∀ x d, X.env.cells.lookup x = some d → d ≠ S) (hpn : ∀ p ∈ X.pn, p.1 ≠ S) (hip : ∀ p ∈ ip, p.1 ≠ S)
    (I : Inv X ([(S, lstObj acc c)] ++ ip) σ H s) : ∃ c', Inv X ([(S, lstObj (acc.push v) c')] ++ ip) σ H { s with heap := s.heap.update S (Obj.mapSeq (·.push v)) } := by
  obtain ⟨eS, hS0, hSL, hSf, _⟩ := I.pin (S, lstObj acc c) (List.mem_append_right _ List.mem_cons_self)
  have I0 : Inv X ip σ H s := I.pins_of fun p hp => I.pin p (List.mem_append_right _ (List.mem_cons_of_mem _ hp))
  have nt : ∀ b u, H b = some u → b ≠ S := fun b u q hb => by rw [hb, hS0] at q; cases q
  have z3 : ∀ b o, b ≠ S → s.heap.get? b = some o → (s.heap.update S (Obj.mapSeq (·.push v))).get? b = some o := fun b o hb e => (Heap.get?_update_other _ _ (Ne.symm hb)).trans e
  have nc : ∀ b, b ∉ [S] → b ≠ S := fun b hb e => hb (by rw [e]; exact List.mem_singleton.mpr rfl)
  have eS' : ∃ c', (s.heap.update S (Obj.mapSeq (·.push v))).get? S = some (lstObj (acc.push v) c') := ⟨_, Heap.get?_update_self _ eS rfl⟩
  obtain ⟨c', eS'⟩ := eS'
  have J : Inv X ip σ H { s with heap := s.heap.update S (Obj.mapSeq (·.push v)), gens := s.gens, drawn := s.drawn, toks := s.toks } := by
    refine I0.step (g' := s.gens) (t' := s.toks) (d' := s.drawn) (ch := [S]) (fun b hb => ?_)
      (fun b ob _ _ hc q _ => z3 b ob (nc b hc) q) (fun b ob _ _ hc q _ => ⟨ob.slots, z3 b ob (nc b hc) q⟩) (fun _ _ _ _ n => n) (fun b ob hc q => ⟨ob, z3 b ob (nc b hc) q⟩)
      (fun _ _ q => q) (fun _ _ _ q => q) (fun b ps q => ⟨#[], by rw [q]; simp⟩) (fun m hm => ?_) (fun b u q => ?_) I0.bare
    · rw [List.mem_singleton.mp hb]
      refine ⟨.inr hA, hSL, fun x d e => hc x d e, fun p hp => ?_⟩
      rcases List.mem_append.mp hp with hp | hp
      · exact hpn p hp
      · exact hip p hp
    · obtain ⟨ob, es, ep, ho, r⟩ := hm
      exact ⟨ob, es, ep, z3 _ ob (Ne.symm hSL) ho, r⟩
    · refine (I0.hok b u q).stay (fun c v hc y => z3 c v ?_ y) (fun _ y => y) fun _ _ y => y
      rcases hc with y | y
      · rw [y]; exact nt b u q
      · exact nt c _ y
  refine ⟨c', J.pins_of fun p hp => ?_⟩
  rcases List.mem_append.mp hp with hp | hp
  · rw [List.mem_singleton.mp hp]
    exact ⟨eS', hS0, hSL, hSf, fun v q => by cases q⟩
  · exact J.pin p (List.mem_append_right _ hp)
/-- what is known of the walked generator and the consumer's list -/
structure Cons (X : Cx) (a g S : Addr) : Prop where
  old : X.s_0.heap.objs.size ≤ S
  cel : ∀ x d, X.env.cells.lookup x = some d → d ≠ S
  pn : ∀ p ∈ X.pn, p.1 ≠ S
  gen : ∀ cp σ H s', Inv X cp σ H s' → s'.heap.IsGen a g
theorem ip_ne {ip : List (Addr × Obj)} {acc : Array Value} {c : Nat} {ys : List V} (hv : Vals ys acc.toList) (a7 : ∀ p ∈ ip, ∀ ys cp, CL S ys cp → ∀ q ∈ cp, p.1 ≠ q.1) : ∀ p ∈ ip, p.1 ≠ S := fun p hp => a7 p hp ys _ ⟨acc, c, rfl, hv⟩ _ (List.mem_singleton.mpr rfl)
theorem vals_push {ys : List V} {acc : Array Value} {y : V} {v : Value} (h : Vals ys acc.toList) (r : RelV y v) : Vals (ys ++ [y]) (acc.push v).toList := by
  rw [Array.toList_push]
  exact h.append (.cons r .nil)
theorem loop_ext {R : Result → Shared → Prop} {res : Value} (hh : A.handled = none) (hd : A.depth < recursionLimit) (K : Cons X a g S) (hGO : ∀ y, GO y)
    (hR : ∀ ys acc c σ H s', Inv X [(S, lstObj acc c)] σ H s' → Vals ys acc.toList → ys.length ≤ sizeLine → EP ys H → R (.ok (.ret res)) s') :
    ∀ (n : Nat) (s : Shared), s.heap.NoLimit → s.heap.IsGen a g → At P w A.in1.in1 X (CL S) GO IP EP g n s → codeAny (model P w) A (.builtin "list.extend.loop" ⟨[.ref S, .ref a, res], []⟩) R s := by
  intro n
  induction n with
  | zero =>
    intro s hl hg h
    refine codeAny_builtin F.entry_extend_loop ?_
    rw [Around.under_plainId F.plain_extend_loop _]
    show wpAny _ A.in1 (pyNext (.ref a) >>= _) _ _ s
    refine wpAny_bind (gx_next (A := A.in1) hh hd hl hg h (fun v s1 gs' m ys y σ1 H1 cp1 ip e => by omega) fun s1 ys σ1 H1 cp1 hc hn q I1 h' hk => ?_)
    obtain ⟨acc, c, e, hv⟩ := hc
    subst e
    exact wpAny_pure (hR ys acc c σ1 H1 _ (Inv.gens (I1.kept (t' := s1.toks) hk) (allBare_setGen I1.bare rfl)) hv (by omega) q)
  | succ n ih =>
    intro s hl hg h
    refine codeAny_builtin F.entry_extend_loop ?_
    rw [Around.under_plainId F.plain_extend_loop _]
    show wpAny _ A.in1 (pyNext (.ref a) >>= _) _ _ s
    refine wpAny_bind (gx_next (A := A.in1) hh hd hl hg h (fun v s1 gs' m ys y σ1 H1 cp1 ip e hb hc hn r q I1 a7 hz go => ?_) fun s1 ys σ1 H1 cp1 hc hn q I1 h' hk => ?_)
    · obtain ⟨acc, c, e2, hv⟩ := hc
      subst e2
      cases e
      have I2 : Inv X ([(S, lstObj acc c)] ++ ip) σ1 H1 (s1.setGen g gs') := Inv.gens I1 (allBare_setGen I1.bare hb)
      have eS : (s1.setGen g gs').heap.get? S = some (lstObj acc c) := (I2.pin (S, lstObj acc c) (List.mem_append_right _ List.mem_cons_self)).1
      have hlen := hv.length
      have hsz : acc.size < sizeLine := by
        have : acc.toList.length = acc.size := by simp
        omega
      obtain ⟨c', J⟩ := Inv.push (v := v) K.old K.cel K.pn (ip_ne (c := c) hv a7) I2
      show wpAny _ A.in1 (updateSeq S (·.push v) >>= _) _ _ _
      refine wpAny_bind ?_
      refine wpAny_updateSeq eS rfl (wpAny_pure ⟨plainId_quiet F.plain_extend_loop _, ?_⟩) (Nat.le_of_lt hsz) (by show (acc.push v).size ≤ sizeLine + 1; rw [Array.size_push]; omega)
      exact ih _ J.nolimit (K.gen _ _ _ _ J) ⟨gs', setGen_at hz, go _ _ ⟨acc.push v, c', rfl, vals_push hv r⟩ (hGO _) (Inv.gens J (allBare_setGen J.bare rfl))⟩
    · obtain ⟨acc, c, e, hv⟩ := hc
      subst e
      exact wpAny_pure (hR ys acc c σ1 H1 _ (Inv.gens (I1.kept (t' := s1.toks) hk) (allBare_setGen I1.bare rfl)) hv (by omega) q)
end
end GX
/-! L3v: tuple over a generator expression. -/
namespace GX
open PySem PySem.Spec PyProof.Rows L2 GenW LamX
section
variable {X : Cx} {pins : List (Addr × Obj)} {σ : L2.St} {k : Nat} {u : Value} {s : Shared} {EP : List V → Hp → Prop} {A : Around}
theorem collect_gx {Q : List Value → Shared → Prop} {E : Value → Shared → Prop} (hr : Room k A.in1.in1) (hfr : A.frames = some X.stack) (h : GxMade X pins σ k (fun _ => True) (fun _ _ _ => True) EP u s)
    (hQ : ∀ ys vs H' s', Inv X pins σ H' s' → Vals ys vs → ys.length ≤ sizeLine → EP ys H' → Q vs s') : wpAny (model X.prog X.w) A (collect u) Q E s := by
  obtain ⟨a, g, c, sc, H1, fp, go, rfl, I, hf, a1, a2, ha, hgen, hgs, os, hb, kp, wake⟩ := h
  have hSa : s.heap.objs.size ≠ a := Nat.ne_of_gt a2
  unfold collect
  refine wpAny_bind (wpAny_runValue (codeAny_builtin F.entry_proto_collect ?_))
  rw [Around.under_plainId F.plain_proto_collect _]
  show wpAny _ A.in1 (newList [] >>= fun l => again (.builtin "list.__iadd__" ⟨[l, .ref a], []⟩)) _ _ s
  refine wpAny_bind (wpAny_newObj_type ?_ (by size_fits))
  refine wpAny_pure ⟨plainId_quiet F.plain_list_iadd _, codeAny_builtin F.entry_list_iadd ?_⟩
  rw [Around.under_plainId F.plain_list_iadd _]
  have kP : ∀ b o, s.heap.get? b = some o → (s.heap.push { cls := .type "list", data := .seq ([] : List Value).toArray }).get? b = some o := fun b o e => Heap.get?_push_of_some _ e
  have gP := hgen _ (kP _ _ ha)
  show wpAny _ A.in1 (Builtin.List.listExtendWith (.ref s.heap.objs.size) (.ref a) (.ref s.heap.objs.size)) _ _ _
  unfold Builtin.List.listExtendWith
  refine wpAny_bind (wpAny_typeOf (Heap.IsGen.typeIs (s := { s with heap := _ }) gP) ?_)
  have h1 : Builtin.List.listSameRef (.ref s.heap.objs.size) (.ref a) = false := by simp [Builtin.List.listSameRef, hSa]
  have h2 : (Value.type "generator" == Value.type "list") = false := by decide
  have h3 : (Value.type "generator" == Value.type "tuple") = false := by decide
  simp only [h1, h2, h3, Bool.or_false, Bool.false_eq_true, if_false]
  refine wpAny_bind (wpAny_pyIter_gen (s := { s with heap := _ }) gP ?_)
  refine wpAny_bind (wpAny_holding ?_)
  unfold Builtin.List.listLengthHint
  refine wpAny_bind (wpAny_specialOf (Heap.IsGen.typeIs (s := { s with heap := _ }) gP) F.gen_no_len ?_)
  show wpAny _ A.in1 (specialOf (Value.ref a) (Str.ofString "__length_hint__") >>= _) _ _ _
  refine wpAny_bind (wpAny_specialOf (Heap.IsGen.typeIs (s := { s with heap := _ }) gP) F.gen_no_hint ?_)
  refine wpAny_pure ?_
  show wpAny _ A.in1 (rule "list.extend.makes-room" >>= fun _ => Builtin.List.listTouch (.ref s.heap.objs.size) >>= fun _ =>
    again (.builtin "list.extend.loop" ⟨[.ref s.heap.objs.size, .ref a, .ref s.heap.objs.size], []⟩)) _ _ _
  refine wpAny_bind (wpAny_rule ?_)
  have hS₁ : (s.heap.push { cls := .type "list", data := .seq ([] : List Value).toArray }).get? s.heap.objs.size = some { cls := .type "list", data := .seq ([] : List Value).toArray } := Heap.get?_push_size _ rfl
  refine wpAny_bind ?_
  show wpAny _ A.in1 (updateSeq s.heap.objs.size (·.push .none) >>= fun _ => updateSeq s.heap.objs.size (·.pop)) _ _ _
  refine wpAny_bind (wpAny_updateSeq hS₁ rfl ?_)
  have hS₂ := Heap.get?_update_self (Obj.mapSeq (·.push Value.none)) hS₁ rfl
  refine wpAny_updateSeq (hz := by seq_fits) hS₂ rfl ?_
  have hS₃ := Heap.get?_update_self (Obj.mapSeq (·.pop)) hS₂ rfl
  have oth : ∀ b o, s.heap.get? b = some o → (((s.heap.push { cls := .type "list", data := .seq ([] : List Value).toArray }).update s.heap.objs.size (Obj.mapSeq (·.push Value.none))).update s.heap.objs.size (Obj.mapSeq (·.pop))).get? b = some o :=
    fun b o e => have ne : s.heap.objs.size ≠ b := Ne.symm (Nat.ne_of_lt (Heap.lt_size e))
      (Heap.get?_update_other _ _ ne).trans ((Heap.get?_update_other _ _ ne).trans (kP b o e))
  generalize hh4 : (((s.heap.push { cls := .type "list", data := .seq ([] : List Value).toArray }).update s.heap.objs.size (Obj.mapSeq (·.push Value.none))).update s.heap.objs.size (Obj.mapSeq (·.pop))) = h4 at *
  obtain ⟨cc, hcc⟩ : ∃ cc, h4.get? s.heap.objs.size = some (lstObj #[] cc) := ⟨_, hS₃⟩
  obtain ⟨Xg, ep, ew, e0, eh, ee, eo, en, el, ec, sg⟩ := wake A.in1.in1 (CL s.heap.objs.size) [(s.heap.objs.size, lstObj #[] cc)] (({ s with heap := h4 } : Shared).setGen g .running) ⟨#[], cc, rfl, .nil⟩ (fun ys cp ⟨acc, c, e, _⟩ p hp => by rw [e] at hp; rw [List.mem_singleton.mp hp]; exact Nat.le_refl _) hr hfr
    (fun p hp => by rw [List.mem_singleton.mp hp]; exact ⟨hcc, Nat.le_refl _, fun v z => by cases z⟩) oth os (allBare_setGen (s := { s with heap := _ }) hb rfl)
  have szc : sc.heap.objs.size ≤ s.heap.objs.size := Nat.le_trans (Nat.le_of_lt a1) (Nat.le_of_lt a2)
  refine wpAny_pure ⟨plainId_quiet F.plain_extend_loop _, loop_ext (A := A) (P := X.prog) (w := X.w) (X := Xg) (GO := fun _ => True) (IP := fun _ _ _ => True) (EP := EP) hr.hd (by have := hr.dp; have e : A.in1.in1.depth = A.depth := rfl; omega)
    ⟨by rw [e0]; exact szc, fun x d e => Nat.ne_of_lt (Nat.lt_of_lt_of_le (ec x d e) szc), fun p hp => by rw [en] at hp; rw [List.mem_singleton.mp hp]; exact Ne.symm hSa, fun cp σ H s' J => hgen _ (J.pin (a, go) (by rw [en]; exact List.mem_append_left _ (List.mem_singleton.mpr rfl))).1⟩ (fun _ => trivial)
    (fun ys acc c2 σ' H' s' J hv hl q => ?_) (sizeLine + 1) _ (show Heap.NoLimit h4 from I.nolimit.keeps fun b o e => oth b o (kp b o e)) (hgen _ (oth _ _ ha)) ⟨_, hgs, rfl, seg_rg sg⟩⟩
  have eS := (J.pin (s.heap.objs.size, lstObj acc c2) (List.mem_append_right _ (List.mem_singleton.mpr rfl))).1
  show wpAny _ A (load s.heap.objs.size >>= _) _ _ s'
  refine wpAny_bind (wpAny_load eS ?_)
  exact wpAny_pure (hQ ys acc.toList H' s' (back I hf ep ew e0 eh ee eo J) hv hl q)
theorem tuple_new_gx {Q₁ : Value → Shared → Prop} {E : Value → Shared → Prop} (hr : Room k A.in1.in1.in1) (hfr : A.frames = some X.stack) (h : GxMade X pins σ k (fun _ => True) (fun _ _ _ => True) EP u s)
    (hQ : ∀ ys (acc : Array Value) H' s', Inv X pins σ H' s' → Vals ys acc.toList → ys.length ≤ sizeLine → EP ys H' → Q₁ (.ref s'.heap.objs.size) { s' with heap := s'.heap.push { cls := .type "tuple", data := .seq acc } }) :
    codeAny (model X.prog X.w) A (.call (.builtin "tuple.__new__") ⟨[.type "tuple", u], []⟩) (wants Q₁ E) s := by
  have hT : s.TypeIs u "generator" := by
    obtain ⟨a, g, c, sc, H1, fp, go, rfl, I, hf, a1, a2, ha, hgen, _⟩ := id h
    exact (hgen _ ha).typeIs
  refine codeAny_of_tree ?_
  obtain ⟨a, rfl⟩ : ∃ a, u = .ref a := let ⟨a, _, _, _, _, _, _, e, _⟩ := h; ⟨a, e⟩
  show wpAny _ A.in1 (do checkBuiltinCall "tuple.__new__" ⟨[.type "tuple", .ref a], []⟩; again (.builtin "tuple.__new__" ⟨[.type "tuple", .ref a], []⟩)) _ _ s
  refine wpAny_bind (wpAny_of_eq (F.newCall_tuple_1 _) (wpAny_pure ⟨plainId_quiet F.plain_tuple_new _, codeAny_builtin F.entry_tuple_new ?_⟩))
  rw [Around.under_plainId F.plain_tuple_new _]
  have hsub := sub_tuple_self
  have hinit := init_tuple_lookup
  have hmh := madeHere_tuple
  wp_walk using wpAny_typeOf hT, collect_gx (A := A.in1) hr hfr h
  intro ys vs H' s' J hv hl q
  show wpAny _ _ (Builtin.Tuple.tupleExact vs.toArray >>= fun v => ret v) _ _ _
  unfold Builtin.Tuple.tupleExact
  refine wpAny_bind (wpAny_newObj_type ?_ (by show vs.toArray.size ≤ sizeLine; rw [List.size_toArray, ← hv.length]; exact hl))
  exact wpAny_pure (hQ ys vs.toArray H' s' J (by simpa using hv) hl q)
theorem call_tuple_gx {Q : VK} (hr : Room (k + 1) X.A) (h : GxMade X pins σ k (fun _ => True) (fun _ _ _ => True) (fun ys H => ∀ (p : Addr) (o : Obj), H p = none → o.dict = none → Q (.ref p) (upd H p (.frz o (.tup ys)))) u s) : wpAny (model X.prog X.w) X.A (call (.type "tuple") [u]) (L2.EP X pins σ Q) X.xe s := by
  have hfr : X.A.frames = some X.stack := let ⟨_, _, _, _, _, _, _, _, I, _⟩ := h; I.ok.frames
  refine callType_codes (Q₁ := fun obj s₁ => s₁.TypeIs obj "tuple" ∧ L2.EP X pins σ Q obj s₁) F.called_tuple (F.typeCall_tuple_1 _) F.entry_object_init
    (tuple_new_gx (A := X.A.in1) ⟨hr.hd, by have := hr.dp; show X.A.depth + 3 * k + 5 < _; omega, by have := hr.un; show X.A.units + 1 + 1 + 1 + 1 + 16 * k + 200 < _; omega⟩ hfr h fun ys acc H' s' J hv hl q => ⟨⟨_, Heap.get?_push_size _ rfl, rfl⟩, ?_⟩) fun obj s₁ h₁ => ?_
  · have nf : H' s'.heap.objs.size = none := J.hok.fresh (Nat.le_refl _)
    exact ⟨.ref s'.heap.objs.size, upd H' s'.heap.objs.size (.frz { cls := .type "tuple", data := .seq acc } (.tup ys)), J.laid (o := .frz { cls := .type "tuple", data := .seq acc } (.tup ys)) (t' := s'.toks) (fun b o e => Heap.get?_push_of_some _ e) (Nat.le_refl _) ⟨Heap.get?_push_size _ rfl, hl, acc.toList, hv, by rw [Array.toArray_toList]; exact IsTup.new _ _⟩, rfl, q _ _ nf rfl⟩
  · exact ⟨h₁.1, F.args_object_init_2 obj _, object_init_meets F.called_tuple.init.lookup F.called_tuple.made (by decide) X.prog X.w X.A.in1 _ s₁ ⟨h₁.1, rfl, h₁.2⟩⟩
end
end GX
/-! L3w: tuple, any, all over a generator expression. -/
namespace GX
open PySem PySem.Spec PyProof.Rows L2 GenW LamX
/-- what a generator expression's maker needs -/
structure GxFor (X : Cx) (T : List (Addr × Str)) (k : Nat) (c P : Addr) (elt tg iter : Expr) (ifs : List Expr) (scope : Scope) (own : List (Str × Nat)) (wi : TI) (g : TG) (tt : TT) (te : TE) : Prop where
  hr : Room (k + 2) X.A
  TB : LamX.TabB X.base X.mg c P
  code : X.env.code = .ref c
  tab : (P, X.env.qual ++ "<genexpr>") ∈ T
  one : ∀ p ∈ T, p.1 = P → p.2 = X.env.qual ++ "<genexpr>"
  nd : X.N.Nodup
  it : PI X tg iter wi
  ok : GenOk (X.N ++ []) X.env.scope scope own
  fold : ∀ v, genFold iter X.env v = pure v
  tgt : ∀ (A : Around) (s : Shared) (H : Hp) (cl : List (Str × Addr)) (L : Addr) (cv : Value) (fp : List Addr) (pn : List (Addr × Obj)) (c : Code), Room k (A.over c []) → PG (gcx X A X.stack (X.N ++ []) s H (genEnv scope cl L cv builtinsNs X.env) fp pn c) tg g
  tst : ∀ (A : Around) (s : Shared) (H : Hp) (cl : List (Str × Addr)) (L : Addr) (cv : Value) (fp : List Addr) (pn : List (Addr × Obj)) (c : Code), Room k (A.over c []) → PTs (gcx X A X.stack (X.N ++ []) s H (genEnv scope cl L cv builtinsNs X.env) fp pn c) ifs tt
  elt : ∀ (A : Around) (s : Shared) (H : Hp) (cl : List (Str × Addr)) (L : Addr) (cv : Value) (fp : List Addr) (pn : List (Addr × Obj)) (c : Code), Room k (A.over c []) → PE (gcx X A X.stack (X.N ++ []) s H (genEnv scope cl L cv builtinsNs X.env) fp pn c) elt te
section
variable {X : Cx} {T : List (Addr × Str)} {k : Nat} {c P : Addr} {elt tg iter : Expr} {ifs : List Expr} {scope : Scope} {own : List (Str × Nat)} {wi : TI} {g : TG} {tt : TT} {te : TE} {p pos gpos : Pos}
theorem GxFor.eval (F : GxFor X T k c P elt tg iter ifs scope own wi g tt te) {pins : List (Addr × Obj)} {σ : L2.St} {H : Hp} {s : Shared} {GO : V → Prop} {IP : List V → V → Hp → Prop} {EP : List V → Hp → Prop} (I : Inv X pins σ H s) (hw : tGxT T wi g tt te (own.map (·.2)) [] GO σ H IP EP) :
    wpAny (model X.prog X.w) X.A (PySem.eval (.GeneratorExp elt [⟨tg, iter, ifs, 0⟩] scope gpos) X.env) (GxMade X pins σ (k + 1) GO IP EP) X.xe s :=
  gx_eval F.hr.hd (by have := F.hr.dp; omega) F.TB F.code F.tab F.one (by rw [List.append_nil]; exact F.nd) F.it F.ok F.fold F.tgt F.tst F.elt I hw
theorem pe_tupG (F : GxFor X T k c P elt tg iter ifs scope own wi g tt te) (hg : Gl X "tuple") (hm : X.mg "tuple" = none) (hb : bootBuiltins "tuple" = some (.type "tuple"))
    (he : starEach [.GeneratorExp elt [⟨tg, iter, ifs, 0⟩] scope gpos] X.env = (false, eval (.GeneratorExp elt [⟨tg, iter, ifs, 0⟩] scope gpos) X.env) :: starEach [] X.env := by rfl) :
    PE X (.Call (.Name "tuple" p) [.GeneratorExp elt [⟨tg, iter, ifs, 0⟩] scope gpos] [] pos) (fun σ H Q => tGxT T wi g tt te (own.map (·.2)) [] (fun _ => True) σ H (fun _ _ _ => True) (fun ys H => ∀ (p : Addr) (o : Obj), H p = none → o.dict = none → Q (.ref p) (upd H p (.frz o (.tup ys))))) := by
  refine ⟨fun pins s σ H Q I h => ?_⟩
  refine wpAny_Call_Name_kw (ld_blt I hg hm hb ?_)
  refine PyProof.Rows.callWith_type1 ?_ he rfl
  rw [he]
  show wpAny _ _ (spliced ((false, eval (.GeneratorExp elt [⟨tg, iter, ifs, 0⟩] scope gpos) X.env) :: backTo pos (starEach [] X.env))) _ _ s
  refine Calls.spliced_cons (wpAny_mono (F.eval I h) (fun u s1 h1 => ?_) fun _ _ z => z)
  exact Calls.spliced_nil (call_tuple_gx F.hr h1)
theorem pe_anyG (F : GxFor X T k c P elt tg iter ifs scope own wi g tt te) (hg : Gl X "any") (hm : X.mg "any" = none) (hb : bootBuiltins "any" = some (.builtin "any"))
    (he : starEach [.GeneratorExp elt [⟨tg, iter, ifs, 0⟩] scope gpos] X.env = (false, eval (.GeneratorExp elt [⟨tg, iter, ifs, 0⟩] scope gpos) X.env) :: starEach [] X.env := by rfl) :
    PE X (.Call (.Name "any" p) [.GeneratorExp elt [⟨tg, iter, ifs, 0⟩] scope gpos] [] pos) (fun σ H Q => tGxT T wi g tt te (own.map (·.2)) [] (fun y => y = .bl false) σ H (fun _ y H => ∃ b, y = .bl b ∧ (b = true → Q (.bl true) H)) (fun _ H => Q (.bl false) H)) := by
  refine ⟨fun pins s σ H Q I h => ?_⟩
  refine wpAny_Call_Name_kw (ld_blt I hg hm hb ?_)
  refine PyProof.Rows.callWith_builtin1 ?_ he rfl
  rw [he]
  show wpAny _ _ (spliced ((false, eval (.GeneratorExp elt [⟨tg, iter, ifs, 0⟩] scope gpos) X.env) :: backTo pos (starEach [] X.env))) _ _ s
  refine Calls.spliced_cons (wpAny_mono (F.eval I h) (fun u s1 h1 => ?_) fun _ _ z => z)
  exact Calls.spliced_nil (call_any_gx F.hr h1)
theorem pe_allG (F : GxFor X T k c P elt tg iter ifs scope own wi g tt te) (hg : Gl X "all") (hm : X.mg "all" = none) (hb : bootBuiltins "all" = some (.builtin "all"))
    (he : starEach [.GeneratorExp elt [⟨tg, iter, ifs, 0⟩] scope gpos] X.env = (false, eval (.GeneratorExp elt [⟨tg, iter, ifs, 0⟩] scope gpos) X.env) :: starEach [] X.env := by rfl) :
    PE X (.Call (.Name "all" p) [.GeneratorExp elt [⟨tg, iter, ifs, 0⟩] scope gpos] [] pos) (fun σ H Q => tGxT T wi g tt te (own.map (·.2)) [] (fun y => y = .bl true) σ H (fun _ y H => ∃ b, y = .bl b ∧ (b = false → Q (.bl false) H)) (fun _ H => Q (.bl true) H)) := by
  refine ⟨fun pins s σ H Q I h => ?_⟩
  refine wpAny_Call_Name_kw (ld_blt I hg hm hb ?_)
  refine PyProof.Rows.callWith_builtin1 ?_ he rfl
  rw [he]
  show wpAny _ _ (spliced ((false, eval (.GeneratorExp elt [⟨tg, iter, ifs, 0⟩] scope gpos) X.env) :: backTo pos (starEach [] X.env))) _ _ s
  refine Calls.spliced_cons (wpAny_mono (F.eval I h) (fun u s1 h1 => ?_) fun _ _ z => z)
  exact Calls.spliced_nil (call_all_gx F.hr h1)
end
end GX
namespace L3
open PySem PySem.Spec PyProof.Rows L2 GX
open LamX (ExtN Tabs)
/-- the turns of a generator expression over the items -/
def GxRun (δ0 : St3) (g : TG3) (tt : TT3) (te : TE3) (GO3 : D → Prop) (IP3 : D → Gp → Prop) (EP3 : List D → Gp → Prop) : List D → List D → Gp → Prop
  | [], ys, G => EP3 ys G
  | x :: xs, ys, G => g x δ0 G (fun δ2 G2 => tt δ2 G2 (fun b G3 => if b = true then te δ2 G3 (fun y G4 => ys.length < sizeLine ∧ IP3 y G4 ∧ (GO3 y → GxRun δ0 g tt te GO3 IP3 EP3 xs (ys ++ [y]) G4)) X0 else GxRun δ0 g tt te GO3 IP3 EP3 xs ys G3) X0) X0
theorem lc_eq_gx {δ0 : St3} {g : TG3} {tt : TT3} {te : TE3} {k : List D → Gp → Prop} : ∀ (xs acc : List D) (G : Gp), LcRun δ0 g tt te xs acc G k = GxRun δ0 g tt te (fun _ => True) (fun _ _ => True) k xs acc G
  | [], acc, G => rfl
  | x :: xs, acc, G => by
    unfold LcRun GxRun
    simp only [lc_eq_gx xs, true_and, forall_const]
theorem pick_nil (σ : L2.St) (vs : List Nat) : pick σ [] vs = L2.wipe σ vs := by simp [pick]
section
variable {X : Cx} {Γ : Gm} {W : WX} {vs : List Nat}
theorem run_gx {g : TG3} {tt : TT3} {te : TE3} {σ : L2.St} {δ : St3} {ds : List D} {J : It} {P : Hp → Gp → Prop} {G1 : Gp} {H1 : Hp} {GO : V → Prop} {GO3 : D → Prop} {IP : V → Hp → Prop} {IP3 : D → Gp → Prop} {EP : List V → Hp → Prop} {EP3 : List D → Gp → Prop}
    (R : Rel X.K Γ δ G1 σ H1) (wk : Walk3 X.K Γ J P ds) (p1 : P H1 G1) (hI : ∀ y v G' H', Step X.K H1 G1 H' G' → HpR X.K Γ H' G' → Dat X.K Γ H' G' y v → IP3 y (vis G') → IP v H') (hG : ∀ y v H' G', Dat X.K Γ H' G' y v → GO v → GO3 y)
    (hE : ∀ ys us G' H', Step X.K H1 G1 H' G' → HpR X.K Γ H' G' → DatL X.K Γ H' G' ys us → EP3 ys (vis G') → EP us H') (q1 : GxRun (wipe3 δ vs) g tt te GO3 IP3 EP3 ds [] (vis G1)) :
    ∃ W : Nat → Nat → List V → Hp → Prop, (∃ m, W 0 m [] H1) ∧ ∀ i m ys H, W i m ys H →
      (J.stop i H ∧ EP ys H) ∨ (J.go i H ∧ ∃ Nx : List V → Hp → Prop, (∀ ys' H', Nx ys' H' → ∃ m', m' < m ∧ W (i + 1) m' ys' H') ∧ ∀ x H', J.yld i H x H' → liftW X.K Γ vs g x (pick σ [] vs) H' fun σ2 H2 => L2.wipe σ2 vs = pick σ [] vs ∧ liftT X.K Γ W0 tt σ2 H2 fun b H3 =>
        if b = true then lift X.K Γ W0 te σ2 H3 fun y H4 => ys.length < sizeLine ∧ IP y H4 ∧ (GO y → Nx (ys ++ [y]) H4) else Nx ys H3) := by
  rw [pick_nil]
  refine ⟨fun i m ys H' => m = ds.length - i ∧ i ≤ ds.length ∧ ∃ G' dys, Step X.K H1 G1 H' G' ∧ HpR X.K Γ H' G' ∧ P H' G' ∧ DatL X.K Γ H' G' dys ys ∧ GxRun (wipe3 δ vs) g tt te GO3 IP3 EP3 (ds.drop i) dys (vis G'),
    ⟨ds.length, by omega, Nat.zero_le _, G1, [], Step.refl, R.hp, p1, rfl, q1⟩, ?_⟩
  rintro i m ys H2 ⟨rfl, hi, G2, dys, s2, hp2, p2, dl, q2⟩
  have Rw : ∀ {H' : Hp} {G' : Gp}, Step X.K H1 G1 H' G' → HpR X.K Γ H' G' → Rel X.K Γ (wipe3 δ vs) G' (L2.wipe σ vs) H' := fun s hp => (R.mono s hp).wipe vs
  by_cases hl : i < ds.length
  · refine .inr ⟨wk.go i H2 G2 hl p2 hp2, fun ys' H' => ∃ G' dys, Step X.K H1 G1 H' G' ∧ HpR X.K Γ H' G' ∧ P H' G' ∧ DatL X.K Γ H' G' dys ys' ∧ GxRun (wipe3 δ vs) g tt te GO3 IP3 EP3 (ds.drop (i + 1)) dys (vis G'),
      fun ys' H' q => ⟨ds.length - (i + 1), by omega, rfl, hl, q⟩, fun x H' y => ?_⟩
    obtain ⟨s3, hp3, d, hd, dd⟩ := wk.yld i H2 G2 x H' hl p2 hp2 y
    have e : ds.drop i = d :: ds.drop (i + 1) := by
      rw [List.drop_eq_getElem_cons hl]
      have := (List.getElem?_eq_some_iff.mp hd).2
      rw [this]
    rw [e] at q2
    have s23 := s2.trans s3
    refine ⟨d, wipe3 δ vs, G2, _, Rw s23 hp3, dd, q2, fun δ4 G4 σ4 H4 s4 R4 ew q4 => ⟨ew.trans (wipe_wipe σ vs), ?_⟩⟩
    refine ⟨δ4, G4, _, _, R4, q4, fun bb G5 H5 s5 hp5 q5 => ?_, fun _ _ _ _ _ z => z.elim⟩
    have s35 : Step X.K H2 G2 H5 G5 := (s3.trans s4).trans s5
    cases bb with
    | false => exact ⟨G5, dys, s2.trans s35, hp5, wk.keep _ _ _ _ s35.toStep0 p2, dl.mono s35, q5⟩
    | true =>
      refine ⟨δ4, G5, _, _, R4.mono s5 hp5, q5, fun dy vy G6 H6 s6 hp6 dvy q6 => ?_, fun _ _ _ _ _ z => z.elim⟩
      have s36 : Step X.K H2 G2 H6 G6 := s35.trans s6
      have dl6 := dl.mono s36
      exact ⟨by rw [← dl6.length]; exact q6.1, hI dy vy G6 H6 (s2.trans s36) hp6 dvy q6.2.1, fun go => ⟨G6, dys ++ [dy], s2.trans s36, hp6, wk.keep _ _ _ _ s36.toStep0 p2, dl6.append (.cons dvy .nil), q6.2.2 (hG _ _ _ _ dvy go)⟩⟩
  · have e : i = ds.length := by omega
    subst e
    rw [List.drop_length] at q2
    exact .inl ⟨wk.stop H2 G2 p2 hp2, hE dys ys G2 H2 s2 hp2 dl q2⟩
/-- .. as a walk's reading asks it -/
theorem gx_sound {ti : TI3} {g : TG3} {tt : TT3} {te : TE3} {σ : L2.St} {H : Hp} {GO : V → Prop} {GO3 : D → Prop} {IP : V → Hp → Prop} {EP : List V → Hp → Prop} {δ : St3} {G : Gp} {IP3 : D → Gp → Prop} {EP3 : List D → Gp → Prop} {E3 : X3} (R : Rel X.K Γ δ G σ H)
    (h : ti δ (vis G) (fun ds G1 => GxRun (wipe3 δ vs) g tt te GO3 IP3 EP3 ds [] G1) E3) (hI : ∀ y v G' H', Step X.K H G H' G' → HpR X.K Γ H' G' → Dat X.K Γ H' G' y v → IP3 y (vis G') → IP v H') (hG : ∀ y v H' G', Dat X.K Γ H' G' y v → GO v → GO3 y)
    (hE : ∀ ys us G' H', Step X.K H G H' G' → HpR X.K Γ H' G' → DatL X.K Γ H' G' ys us → EP3 ys (vis G') → EP us H') (ke : ∀ cls G' H', Step X.K H G H' G' → HpR X.K Γ H' G' → E3 cls (vis G') → W cls none σ H') :
    tGxT Γ.T (liftI X.K Γ W ti) (liftW X.K Γ vs g) (liftT X.K Γ W0 tt) (lift X.K Γ W0 te) vs [] GO σ H (fun _ y H => IP y H) EP := by
  refine ⟨δ, G, _, E3, R, h, fun ds J P G1 H1 s1 hp1 wk p1 q1 => ⟨hp1.tab, fun H2 e T2 => ?_⟩, ke⟩
  have s2 := Step.ext hp1 e
  have hp2 := hp1.ext e T2
  exact run_gx ((R.mono s1 hp1).mono s2 hp2) wk (wk.keep _ _ _ _ s2.toStep0 p1) (fun y v G' H' s => hI y v G' H' ((s1.trans s2).trans s)) hG (fun ys us G' H' s => hE ys us G' H' ((s1.trans s2).trans s)) q1
@[simp] def TTupG (ti : TI3) (g : TG3) (tt : TT3) (te : TE3) (vs : List Nat) : TE3 := fun δ G Q E => ti δ G (fun ds G1 => LcRun (wipe3 δ vs) g tt te ds [] G1 (fun ys G2 => Q (.nod .tuF ys) G2)) E
def AllRun (δ0 : St3) (g : TG3) (tt : TT3) (te : TE3) (Q : K3) (ds : List D) (G : Gp) : Prop := GxRun δ0 g tt te (fun y => y = .bl true) (fun y G' => ∃ b, y = .bl b ∧ (b = false → Q (.bl false) G')) (fun _ G' => Q (.bl true) G') ds [] G
def AnyRun (δ0 : St3) (g : TG3) (tt : TT3) (te : TE3) (Q : K3) (ds : List D) (G : Gp) : Prop := GxRun δ0 g tt te (fun y => y = .bl false) (fun y G' => ∃ b, y = .bl b ∧ (b = true → Q (.bl true) G')) (fun _ G' => Q (.bl false) G') ds [] G
@[simp] def TAllG (ti : TI3) (g : TG3) (tt : TT3) (te : TE3) (vs : List Nat) : TE3 := fun δ G Q E => ti δ G (fun ds G1 => AllRun (wipe3 δ vs) g tt te Q ds G1) E
@[simp] def TAnyG (ti : TI3) (g : TG3) (tt : TT3) (te : TE3) (vs : List Nat) : TE3 := fun δ G Q E => ti δ G (fun ds G1 => AnyRun (wipe3 δ vs) g tt te Q ds G1) E
/-- what a generator expression's maker needs, over data -/
structure GxFor3 (X : Cx) (Γ : Gm) (W : WX) (k : Nat) (c P : Addr) (elt tg iter : Expr) (ifs : List Expr) (scope : Scope) (own : List (Str × Nat)) (ti : TI3) (g : TG3) (tt : TT3) (te : TE3) : Prop where
  hr : Room (k + 2) X.A
  TB : LamX.TabB X.base X.mg c P
  code : X.env.code = .ref c
  tab : (P, X.env.qual ++ "<genexpr>") ∈ Γ.T
  one : ∀ p ∈ Γ.T, p.1 = P → p.2 = X.env.qual ++ "<genexpr>"
  nd : X.N.Nodup
  it : PI3 X Γ W tg iter ti
  ok : GenOk (X.N ++ []) X.env.scope scope own
  tgt : ∀ (A : Around) (s : Shared) (H : Hp) (cl : List (Str × Addr)) (L : Addr) (cv : Value) (fp : List Addr) (pn : List (Addr × Obj)) (c : Code), Room k (A.over c []) → PW3g (gcx X A X.stack (X.N ++ []) s H (genEnv scope cl L cv builtinsNs X.env) fp pn c) Γ (own.map (·.2)) tg g
  tst : ∀ (A : Around) (s : Shared) (H : Hp) (cl : List (Str × Addr)) (L : Addr) (cv : Value) (fp : List Addr) (pn : List (Addr × Obj)) (c : Code), Room k (A.over c []) → PTs3 (gcx X A X.stack (X.N ++ []) s H (genEnv scope cl L cv builtinsNs X.env) fp pn c) Γ W0 ifs tt
  elt : ∀ (A : Around) (s : Shared) (H : Hp) (cl : List (Str × Addr)) (L : Addr) (cv : Value) (fp : List Addr) (pn : List (Addr × Obj)) (c : Code), Room k (A.over c []) → PE3 (gcx X A X.stack (X.N ++ []) s H (genEnv scope cl L cv builtinsNs X.env) fp pn c) Γ W0 elt te
  fold : ∀ v, genFold iter X.env v = pure v := by intro _; rfl
variable {k : Nat} {c P : Addr} {elt tg iter : Expr} {ifs : List Expr} {scope : Scope} {own : List (Str × Nat)} {ti : TI3} {g : TG3} {tt : TT3} {te : TE3} {p pos gpos : Pos}
theorem GxFor3.x (F : GxFor3 X Γ W k c P elt tg iter ifs scope own ti g tt te) : GxFor X Γ.T k c P elt tg iter ifs scope own (liftI X.K Γ W ti) (liftW X.K Γ (own.map (·.2)) g) (liftT X.K Γ W0 tt) (lift X.K Γ W0 te) :=
  ⟨F.hr, F.TB, F.code, F.tab, F.one, F.nd, F.it, F.ok, F.fold, F.tgt, F.tst, F.elt⟩
theorem pe3_tupG (F : GxFor3 X Γ W k c P elt tg iter ifs scope own ti g tt te) (hg : Gl X "tuple") (hm : X.mg "tuple" = none) (hb : bootBuiltins "tuple" = some (.type "tuple"))
    (he : starEach [.GeneratorExp elt [⟨tg, iter, ifs, 0⟩] scope gpos] X.env = (false, eval (.GeneratorExp elt [⟨tg, iter, ifs, 0⟩] scope gpos) X.env) :: starEach [] X.env := by rfl) :
    PE3 X Γ W (.Call (.Name "tuple" p) [.GeneratorExp elt [⟨tg, iter, ifs, 0⟩] scope gpos] [] pos) (TTupG ti g tt te (own.map (·.2))) :=
  pe_imp (pe_tupG F.x hg hm hb he) fun σ H Q hw => by
    obtain ⟨δ, G, Q3, E3, R, h, k, ke⟩ := hw
    simp only [TTupG, lc_eq_gx] at h
    exact gx_sound R h (fun _ _ _ _ _ _ _ _ => trivial) (fun _ _ _ _ _ _ => trivial) (fun ys us G' H' s hp dl q p o hn hd => k (.nod .tuF ys) _ G' _ (s.trans (Step.new hn)) (hp.new hn) ⟨p, us, rfl, ⟨own_none hp hn, o, upd_same, hd⟩, dl.mono (Step.new hn)⟩ q) ke
theorem pe3_allG (F : GxFor3 X Γ W k c P elt tg iter ifs scope own ti g tt te) (hg : Gl X "all") (hm : X.mg "all" = none) (hb : bootBuiltins "all" = some (.builtin "all"))
    (he : starEach [.GeneratorExp elt [⟨tg, iter, ifs, 0⟩] scope gpos] X.env = (false, eval (.GeneratorExp elt [⟨tg, iter, ifs, 0⟩] scope gpos) X.env) :: starEach [] X.env := by rfl) :
    PE3 X Γ W (.Call (.Name "all" p) [.GeneratorExp elt [⟨tg, iter, ifs, 0⟩] scope gpos] [] pos) (TAllG ti g tt te (own.map (·.2))) :=
  pe_imp (pe_allG F.x hg hm hb he) fun σ H Q hw => by
    obtain ⟨δ, G, Q3, E3, R, h, k, ke⟩ := hw
    refine gx_sound (IP := fun y H => ∃ b, y = .bl b ∧ (b = false → Q (.bl false) H)) R h (fun y v G' H' s hp dv ⟨b, e, q⟩ => ?_) (fun y v H' G' dv go => ?_) (fun ys us G' H' s hp dl q => k (.bl true) _ G' H' s hp rfl q) ke
    · subst e
      exact ⟨b, dv, fun z => k (.bl false) _ G' H' s hp rfl (q z)⟩
    · subst go
      cases y with
      | bl b => cases (show _ = _ from dv); rfl
      | nod t xs => obtain ⟨_, _, z, _⟩ := dv; cases z
      | clo i => obtain ⟨_, _, z, _⟩ := dv; cases z
      | _ => cases (show _ = _ from dv)
theorem pe3_anyG (F : GxFor3 X Γ W k c P elt tg iter ifs scope own ti g tt te) (hg : Gl X "any") (hm : X.mg "any" = none) (hb : bootBuiltins "any" = some (.builtin "any"))
    (he : starEach [.GeneratorExp elt [⟨tg, iter, ifs, 0⟩] scope gpos] X.env = (false, eval (.GeneratorExp elt [⟨tg, iter, ifs, 0⟩] scope gpos) X.env) :: starEach [] X.env := by rfl) :
    PE3 X Γ W (.Call (.Name "any" p) [.GeneratorExp elt [⟨tg, iter, ifs, 0⟩] scope gpos] [] pos) (TAnyG ti g tt te (own.map (·.2))) :=
  pe_imp (pe_anyG F.x hg hm hb he) fun σ H Q hw => by
    obtain ⟨δ, G, Q3, E3, R, h, k, ke⟩ := hw
    refine gx_sound (IP := fun y H => ∃ b, y = .bl b ∧ (b = true → Q (.bl true) H)) R h (fun y v G' H' s hp dv ⟨b, e, q⟩ => ?_) (fun y v H' G' dv go => ?_) (fun ys us G' H' s hp dl q => k (.bl false) _ G' H' s hp rfl q) ke
    · subst e
      exact ⟨b, dv, fun z => k (.bl true) _ G' H' s hp rfl (q z)⟩
    · subst go
      cases y with
      | bl b => cases (show _ = _ from dv); rfl
      | nod t xs => obtain ⟨_, _, z, _⟩ := dv; cases z
      | clo i => obtain ⟨_, _, z, _⟩ := dv; cases z
      | _ => cases (show _ = _ from dv)
end
end L3
/-! L3x: isinstance, order of tuples, list +=, zip, walks over lists or tuples, pop. -/
namespace L3
open PySem PySem.Spec PyProof.Rows L2

/-! ### isinstance(x, T), T a built-in type -/
def tyD : D → Option String
  | .non => some "NoneType"
  | .bl _ => some "bool"
  | .int _ => some "int"
  | .str _ => some "str"
  | .nod .tup _ => some "tuple"
  | .nod .lst _ => some "list"
  | _ => none
theorem tyD_at {K : PySem.W.Frag} {Γ : Gm} {H : Hp} {G : Gp} {d : D} {v : V} {t : String} (e : tyD d = some t) (h : Dat K Γ H G d v) : TyX K H v (.type t) := by
  cases d with
  | non => cases e; cases (show _ = _ from h); exact .base .non
  | bl b => cases e; cases (show _ = _ from h); exact .base (.bl b)
  | int i => cases e; cases (show _ = _ from h); exact .base (.int i)
  | str x => cases e; cases (show _ = _ from h); exact .base (.str x)
  | ref a => cases e
  | clo i => cases e
  | nod tg xs =>
    cases tg with
    | tup => cases e; obtain ⟨a, vs, rfl, h1, _⟩ := h; exact .base (.tup h1)
    | lst => cases e; obtain ⟨a, vs, rfl, h1, _⟩ := h; exact .base (.lst h1.2)
    | _ => cases e
/-- the answer -/
def isiB (n : String) : D → Option Bool
  | .non => some false
  | .bl _ => some (n == "bool" || n == "int")
  | .int _ => some (n == "int")
  | .str _ => some (n == "str")
  | .nod .tup _ => some (n == "tuple")
  | .nod .lst _ => some (n == "list")
  | _ => none
def kTy (n : String) : Prop := n = "str" ∨ n = "int" ∨ n = "bool" ∨ n = "tuple"
theorem isiB_ok {n : String} (hn : kTy n) {d : D} {b : Bool} (e : isiB n d = some b) : ∃ t, tyD d = some t ∧ kitB t n = some b := by
  cases d with
  | non => cases e; exact ⟨_, rfl, by rcases hn with rfl | rfl | rfl | rfl <;> decide +kernel⟩
  | bl x => cases e; exact ⟨_, rfl, by rcases hn with rfl | rfl | rfl | rfl <;> decide +kernel⟩
  | int i => cases e; exact ⟨_, rfl, by rcases hn with rfl | rfl | rfl | rfl <;> decide +kernel⟩
  | str x => cases e; exact ⟨_, rfl, by rcases hn with rfl | rfl | rfl | rfl <;> decide +kernel⟩
  | ref a => cases e
  | clo i => cases e
  | nod tg xs =>
    cases tg with
    | tup => cases e; exact ⟨_, rfl, by rcases hn with rfl | rfl | rfl | rfl <;> decide +kernel⟩
    | lst => cases e; exact ⟨_, rfl, by rcases hn with rfl | rfl | rfl | rfl <;> decide +kernel⟩
    | _ => cases e
@[simp] def TIsi (n : String) (t : TE3) : TE3 := fun δ G Q E => t δ G (fun d G1 => onS (isiB n d) fun b => Q (.bl b) G1) E
section
variable {X : Cx} {Γ : Gm} {W : WX} {e a b : Expr} {pos p p2 : Pos} {ta tb : TE3}
theorem pe3_isi {T : Str} {n : String} (hn : kTy n) (hg : Gl X "isinstance") (hm : X.mg "isinstance" = none) (hgT : Gl X T) (hmT : X.mg T = none) (hvT : bootBuiltins T = some (.type n)) (hv : bootBuiltins "isinstance" = some (.builtin "isinstance")) (he : PE3 X Γ W e ta)
    (hnT : T ≠ "__name__" := by decide) (hdT : (T == ("__debug__" : Str)) = false := by decide) (hs1 : starEach [e, .Name T p2] X.env = (false, eval e X.env) :: starEach [.Name T p2] X.env := by rfl) (hs2 : starEach [.Name T p2] X.env = (false, eval (.Name T p2) X.env) :: starEach [] X.env := by rfl)
    (hpl : ((backTo pos (starEach [.Name T p2] X.env)).any fun x => x.fst) = false := by rfl) :
    PE3 X Γ W (.Call (.Name "isinstance" p) [e, .Name T p2] [] pos) (TIsi n ta) := by
  refine pe_imp (pe_callB call_isi hg hm hv (pa_cons he (pa_cons (pe_bltn (v := .ty n) hgT hmT hvT rfl hnT hdT) pa_nil hs2) hs1) (by decide) (by decide) hs1 hpl) fun σ H Q hw => ?_
  obtain ⟨δ, G, Q3, E3, R, h, k, ke⟩ := hw
  refine ⟨δ, G, _, E3, R, h, fun d v G1 H1 s1 hp1 dv q => ?_, ke⟩
  obtain ⟨b, e1, q⟩ := onS_iff.mp q
  obtain ⟨t, e2, e3⟩ := isiB_ok hn e1
  exact ⟨v, .ty n, .type t, .type n, b, rfl, .ty n, tyD_at e2 dv, kit_ty e3, k (.bl b) _ G1 H1 s1 hp1 rfl q⟩

/-! ### x < y of alike data -/
def rLtA (K : PySem.W.Frag) : R2 := fun x y H Q => ∃ d e, Dp K H x d ∧ Dp K H y e ∧ PySem.W.alike d e = true ∧ d ≠ .none ∧ d.depth ≤ 60 ∧ Q (.bl (PySem.W.dataLt d e)) H
theorem op_ltA (hu : X.A.units + 64 < cLine) : OpR X (compareOp .Lt) (rLtA X.K) := by
  intro pins s σ H x y v u Q I rx ry h
  obtain ⟨d, e, hd, he, al, nn, dp, q⟩ := h
  obtain ⟨as, r1⟩ := Dp.reads I d x v hd rx
  obtain ⟨bs, r2⟩ := Dp.reads I e y u he ry
  exact PySem.W.rcLt_alike d e X.A s v u as bs r1 r2 al nn (by have := Nat.min_le_left d.depth e.depth; omega) X.prog X.w X.xe (EP X pins σ Q) ⟨.bl _, H, I, rfl, q⟩
def ltC : R3 := fun x y G Q => match x, y with
  | .int i, .int j => Q (.bl (decide (i < j))) G
  | .str s, .str t => Q (.bl (decide (s.cps.toList < t.cps.toList))) G
  | x, y => gd 60 x = true ∧ gd 60 y = true ∧ PySem.W.alike (py x) (py y) = true ∧ py x ≠ .none ∧ Q (.bl (PySem.W.dataLt (py x) (py y))) G
theorem sound_ltC : Sound2 X.K Γ (fun x y H Q => ((rI0 fun i j => .bl (decide (i < j))) x y H Q ∨ ∃ i j, x = .str i ∧ y = .str j ∧ Q (.bl (decide (i.cps.toList < j.cps.toList))) H) ∨ rLtA X.K x y H Q) ltC := by
  intro x y v u H G Q3 Q R hx hy h k
  unfold ltC at h
  split at h
  · exact .inl (.inl ⟨_, _, hx, hy, ret k R h rfl⟩)
  · exact .inl (.inr ⟨_, _, hx, hy, ret k R h rfl⟩)
  · obtain ⟨g1, g2, al, nn, q⟩ := h
    exact .inr ⟨_, _, dat_dp 60 _ v g1 hx, dat_dp 60 _ u g2 hy, al, nn, (gd_py 60 _ g1).2, ret k R q rfl⟩
theorem op_ltC (hu : X.A.units + 64 < cLine) : OpR X (compareOp .Lt) (fun x y H Q => ((rI0 fun i j => .bl (decide (i < j))) x y H Q ∨ ∃ i j, x = .str i ∧ y = .str j ∧ Q (.bl (decide (i.cps.toList < j.cps.toList))) H) ∨ rLtA X.K x y H Q) := op_lt2.or (op_ltA hu)

/-! ### xs += ys -/
abbrev rIadd3 : R2 := fun x y H Q => rIadd2 x y H Q ∨ rExt2 x y H Q
theorem iop_add3 : OpR X (inplaceOp .Add) rIadd3 := iop_add2.or iop_ext
@[simp] def iaddC : R3 := fun x y G Q => match x, y with
  | .int i, .int j => Q (.int (i + j)) G
  | .str s, .str t => s.length + t.length ≤ sizeLine ∧ Q (.str (s ++ t)) G
  | .ref l, .nod .lst ys => (match G l with | some (.lst xs) => xs.length + ys.length ≤ sizeLine ∧ Q (.ref l) (gset G l (.lst (xs ++ ys))) | _ => False)
  | _, _ => False
theorem sound_iaddC : Sound2 X.K Γ rIadd3 iaddC := by
  intro x y v u H G Q3 Q R hx hy h k
  unfold iaddC at h
  split at h
  · exact .inl (.inl ⟨_, _, hx, hy, ret k R h rfl⟩)
  · exact .inl (.inr ⟨_, _, hx, hy, h.1, ret k R h.2 rfl⟩)
  · split at h
    · rename_i hg
      obtain rfl : v = _ := hx
      obtain ⟨vs, h1, l1⟩ := R.own _ _ (vis_some hg)
      obtain ⟨b, us, rfl, h2, l2⟩ := hy
      obtain ⟨st, hp3⟩ := R.put (o' := .lst (vs ++ us)) (g' := .lst (_ ++ _)) (vis_some hg) rfl fun st => ⟨_, upd_same, (l1.append l2).mono st⟩
      refine .inr ⟨_, b, vs, us, rfl, rfl, h1, h2.2, by rw [← l1.length, ← l2.length]; exact h.1, k (.ref _) _ _ _ st hp3 rfl ?_⟩
      rw [vis_gset (by intro z; cases z)]
      exact h.2
    · exact h.elim
  · exact h.elim
end

/-! ### walks -/
section
variable {K : PySem.W.Frag} {Γ : Gm}
theorem walk_zipT {a b : Addr} {ds es : List D} : Walk3 K Γ (RZ.ItzT K a b) (fun H G => Dat K Γ H G (.tup ds) (.ref a) ∧ Dat K Γ H G (.tup es) (.ref b)) (zipD ds es) where
  keep := fun H G H' G' s h => ⟨h.1.mono0 s, h.2.mono0 s⟩
  go := fun i H G hi h R => by
    obtain ⟨⟨a', vs, e, h1, l⟩, b', us, e2, h2, l2⟩ := h
    cases e; cases e2
    have hi : i < min ds.length es.length := by simpa [zipD] using hi
    obtain ⟨d, hd⟩ := get_some (ds := ds) (i := i) (by omega)
    obtain ⟨d2, hd2⟩ := get_some (ds := es) (i := i) (by omega)
    obtain ⟨v, hv, _⟩ := l.get hd
    obtain ⟨v2, hv2, _⟩ := l2.get hd2
    exact ⟨vs, us, v, v2, SqT.of h1, SqT.of h2, hv, hv2⟩
  yld := fun i H G x H' hi h R y => by
    obtain ⟨⟨a', vs, e, h1, l⟩, b', us, e2, h2, l2⟩ := h
    cases e; cases e2
    obtain ⟨T, u, w, rfl, hT, rfl, y1, y2⟩ := y
    obtain ⟨d, hd, dd⟩ := l.get' (y1 vs (SqT.of h1))
    obtain ⟨d2, hd2, dd2⟩ := l2.get' (y2 us (SqT.of h2))
    have st : Step K H G (upd H T (.tup [u, w])) G := Step.new hT
    refine ⟨st, R.new hT, .tup [d, d2], ?_, T, _, rfl, upd_same, .cons (dd.mono st) (.cons (dd2.mono st) .nil)⟩
    unfold zipD
    rw [List.getElem?_zipWith, hd, hd2]
  stop := fun H G h R => by
    obtain ⟨⟨a', vs, e, h1, l⟩, b', us, e2, h2, l2⟩ := h
    cases e; cases e2
    refine ⟨vs, us, SqT.of h1, SqT.of h2, ?_⟩
    rw [← l.length, ← l2.length]
    simp only [zipD, List.length_zipWith]
    omega
end
section
variable {X : Cx} {Γ : Gm} {W : WX} {e a b tg : Expr} {pos : Pos} {ta tb : TE3}
@[simp] def IZipA (t : TA3) : TI3 := fun δ G Q E => t δ G (fun ds G1 => match ds with | [.nod .lst xs, .nod .lst ys] => Q (zipD xs ys) G1 | [.nod .tup xs, .nod .tup ys] => Q (zipD xs ys) G1 | _ => False) E
theorem pi3_zipA {t : TA3} {p tpos : Pos} {elts : List Expr} {kk : Nat} (hg : Gl X "zip") (hm : X.mg "zip" = none) (ha : PA3 X Γ W [a, b] t)
    (hs : starEach [a, b] X.env = (false, eval a X.env) :: starEach [b] X.env := by rfl) (hpl : (backTo pos (starEach [b] X.env)).any (·.1) = false := by rfl) : PI3 X Γ W (.Tuple elts kk tpos) (.Call (.Name "zip" p) [a, b] [] pos) (IZipA t) :=
  pi_imp (RZ.pi_zipA hg hm ha hs hpl) fun σ H R' hw => by
    obtain ⟨δ, G, Q3, E3, R, h1, k, ke⟩ := hw
    refine ⟨δ, G, _, E3, R, h1, fun ds vs G1 H1 s1 hp1 dl q => ?_, ke⟩
    split at q
    · obtain ⟨v, u, rfl, d1, d2⟩ := datL_two dl
      have d0 := d1
      have d0' := d2
      obtain ⟨p', vs, rfl, h2, l⟩ := d1
      obtain ⟨p2, vs2, rfl, h3, l2⟩ := d2
      exact ⟨_, _, vs, vs2, rfl, .inl ⟨SqL.of h2.2, SqL.of h3.2, k _ _ _ G1 H1 s1 hp1 walk_zip ⟨d0, d0'⟩ q⟩⟩
    · obtain ⟨v, u, rfl, d1, d2⟩ := datL_two dl
      have d0 := d1
      have d0' := d2
      obtain ⟨p', vs, rfl, h2, l⟩ := d1
      obtain ⟨p2, vs2, rfl, h3, l2⟩ := d2
      exact ⟨_, _, vs, vs2, rfl, .inr ⟨SqT.of h2, SqT.of h3, k _ _ _ G1 H1 s1 hp1 walk_zipT ⟨d0, d0'⟩ q⟩⟩
    · exact q.elim
/-- a name that holds a list or a tuple -/
@[simp] def IVar (i : Nat) : TI3 := fun δ G Q _ => match slot δ i with
  | some (.nod .lst ds) => Q ds G
  | some (.nod .tup ds) => Q ds G
  | some (.nod .tuK ds) => Q ds G
  | some (.nod .tuF ds) => Q ds G
  | _ => False
theorem pi3_var {i : Nat} (h : PE3 X Γ W e (TVar i)) : PI3 X Γ W tg e (IVar i) := pi_imp (pi_or (pi3_list h) (pi3_tup h)) fun σ H R' hw => by
  obtain ⟨δ, G, Q3, E3, R, h1, k, ke⟩ := hw
  unfold IVar at h1
  split at h1
  · rename_i e1; exact .inl ⟨δ, G, Q3, E3, R, by simp only [ISeq, TVar, e1]; exact h1, k, ke⟩
  · rename_i e1; exact .inr ⟨δ, G, Q3, E3, R, by simp only [ITup, TVar, e1]; exact h1, k, ke⟩
  · rename_i e1; exact .inr ⟨δ, G, Q3, E3, R, by simp only [ITup, TVar, e1]; exact h1, k, ke⟩
  · rename_i e1; exact .inr ⟨δ, G, Q3, E3, R, by simp only [ITup, TVar, e1]; exact h1, k, ke⟩
  · exact h1.elim
end

/-! ### d.pop(k, x), d's keys are tuples -/
@[simp] def isOwnT (G : Gp) (x : D) : Prop := match x with
  | .ref a => (match G a with | some (.dT _) => True | _ => False)
  | _ => False
@[simp] def popTC (x y z : D) (G : Gp) (Q : K3) : Prop := match x with
  | .ref a => (match G a with
    | some (.dT kvs) => onS (keysOf y) fun k => (match look kvs k with | some d => Q d (gset G a (.dT (drop kvs k))) | none => Q z G)
    | _ => False)
  | _ => False
@[simp] def TPopT (td : TE3) (t : TA3) : TE3 := fun δ G Q E => td δ G (fun x G1 => isOwnT G1 x ∧ t δ G1 (fun ds G2 => match ds with | [y, z] => popTC x y z G2 Q | _ => False) E) E
section
variable {X : Cx} {Γ : Gm} {W : WX} {o e f : Expr} {apos cpos : Pos} {td : TE3} {t : TA3}
theorem pe3_popT (hu : X.A.units + 1 < cLine) (ho : PE3 X Γ W o td) (ha : PA3 X Γ W [e, f] t) (hbase : attributeBase o "pop" X.env (eval o X.env) = eval o X.env := by rfl)
    (hfew : ((backTo cpos (starEach [e, f] X.env)).all (fun x => !x.1) && (backToKw cpos (keywordEach [] X.env)).all (fun x => x.1.isSome) && decide ([e, f].length + ([] : List Keyword).length + (if ([] : List Keyword).isEmpty then 0 else 1) < 30)) = true := by rfl)
    (hline : (apos.endLine == cpos.line) = true := by rfl) (hs : starEach [e, f] X.env = (false, eval e X.env) :: starEach [f] X.env := by rfl) (hpl : (backTo cpos (starEach [f] X.env)).any (·.1) = false := by rfl) : PE3 X Γ W (.Call (.Attribute o "pop" apos) [e, f] [] cpos) (TPopT td t) := by
  refine pe_imp (pe_bm PySem.F.plainAttrs_dict PySem.F.slot_dict_pop PySem.F.type_dict_pop (DX.mt_popT hu) ho ha hbase hfew hline hs hpl) fun σ H Q hw => ?_
  obtain ⟨δ, G, Q3, E3, R, h1, k, ke⟩ := hw
  refine ⟨δ, G, _, E3, R, h1, fun x v G1 H1 s1 hp1 dx ⟨hd, q⟩ => ?_, ke⟩
  unfold isOwnT at hd
  split at hd
  · split at hd
    · rename_i a kvs hg
      obtain rfl : v = _ := dx
      obtain ⟨vs, h2, l⟩ := hp1.own _ _ (vis_some hg)
      refine ⟨.inr (.inr (.inl ⟨rfl, .inr ⟨vs, h2⟩⟩)), δ, G1, _, E3, R.mono s1 hp1, q, fun ds us G2 H2 s2 hp2 dl q => ?_, fun cls G' H' s' => ke cls G' H' (s1.trans s')⟩
      split at q
      · rename_i y z
        obtain ⟨vy, vz, rfl, dy, dz⟩ := datL_two dl
        unfold popTC at q
        dsimp only at q
        split at q
        · rename_i kvs2 hg2
          obtain ⟨ky, ek, qq⟩ := onS_iff.mp q
          have hg2' := vis_some hg2
          obtain ⟨vs2, h3, l2⟩ := hp2.own _ _ hg2'
          have ey := keysOf_is ek
          subst ey
          obtain ⟨b, rfl, hb⟩ := dat_keys dy
          refine ⟨_, vs2, ky, b, vz, rfl, rfl, h3, hb, fun w' hv => ?_, fun hv => ?_⟩
          · rcases datF_look l2 ky with ⟨d, w2, e1, e2, dw⟩ | ⟨_, e2⟩
            · rw [hv] at e2; cases e2
              rw [e1] at qq
              obtain ⟨st, hp4⟩ := hp2.put (o' := .dT (dropK vs2 ky)) (g' := .dT (drop kvs2 ky)) hg2' rfl fun st => ⟨_, upd_same, DatF.mono st (datF_drop l2 ky)⟩
              refine k d w' _ _ ((s1.trans s2).trans st) hp4 (dw.mono st) ?_
              rw [vis_gset (by intro z; cases z)]
              exact qq
            · rw [hv] at e2; cases e2
          · rcases datF_look l2 ky with ⟨d, w2, e1, e2, dw⟩ | ⟨e1, e2⟩
            · rw [hv] at e2; cases e2
            · rw [e1] at qq
              exact k z vz G2 H2 (s1.trans s2) hp2 dz qq
        · exact q.elim
      · exact q.elim
    · exact hd.elim
  · exact hd.elim
end
end L3
/-! L3y: dict(pairs), the keys are tuples. -/
namespace L3
open PySem PySem.Spec PyProof.Rows L2

def mergeT (kvs more : List (List Key × V)) : List (List Key × V) := more.foldl (fun acc kv => putK acc kv.1 kv.2) kvs
theorem length_mergeT : ∀ (more kvs : List (List Key × V)), (mergeT kvs more).length ≤ kvs.length + more.length
  | [], kvs => by show kvs.length ≤ _; simp
  | p :: r, kvs => by
    have h1 := length_mergeT r (putK kvs p.1 p.2)
    have h2 := length_putK kvs p.1 p.2
    show (mergeT (putK kvs p.1 p.2) r).length ≤ _
    simp only [List.length_cons]
    omega
abbrev Qd := Addr × Addr × List Key × V
/-- dict(xs) of a list (or a tuple) of pairs whose keys are tuples -/
def rDictT (K : PySem.W.Frag) : List V → Hp → VK → Prop := fun xs H Q => ∃ (a : Addr) (qs : List Qd), xs = [.ref a] ∧ (SqL K H a (qs.map fun q => V.ref q.1) ∨ ∃ o : Obj, H a = some (.frz o (.tup (qs.map fun q => V.ref q.1))) ∧ o.dict = none) ∧
  (∀ q ∈ qs, H q.1 = some (.tup [.ref q.2.1, q.2.2.2]) ∧ H q.2.1 = some (.tup (q.2.2.1.map kV))) ∧ ∀ p, H p = none → Q (.ref p) (upd H p (.dT (mergeT [] (qs.map (·.2.2)))))
section
variable {X : Cx} {pins : List (Addr × Obj)} {σ : L2.St} {H : Hp} {s : Shared}
theorem quads_of (I : Inv X pins σ H s) : ∀ {qs : List Qd}, (∀ q ∈ qs, H q.1 = some (.tup [.ref q.2.1, q.2.2.2]) ∧ H q.2.1 = some (.tup (q.2.2.1.map kV))) →
    ∃ prs : List (List Key × Addr × Value), KT H (qs.map (·.2.2)) prs ∧ prs.length = qs.length ∧ ∀ (j : Nat) (q : Qd), qs[j]? = some q → ∃ u, prs[j]? = some (q.2.2.1, q.2.1, u) ∧ IsTup s.heap q.1 #[.ref q.2.1, u]
  | [], _ => ⟨[], .nil, rfl, fun j q e => by simp at e⟩
  | q :: qs, h => by
    obtain ⟨prs, r, hl, hp⟩ := quads_of I (qs := qs) fun q hq => h q (List.mem_cons_of_mem _ hq)
    obtain ⟨h1, h2⟩ := h q (List.mem_cons_self ..)
    obtain ⟨its, rv, ht, _⟩ := I.tuple (SqT.of h1)
    obtain ⟨u, y, rfl, ru, ry⟩ := vals2 rv
    obtain rfl : u = Value.ref q.2.1 := ru
    refine ⟨(q.2.2.1, q.2.1, y) :: prs, .cons ⟨rfl, h2, ry⟩ r, by simp [hl], fun j q' e => ?_⟩
    cases j with
    | zero =>
      simp at e
      subst e
      exact ⟨y, by simp, ht⟩
    | succ j =>
      obtain ⟨u, e1, e2⟩ := hp j q' (by simpa using e)
      exact ⟨u, by simpa using e1, e2⟩
theorem KT.mergeT {H : Hp} : ∀ {more : List (List Key × V)} {ps : List (List Key × Addr × Value)} {kvs : List (List Key × V)} {xs : List (List Key × Addr × Value)}, KT H more ps → KT H kvs xs → KT H (mergeT kvs more) (storedAllH xs ps)
  | _, _, _, _, .nil, h => h
  | p :: more, q :: ps, _, _, .cons r t, h => by
    obtain ⟨e1, e2, e3⟩ := r
    show KT H (L3.mergeT (putK _ p.1 p.2) more) (storedAllH (storedH _ q.1 q.2.1 q.2.2) ps)
    rw [← e1]
    exact KT.mergeT t (KT.put h p.1 e2 e3)
theorem tupKey_keep {w : World} {P : Program} {h h' : Heap} {ks : List Key} {a : Addr} (x : (tupleKind (mixKind P w)).is h ks a) (k : ∀ o, h.get? a = some o → h'.get? a = some o) : (tupleKind (mixKind P w)).is h' ks a := by
  obtain ⟨o, its, n, h1, r⟩ := x
  exact ⟨o, its, n, k o h1, r⟩
theorem seq_at {items : List Value} {qs : List Qd} {prs : List (List Key × Addr × Value)} (hi : items = qs.map fun q => Value.ref q.1) (hl : prs.length = qs.length)
    (hp : ∀ (j : Nat) (q : Qd), qs[j]? = some q → ∃ u, prs[j]? = some (q.2.2.1, q.2.1, u) ∧ IsTup s.heap q.1 #[.ref q.2.1, u]) :
    PairItems s.heap items.toArray (fun j => ((qs[j]?).map (·.1)).getD 0) (prs.map fun p => (Value.ref p.2.1, p.2.2)) := by
  subst hi
  refine ⟨by simp [hl], fun j k v e => ?_⟩
  rw [List.getElem?_map] at e
  obtain ⟨p, e1, e2⟩ := Option.map_eq_some_iff.mp e
  have hj : j < qs.length := by rw [← hl]; exact (List.getElem?_eq_some_iff.mp e1).1
  obtain ⟨q, hq⟩ : ∃ q, qs[j]? = some q := ⟨qs[j], List.getElem?_eq_getElem hj⟩
  obtain ⟨u, e3, e4⟩ := hp j q hq
  rw [e1] at e3
  cases e3
  cases e2
  refine ⟨by simp [hq], .inl ?_⟩
  simp only [hq, Option.map_some, Option.getD_some]
  exact e4
theorem call_dictT (hc : X.calm = true) (hu : X.A.units + 2 < cLine) : CallR X (.type "dict") (rDictT X.K) := by
  intro pins s σ H xs us Q I r q
  obtain ⟨a, qs, rfl, hq, hp, q⟩ := q
  obtain ⟨u, rfl, rx⟩ := vals1 r
  cases rx
  obtain ⟨prs, rel, hl, hpr⟩ := quads_of I hp
  have hbig : (s.heap.objs.size == sysModules) = false := beq_eq_false_iff_ne.mpr (Nat.ne_of_gt I.big)
  have is0 : ∀ {l : List (List Key × V)} {m : List (List Key × Addr × Value)}, KT H l m → ∀ x ∈ m, (tupleKind (mixKind X.prog X.w)).is s.heap x.1 x.2.1 := by
    intro l m z
    induction z with
    | nil => intro x hx; cases hx
    | cons r t ih =>
      intro x hx
      rcases List.mem_cons.mp hx with rfl | hx
      · obtain ⟨e1, e2, _⟩ := r
        rw [← e1]
        exact key_of I.hok e2
      · exact ih x hx
  have stay : KeysStay (tupleKind (mixKind X.prog X.w)) s.heap s.heap.objs.size [] prs := fun h' k x hx => by
    have z := is0 rel x hx
    refine tupKey_keep z fun o e => k _ o (Nat.ne_of_lt (Heap.lt_size e)) (by simp) e
  have have_ : PairsHaveH (tupleKind (mixKind X.prog X.w)) (prs.map fun p => (Value.ref p.2.1, p.2.2)).length (PairRel (prs.map fun p => (Value.ref p.2.1, p.2.2))) prs := ⟨by simp, fun i key v e => by
    have e : (prs.map fun p => (Value.ref p.2.1, p.2.2))[i]? = some (key, v) := e
    rw [List.getElem?_map] at e
    obtain ⟨p, e1, e2⟩ := Option.map_eq_some_iff.mp e
    cases e2
    exact ⟨p.1, p.2.1, e1, rfl⟩⟩
  have fin : prs.length ≤ sizeLine → ∀ h' tk, h'.DictOfH (tupleKind (mixKind X.prog X.w)) s.heap.objs.size (storedAllH [] prs) → (∀ b o, b ∉ ([] : List Addr) → s.heap.get? b = some o → h'.get? b = some o) → EP X pins σ Q (.ref s.heap.objs.size) { s with heap := h', toks := tk } := fun hz h' tk dd k => by
    obtain ⟨o, es, ep, h1, h2, h3, h4, _, h5⟩ := dd
    have hlen : (mergeT [] (qs.map (·.2.2))).length ≤ sizeLine := by
      have := length_mergeT (qs.map (·.2.2)) []
      simp only [List.length_nil, List.length_map, Nat.zero_add] at this
      omega
    have nf := I.hok.fresh (Nat.le_refl s.heap.objs.size)
    refine ⟨.ref s.heap.objs.size, upd H s.heap.objs.size (.dT (mergeT [] (qs.map (·.2.2)))), I.laid (t' := tk) (fun b u e => k b u (by simp) e) (Nat.le_refl _) ⟨hlen, hbig, _, KT.keeps (KT.mergeT rel .nil) (fun b ys e => by rw [upd_ne (ne_of_none e nf)]; exact e), o, es, ep, h1, h2, h3, h4, h5⟩, rfl, q _ nf⟩
  rcases hq with hq | ⟨o, hq, hd⟩
  · obtain ⟨its, rv, pl, hz⟩ := I.list hq
    have ei : its = qs.map fun q => Value.ref q.1 := by
      have z := refs_at (ps := qs.map (·.1)) (us := its) (by rw [List.map_map]; exact rv)
      rw [List.map_map] at z
      exact z
    obtain ⟨o, n, ho, hc', hd, hdat⟩ := pl
    rw [List.length_map] at hz
    refine PySem.call_dict_pairsH (knd := tupleKind (mixKind X.prog X.w)) (ps := prs) (PairArg.list a its.toArray (fun j => ((qs[j]?).map (·.1)).getD 0) (prs.map fun p => (Value.ref p.2.1, p.2.2))) (I.ok.hd hc) (by show X.A.units + 1 + 1 < cLine; omega) ⟨⟨o, n, ho, hc', hd, hdat⟩, seq_at ei hl hpr⟩ have_ stay (by simp [hl]; exact hz) (fin (by rw [hl]; exact hz))
  · obtain ⟨hg, hz, its, rv, o', hg', hc', n, hdat⟩ := I.hok a _ hq
    rw [hg] at hg'
    cases hg'
    have ei : its = qs.map fun q => Value.ref q.1 := by
      have z := refs_at (ps := qs.map (·.1)) (us := its) (by rw [List.map_map]; exact rv)
      rw [List.map_map] at z
      exact z
    rw [List.length_map] at hz
    refine PySem.call_dict_pairsH (knd := tupleKind (mixKind X.prog X.w)) (ps := prs) (PairArg.tuple a its.toArray (fun j => ((qs[j]?).map (·.1)).getD 0) (prs.map fun p => (Value.ref p.2.1, p.2.2))) (I.ok.hd hc) (by show X.A.units + 1 + 1 < cLine; omega) ⟨⟨o, n, hg, hc', hd, hdat⟩, seq_at ei hl hpr⟩ have_ stay (by simp [hl]; exact hz) (fin (by rw [hl]; exact hz))
end

def pairsT (kvs : List (List Key × D)) : List D := kvs.map fun kv => .tup [keysD kv.1, kv.2]
/-- dict(xs): an owned dict with tuple keys -/
def dictTR : C3 := fun ds G Q => ∃ kvs, (ds = [.lst (pairsT kvs)] ∨ ds = [.nod .tuF (pairsT kvs)]) ∧ ∀ p, G p = none → Q (.ref p) (gset G p (.dT (merge [] kvs)))
section
variable {K : PySem.W.Frag} {Γ : Gm} {H : Hp} {G : Gp}
theorem datL_pairsT : ∀ {kvs : List (List Key × D)} {vs : List V}, DatL K Γ H G (pairsT kvs) vs → ∃ qs : List Qd, vs = qs.map (fun q => V.ref q.1) ∧ (∀ q ∈ qs, H q.1 = some (.tup [.ref q.2.1, q.2.2.2]) ∧ H q.2.1 = some (.tup (q.2.2.1.map kV))) ∧ DatF K Γ H G kvs (qs.map (·.2.2))
  | [], _, h => ⟨[], h, (fun q hq => by cases hq), .nil⟩
  | (k, d) :: kvs, _, h => by
    obtain ⟨v, r, rfl, ⟨p, us, rfl, h1, l⟩, h3⟩ := h
    obtain ⟨qs, rfl, h4, h5⟩ := datL_pairsT h3
    obtain ⟨u1, u2, rfl, d1, d2⟩ := datL_two l
    obtain ⟨b, rfl, hb⟩ := dat_keys d1
    refine ⟨(p, b, k, u2) :: qs, rfl, fun q hq => ?_, .cons ⟨rfl, d2⟩ h5⟩
    rcases List.mem_cons.mp hq with rfl | hq
    · exact ⟨h1, hb⟩
    · exact h4 q hq
theorem datF_mergeT : ∀ {more : List (List Key × D)} {ms : List (List Key × V)} {kvs : List (List Key × D)} {vs : List (List Key × V)}, DatF K Γ H G more ms → DatF K Γ H G kvs vs → DatF K Γ H G (merge kvs more) (mergeT vs ms)
  | _, _, _, _, .nil, h => h
  | (k, d) :: more, (k', v) :: ms, _, _, .cons r t, h => by
    obtain ⟨e, r2⟩ := r
    have e : k = k' := e
    subst e
    exact datF_mergeT (more := more) (ms := ms) t (datF_put h k r2)
end
section
variable {X : Cx} {Γ : Gm}
theorem sound_dictT : SoundN X.K Γ (rDictT X.K) dictTR := by
  intro xs vs H G Q3 Q R hl h k
  obtain ⟨kvs, hx, q⟩ := h
  have fin : ∀ {qs : List Qd}, DatF X.K Γ H G kvs (qs.map (·.2.2)) → ∀ p, H p = none → Q (.ref p) (upd H p (.dT (mergeT [] (qs.map (·.2.2))))) := fun {qs} h5 p hp => by
    have st : Step X.K H G (upd H p (.dT (mergeT [] (qs.map (·.2.2))))) (gset G p (.dT (merge [] kvs))) := Step.newG hp (own_none R hp)
    refine k (.ref p) _ _ _ st (R.newG (g := .dT (merge [] kvs)) hp ⟨_, upd_same, DatF.mono st (datF_mergeT h5 .nil)⟩) rfl ?_
    rw [vis_gset (by intro z; cases z)]
    exact q p (vis_none (own_none R hp))
  rcases hx with rfl | rfl
  · obtain ⟨v, rfl, a, us, rfl, h2, l⟩ := datL_one hl
    obtain ⟨qs, rfl, h4, h5⟩ := datL_pairsT l
    exact ⟨a, qs, rfl, .inl (SqL.of h2.2), h4, fin h5⟩
  · obtain ⟨v, rfl, a, us, rfl, ⟨_, o, h2, hd⟩, l⟩ := datL_one hl
    obtain ⟨qs, rfl, h4, h5⟩ := datL_pairsT l
    exact ⟨a, qs, rfl, .inr ⟨o, h2, hd⟩, h4, fin h5⟩
end
end L3
/-! L3z: == and != of dicts. -/
namespace DQ
open PySem PySem.Calls PyProof.Rows PyProof.V PySem.Spec PySem.W
section
variable {prog : Program} {w : World} {K : Type} [DecidableEq K] {knd : HeapKind prog w K} {A : Around} {E : Value → Shared → Prop} {s : Shared}
/-- the entries one by one: is there one of the same key, are the values equal -/
inductive Hits (prog : Program) (w : World) (A : Around) (s : Shared) (xb : List (K × Addr × Value)) : List (K × Addr × Value) → Bool → Prop
  | nil : Hits prog w A s xb [] true
  | no {x : K × Addr × Value} {r : List (K × Addr × Value)} : atKey xb x.1 = none → Hits prog w A s xb (x :: r) false
  | yes {x : K × Addr × Value} {p : Addr × Value} {r : List (K × Addr × Value)} {e b : Bool} : atKey xb x.1 = some p → SeqAt.EqP prog w A s x.2.2 p.2 e → Hits prog w A s xb r b → Hits prog w A s xb (x :: r) (e && b)
theorem range_cons {i n x : Nat} {rest : List Nat} (h : x :: rest = List.range' i (n - i)) : x = i ∧ i < n ∧ rest = List.range' (i + 1) (n - (i + 1)) := by
  rcases Nat.lt_or_ge i n with l | l
  · rw [show n - i = (n - (i + 1)) + 1 by omega, List.range'_succ] at h
    cases h
    exact ⟨rfl, l, rfl⟩
  · rw [Nat.sub_eq_zero_of_le l] at h
    cases h
theorem range_nil {i n : Nat} (h : [] = List.range' i (n - i)) (hi : i ≤ n) : i = n := by
  rcases Nat.lt_or_ge i n with l | l
  · rw [show n - i = (n - (i + 1)) + 1 by omega, List.range'_succ] at h
    cases h
  · omega
theorem same_tab {nm : String} {a b : Addr} {xa xb : List (K × Addr × Value)} {r : Bool} {Q : Bool → Shared → Prop} (hu : knd.room A) (ha : (a == sysModules) = false) (hb : (b == sysModules) = false)
    (da : s.heap.DictOfH knd a xa) (db : s.heap.DictOfH knd b xb) (hits : xa.length = xb.length → Hits prog w A s xb xa r) (h : Q (xa.length == xb.length && r) s) : wpAny (model prog w) A (Builtin.Dict.samePairs nm a b) Q E s := by
  obtain ⟨o1, es, ep, e1, _, d1, k1, i1, n1⟩ := da
  obtain ⟨o2, fs, fp, e2, _, d2, k2, i2, n2⟩ := db
  have l1 := size_of_entries k1
  have l2 := size_of_entries k2
  rw [← l1, ← l2] at h
  have na : ¬ (a == sysModules) = true := by rw [ha]; exact Bool.false_ne_true
  have nb : ¬ (b == sysModules) = true := by rw [hb]; exact Bool.false_ne_true
  unfold Builtin.Dict.samePairs Builtin.Dict.showsAll
  rw [if_neg na, if_neg nb]
  refine wpAny_bind (wpAny_pure (wpAny_bind (wpAny_pure (wpAny_bind (wpAny_dictEntries e1 d1 ?_)))))
  dsimp only
  refine wpAny_bind (wpAny_dictEntries e2 d2 ?_)
  by_cases hz : es.size = fs.size
  · rw [if_neg (by rw [hz]; simp)]
    have hq : Q r s := by simpa [hz] using h
    have h0 := hits (by rw [← l1, ← l2]; exact hz)
    refine wpAny_bind (wpAny_dictEpoch e1 d1 (wpAny_bind ?_))
    rw [Std.Legacy.Range.forIn_eq_forIn_range']
    simp only [Std.Legacy.Range.size, Nat.sub_zero, Nat.add_sub_cancel, Nat.div_one]
    refine wpAny_forIn_list _ (fun rest q s' => s' = s ∧ q = (none, ()) ∧ ∃ i, i ≤ es.size ∧ rest = List.range' i (es.size - i) ∧ Hits prog w A s xb (xa.drop i) r) _ ?_ ?_ _ _ ⟨rfl, rfl, 0, Nat.zero_le _, by simp, h0⟩
    · rintro x rest q s' ⟨rfl, rfl, i, hi, hr, ht⟩
      obtain ⟨rfl, hlt, rfl⟩ := range_cons hr
      refine wpAny_bind (wpAny_dictEntries e1 d1 ?_)
      rw [Array.getElem?_eq_getElem hlt]
      have hx : x < xa.length := by omega
      have ex : es[x] = entryOfKey knd xa[x] := by
        have z := entry_at k1 x
        rw [Array.getElem?_eq_getElem hlt, List.getElem?_eq_getElem hx] at z
        exact Option.some.inj z
      have dr : xa.drop x = xa[x] :: xa.drop (x + 1) := List.drop_eq_getElem_cons hx
      rw [dr] at ht
      rw [ex]
      generalize hg : xa[x] = y at ht
      have im : knd.is s'.heap y.1 y.2.1 := by rw [← hg]; exact i1 _ (List.getElem_mem hx)
      show wpAny _ _ (holding [(entryOfKey knd y).key, (entryOfKey knd y).val] _ >>= _) _ _ _
      refine wpAny_bind (wpAny_holding (wpAny_bind (wpAny_dictFind_heap (xs := xb) hu im e2 d2 k2 i2 n2 (fun hn => ?_) fun j p hj => ?_)))
      · have no : atKey xb y.1 = none := by
          cases q : atKey xb y.1 with
          | none => rfl
          | some p =>
            obtain ⟨z, hz1, hz2⟩ := Option.map_eq_some_iff.mp (show (xb.find? fun x => decide (x.1 = y.1)).map (·.2) = some p from q)
            obtain ⟨j, hj⟩ := List.mem_iff_getElem?.mp (List.mem_of_find?_eq_some hz1)
            have ek : z.1 = y.1 := by simpa using List.find?_some hz1
            exact absurd (show xb[j]? = some (y.1, z.2) by rw [hj, ← ek]) (hn j z.2)
        generalize hl : y :: xa.drop (x + 1) = L at ht
        cases ht with
        | nil => cases hl
        | no _ =>
          refine wpAny_pure ?_
          show wpAny _ _ (if (!false) = true then _ else _) _ _ _
          rw [if_pos (by decide)]
          exact wpAny_pure (wpAny_pure hq)
        | yes hs _ _ => cases hl; rw [no] at hs; cases hs
      · have hjl : j < fs.size := by
          have := (List.getElem?_eq_some_iff.mp hj).1
          omega
        have so : atKey xb y.1 = some p := by
          cases q : atKey xb y.1 with
          | none =>
            have z : (xb.find? fun x => decide (x.1 = y.1)) = none := Option.map_eq_none_iff.mp q
            have := List.find?_eq_none.mp z (y.1, p) (List.mem_of_getElem? hj)
            simp at this
          | some p' =>
            obtain ⟨z, hz1, hz2⟩ := Option.map_eq_some_iff.mp (show (xb.find? fun x => decide (x.1 = y.1)).map (·.2) = some p' from q)
            obtain ⟨j', hj'⟩ := List.mem_iff_getElem?.mp (List.mem_of_find?_eq_some hz1)
            have ek : z.1 = y.1 := by simpa using List.find?_some hz1
            have hj2 : xb[j']? = some (y.1, z.2) := by rw [hj', ← ek]
            have e := idxH_unique n2 hj2 hj
            subst e
            rw [hj] at hj2
            cases hj2
            rw [← hz2]
        have ef : fs[j] = entryOfKey knd (y.1, p) := by
          have z := entry_at k2 j
          rw [Array.getElem?_eq_getElem hjl, hj] at z
          exact Option.some.inj z
        refine wpAny_bind (wpAny_dictEntries e2 d2 ?_)
        rw [Array.getElem?_eq_getElem hjl]
        generalize hl : y :: xa.drop (x + 1) = L at ht
        cases ht with
        | nil => cases hl
        | no hn => cases hl; rw [so] at hn; cases hn
        | @yes _ p' _ e b' hs he hr' =>
          cases hl
          rw [so] at hs
          cases hs
          have ev : (fs[j]).val = p.2 := by rw [ef] <;> rfl
          rw [← ev] at he
          refine wpAny_holding (he _ _ ?_)
          cases e with
          | false =>
            show wpAny _ _ (if (!false) = true then _ else _) _ _ _
            rw [if_pos (by decide)]
            exact wpAny_pure (wpAny_pure (by simpa using hq))
          | true =>
            show wpAny _ _ (if (!true) = true then _ else _) _ _ _
            rw [if_neg (by decide)]
            refine wpAny_bind (wpAny_dictEpoch e1 d1 ?_)
            rw [if_neg (by simp)]
            refine wpAny_pure ⟨rfl, rfl, x + 1, hlt, rfl, ?_⟩
            rw [Bool.true_and]
            exact hr'
    · rintro q s' ⟨rfl, rfl, i, hi, hr, ht⟩
      have ei := range_nil hr hi
      rw [ei, l1, List.drop_length] at ht
      cases ht
      exact wpAny_pure hq
  · rw [if_pos (by simpa using hz)]
    have hf : (es.size == fs.size) = false := by simpa using hz
    rw [hf, Bool.false_and] at h
    exact wpAny_bind (wpAny_rule (wpAny_pure h))
theorem tab_eq {a b : Addr} {xa xb : List (K × Addr × Value)} {r : Bool} {Q : Value → Shared → Prop} (hu : knd.room A.in1) (ha : (a == sysModules) = false) (hb : (b == sysModules) = false) (da : s.heap.DictOfH knd a xa) (db : s.heap.DictOfH knd b xb) (hc : A.units < cLine)
    (hits : xa.length = xb.length → Hits prog w A.in1 s xb xa r) (h : Q (.bool (xa.length == xb.length && r)) s) : wpAny (model prog w) A (compareOp .Eq (.ref a) (.ref b)) Q E s := by
  have t1 : s.TypeIs (.ref a) "dict" := Heap.DictOfH.typeIs da
  have t2 : s.TypeIs (.ref b) "dict" := Heap.DictOfH.typeIs db
  refine wpAny_richCompare_same_room (op := .Eq) t1 t2 PySem.F.slot_dict_eq (wpAny_call_entry PySem.F.slot_dict_eq t1 PySem.F.entry_dict_eq ?_ (PySem.F.args_dict_eq_2 _ _)) hc
  show wpAny _ _ (Builtin.Dict.dictSlotArgs _ _ >>= _) _ _ s
  unfold Builtin.Dict.dictSlotArgs
  refine wpAny_bind (wpAny_bind (wpAny_notOrdered_dict t1 ?_))
  show wpAny _ _ (pure (Value.ref a, Value.ref b)) _ _ s
  refine wpAny_pure (wpAny_bind (wpAny_isInstance (T := "dict") t2 PySem.F.sub_dict_dict ?_))
  simp only [Bool.not_true, Bool.false_eq_true, if_false]
  refine wpAny_bind (wpAny_pure (wpAny_bind (wpAny_pure (wpAny_bind (same_tab hu ha hb da db hits (wpAny_pure ⟨_, rfl, (fun z => nomatch z), ?_⟩))))))
  simpa using h
theorem tab_ne {a b : Addr} {xa xb : List (K × Addr × Value)} {r : Bool} {Q : Value → Shared → Prop} (hu : knd.room A.in1) (ha : (a == sysModules) = false) (hb : (b == sysModules) = false) (da : s.heap.DictOfH knd a xa) (db : s.heap.DictOfH knd b xb) (hc : A.units < cLine)
    (hits : xa.length = xb.length → Hits prog w A.in1 s xb xa r) (h : Q (.bool (!(xa.length == xb.length && r))) s) : wpAny (model prog w) A (compareOp .NotEq (.ref a) (.ref b)) Q E s := by
  have t1 : s.TypeIs (.ref a) "dict" := Heap.DictOfH.typeIs da
  have t2 : s.TypeIs (.ref b) "dict" := Heap.DictOfH.typeIs db
  refine wpAny_richCompare_same_room (op := .NotEq) t1 t2 PySem.F.slot_dict_ne (wpAny_call_entry PySem.F.slot_dict_ne t1 PySem.F.entry_dict_ne ?_ (PySem.F.args_dict_ne_2 _ _)) hc
  show wpAny _ _ (Builtin.Dict.dictSlotArgs _ _ >>= _) _ _ s
  unfold Builtin.Dict.dictSlotArgs
  refine wpAny_bind (wpAny_bind (wpAny_notOrdered_dict t1 ?_))
  show wpAny _ _ (pure (Value.ref a, Value.ref b)) _ _ s
  refine wpAny_pure (wpAny_bind (wpAny_isInstance (T := "dict") t2 PySem.F.sub_dict_dict ?_))
  simp only [Bool.not_true, Bool.false_eq_true, if_false]
  refine wpAny_bind (wpAny_pure (wpAny_bind (wpAny_pure (wpAny_bind (same_tab hu ha hb da db hits (wpAny_pure ⟨_, rfl, (fun z => nomatch z), ?_⟩))))))
  simpa using h
end
end DQ
namespace L3
open PySem PySem.Spec PyProof.Rows L2
/-! ### over the abstract heap -/
inductive TabHit (K : PySem.W.Frag) (H : Hp) (ls : List (List Key × V)) : List (List Key × V) → Bool → Prop
  | nil : TabHit K H ls [] true
  | no {p : List Key × V} {r : List (List Key × V)} : valV ls p.1 = none → TabHit K H ls (p :: r) false
  | yes {p : List Key × V} {r : List (List Key × V)} {v : V} {d e : PyData} {b : Bool} : valV ls p.1 = some v → Dp K H p.2 d → Dp K H v e → SeqAt.shaped d = true → SeqAt.shaped e = true → TabHit K H ls r b → TabHit K H ls (p :: r) (PyData.eqv d e && b)
def rTabC (K : PySem.W.Frag) (neg : Bool) : R2 := fun x y H Q => ∃ (a b : Addr) (ks ls : List (List Key × V)) (r : Bool), x = .ref a ∧ y = .ref b ∧ Rd H a (.dT ks) ∧ Rd H b (.dT ls) ∧ TabHit K H ls ks r ∧
  Q (.bl (if neg then !(ks.length == ls.length && r) else (ks.length == ls.length && r))) H
section
variable {X : Cx} {pins : List (Addr × Obj)} {σ : L2.St} {H : Hp} {s : Shared}
theorem hits_of (I : Inv X pins σ H s) (hu : X.A.in1.units + 64 < cLine) {ls : List (List Key × V)} {xb : List (List Key × Addr × Value)} (rb : KT H ls xb) : ∀ {ks : List (List Key × V)} {xa : List (List Key × Addr × Value)} {r : Bool}, KT H ks xa → TabHit X.K H ls ks r → DQ.Hits X.prog X.w X.A.in1 s xb xa r
  | _, _, _, .nil, .nil => .nil
  | p :: ks, q :: xa, _, .cons r t, .no e => by
    obtain ⟨r1, r2, r3⟩ := r
    have rv := rb.val p.1
    rw [e] at rv
    cases e2 : atKey xb p.1 with
    | none => exact .no (by rw [← r1]; exact e2)
    | some z => rw [e2] at rv; exact (show False from rv).elim
  | p :: ks, q :: xa, _, .cons r t, .yes e h1 h2 h3 h4 ht => by
    obtain ⟨r1, r2, r3⟩ := r
    have rv := rb.val p.1
    rw [e] at rv
    cases e2 : atKey xb p.1 with
    | none => rw [e2] at rv; exact (show False from rv).elim
    | some z =>
      rw [e2] at rv
      obtain ⟨as, ra⟩ := Dp.reads I _ p.2 q.2.2 h1 r3
      obtain ⟨bs, rb'⟩ := Dp.reads I _ _ z.2 h2 rv
      exact .yes (by rw [← r1]; exact e2) (SeqAt.EqAt.eqP (PySem.W.keq_at (A := X.A) ra rb' h3 h4 hu)) (hits_of I hu rb t ht)
theorem op_eqT (hu : X.A.units + 65 < cLine) : OpR X (compareOp .Eq) (rTabC X.K false) := by
  intro pins s σ H x y v u Q I rx ry ⟨a, b, ks, ls, r, ex, ey, ha, hb, hv, q⟩
  subst ex ey
  obtain rfl : v = Value.ref a := rx
  obtain rfl : u = Value.ref b := ry
  obtain ⟨_, h1, xa, ra, da⟩ := dt_rd I.hok ha
  obtain ⟨_, h2, xb, rb, db⟩ := dt_rd I.hok hb
  refine DQ.tab_eq (knd := tupleKind (mixKind X.prog X.w)) (by show X.A.units + 1 < cLine; omega) h1 h2 da db (by omega) (fun _ => hits_of I (by show X.A.units + 1 + 64 < cLine; omega) rb ra hv) ⟨.bl _, H, I, rfl, ?_⟩
  rw [← Paired.length ra, ← Paired.length rb]
  exact q
theorem op_neT (hu : X.A.units + 65 < cLine) : OpR X (compareOp .NotEq) (rTabC X.K true) := by
  intro pins s σ H x y v u Q I rx ry ⟨a, b, ks, ls, r, ex, ey, ha, hb, hv, q⟩
  subst ex ey
  obtain rfl : v = Value.ref a := rx
  obtain rfl : u = Value.ref b := ry
  obtain ⟨_, h1, xa, ra, da⟩ := dt_rd I.hok ha
  obtain ⟨_, h2, xb, rb, db⟩ := dt_rd I.hok hb
  refine DQ.tab_ne (knd := tupleKind (mixKind X.prog X.w)) (by show X.A.units + 1 < cLine; omega) h1 h2 da db (by omega) (fun _ => hits_of I (by show X.A.units + 1 + 64 < cLine; omega) rb ra hv) ⟨.bl _, H, I, rfl, ?_⟩
  rw [← Paired.length ra, ← Paired.length rb]
  exact q
end
/-- the pairs of an owned dict with tuple keys -/
@[simp] def tabT (x : D) (G : Gp) : Option (List (List Key × D)) := match x with
  | .ref a => (match G a with | some (.dT ks) => some ks | some (.lkT ks) => some ks | _ => none)
  | _ => none
def eqTab (ks ls : List (List Key × D)) : Bool := ks.length == ls.length && ks.all fun p => ((look ls p.1).map (eq3 p.2)).getD false
@[simp] def eqTC (neg : Bool) : R3 := fun x y G Q => onS (tabT x G) fun ks => onS (tabT y G) fun ls => (ks.all fun p => gd 60 p.2) = true ∧ (ls.all fun p => gd 60 p.2) = true ∧ Q (.bl (ngB neg (eqTab ks ls))) G
section
variable {K : PySem.W.Frag} {Γ : Gm}
theorem tabT_at {H : Hp} {G : Gp} {x : D} {v : V} {ks : List (List Key × D)} (R : HpR K Γ H G) (e : tabT x (vis G) = some ks) (dv : Dat K Γ H G x v) : ∃ a vs, v = .ref a ∧ Rd H a (.dT vs) ∧ DatF K Γ H G ks vs := by
  unfold tabT at e
  split at e
  · split at e
    · rename_i hg
      cases e
      exact DTat.at R (.inr ⟨_, rfl, .inl hg⟩) dv
    · rename_i hg
      cases e
      exact DTat.at R (.inr ⟨_, rfl, .inr hg⟩) dv
    · cases e
  · cases e
theorem look_mem {κ : Type} [DecidableEq κ] {ls : List (κ × D)} {k : κ} {d : D} (h : look ls k = some d) : (k, d) ∈ ls := by
  obtain ⟨z, h1, h2⟩ := Option.map_eq_some_iff.mp h
  have e := List.find?_some h1
  have m := List.mem_of_find?_eq_some h1
  obtain ⟨a, b⟩ := z
  simp at e h2
  rw [← e, ← h2]
  exact m
theorem tabHit {H : Hp} {G : Gp} {ls : List (List Key × D)} {us : List (List Key × V)} (f2 : DatF K Γ H G ls us) (g2 : ∀ p ∈ ls, gd 60 p.2 = true) : ∀ {ks : List (List Key × D)} {vs : List (List Key × V)}, DatF K Γ H G ks vs → (∀ p ∈ ks, gd 60 p.2 = true) →
    TabHit K H us vs (ks.all fun p => ((look ls p.1).map (eq3 p.2)).getD false)
  | _, _, .nil, _ => .nil
  | p :: ks, q :: vs, .cons r t, g1 => by
    have ih := tabHit f2 g2 t fun p' hp => g1 p' (List.mem_cons_of_mem _ hp)
    have gp := g1 p (List.mem_cons_self ..)
    rw [List.all_cons]
    rcases datF_look f2 p.1 with ⟨e, w, l1, l2, d2⟩ | ⟨l1, l2⟩
    · rw [l1]
      have ge := g2 _ (look_mem l1)
      exact .yes (by rw [← r.1]; exact l2) (dat_dp 60 _ _ gp r.2) (dat_dp 60 _ _ ge d2) (gd_shaped gp) (gd_shaped ge) ih
    · rw [l1]
      exact .no (by rw [← r.1]; exact l2)
theorem sound_eqT (neg : Bool) : Sound2 K Γ (rTabC K neg) (eqTC neg) := by
  intro x y v u H G Q3 Q R hx hy h k
  obtain ⟨ks, e1, h⟩ := onS_iff.mp h
  obtain ⟨ls, e2, g1, g2, q⟩ := onS_iff.mp h
  obtain ⟨a, vs, rfl, r1, f1⟩ := tabT_at R e1 hx
  obtain ⟨b, us, rfl, r2, f2⟩ := tabT_at R e2 hy
  rw [List.all_eq_true] at g1 g2
  refine ⟨a, b, vs, us, _, rfl, rfl, r1, r2, tabHit f2 g2 f1 g1, ret k R q ?_⟩
  rw [← DatF.length f1, ← DatF.length f2]
  rfl
end
end L3
/-! L4a: list(d.items()). -/
namespace L3
open PySem PySem.Spec PyProof.Rows L2
open LamX (ExtN Tabs)

section
variable {X : Cx} {pins : List (Addr × Obj)} {σ : L2.St} {H : Hp} {s : Shared}
/-- list(v), v the items of a dict with tuple keys -/
def rListIt : List V → Hp → VK → Prop := fun xs H Q => ∃ (p a : Addr) (kvs : List (List Key × V)), xs = [.ref p] ∧ H p = some (DX.itemsO p a) ∧ H a = some (.dT kvs) ∧
  ∀ (H' : Hp) (l : Addr) (qs : List Qd), (∀ b o, H b = some o → H' b = some o) → H l = none → qs.map (·.2.2) = kvs → H' l = some (.lst (qs.map fun q => V.ref q.1)) → (∀ q ∈ qs, H' q.1 = some (.tup [.ref q.2.1, q.2.2.2]) ∧ H' q.2.1 = some (.tup (q.2.2.1.map kV))) → Q (.ref l) H'
theorem quads_made {h : Heap} : ∀ {as : List Addr} {kvs : List (List Key × V)} {xs : List (List Key × Addr × Value)}, as.length = xs.length → KT H kvs xs → (∀ (j : Nat) (a : Addr) (x : List Key × Addr × Value), as[j]? = some a → xs[j]? = some x → h.get? a = some { cls := .type "tuple", data := .seq #[.ref x.2.1, x.2.2] }) →
    ∃ qs : List Qd, qs.map (·.1) = as ∧ qs.map (·.2.2) = kvs ∧ ∀ q ∈ qs, H q.2.1 = some (.tup (q.2.2.1.map kV)) ∧ ∃ u, RelV q.2.2.2 u ∧ h.get? q.1 = some { cls := .type "tuple", data := .seq #[.ref q.2.1, u] }
  | [], _, _, _, .nil, _ => ⟨[], rfl, rfl, fun q hq => by cases hq⟩
  | [], _, _ :: _, hl, _, _ => by simp at hl
  | _ :: _, _, [], hl, _, _ => by simp at hl
  | a :: as, p :: kvs, x :: xs, hl, .cons r t, hp => by
    obtain ⟨qs, e1, e2, e3⟩ := quads_made (as := as) (by simpa using hl) t fun j a x h1 h2 => hp (j + 1) a x (by simpa using h1) (by simpa using h2)
    obtain ⟨r1, r2, r3⟩ := r
    refine ⟨(a, x.2.1, p) :: qs, by simp [e1], by simp [e2], fun q hq => ?_⟩
    rcases List.mem_cons.mp hq with rfl | hq
    · exact ⟨r2, x.2.2, r3, hp 0 a x rfl rfl⟩
    · exact e3 q hq
theorem init_items {prog : Program} {w : World} {A : Around} {r d S : Addr} {es : Array DictEntry} {ep : Nat} {R : Result → Shared → Prop} (hh : A.handled = none) (hv : s.heap.IsItemsView r d) (hm : DT.Raw s.heap d es ep) (hSr : S ≠ r) (hSd : d ≠ S) (hS : s.heap.get? S = some { cls := .type "list", data := .seq #[] }) (hn : es.size ≤ sizeLine)
    (hR : ∀ h' tk acc c as, (∀ b o, b ≠ S → s.heap.get? b = some o → h'.get? b = some o) → h'.get? S = some { cls := .type "list", dict := none, data := .seq acc c, slots := #[] } → as.length = es.size → DT.Made es S h' as → acc.toList = as.map Value.ref → R (.ok (.ret .none)) { s with heap := h', toks := tk }) :
    wpAny (model prog w) A.in1 (Builtin.«list.__init__» ⟨[.ref S, .ref r], []⟩) (fun fin s' => match fin with | .done f => R (.ok f) s' | .again c' => c'.quiet = true ∧ codeAny (model prog w) A c' R s') (fun e s' => R (.error e) s') s := by
  have z2 := Heap.get?_update_self (Obj.mapSeq (fun _ => (#[] : Array Value))) hS rfl
  have up : ∀ b o, b ≠ S → s.heap.get? b = some o → (s.heap.update S (Obj.mapSeq (fun _ => (#[] : Array Value)))).get? b = some o := fun b o hb e => (Heap.get?_update_other _ _ (Ne.symm hb)).trans e
  show wpAny _ _ (Builtin.List.listItems (.ref S) >>= _) _ _ s
  unfold Builtin.List.listItems
  refine wpAny_bind (wpAny_bind (wpAny_seqItems hS rfl (wpAny_pure ?_)))
  show wpAny _ _ (updateSeq S (fun _ => #[]) >>= _) _ _ s
  refine wpAny_bind (wpAny_updateSeq hS rfl (wpAny_bind (wpAny_letGo ?_)))
  refine DT.extI (es := es) (ep := ep) hh (let ⟨o, ho, x⟩ := hv; ⟨o, up r o hSr.symm ho, x⟩) (hm.at' fun o e => up d o hSd e) S hSr hSd .none _ z2 (fun h' tk acc c as k e l m ea => ?_) hn
  exact hR h' tk acc c as (fun b o hb e => k b o hb (up b o hb e)) e l (m.low (Nat.le_of_lt (Heap.lt_size z2))) ea
theorem call_listIt (hc : X.calm = true) : CallR X (.type "list") rListIt := by
  intro pins s σ H xs us Q I r ⟨p, a, kvs, ex, hp, ha, q⟩
  subst ex
  obtain ⟨u, rfl, rx⟩ := vals1 r
  cases rx
  obtain ⟨z, hd, ks, rel, o, es, ep, ho, hx, hdt, he, hn⟩ := (show ObjOk X.prog X.w H s.heap a (.dT kvs) from I.hok a _ ha)
  obtain ⟨hv, _, _⟩ := I.hok p _ hp
  have hv : s.heap.IsItemsView p a := hv
  have l1 : es.size = ks.length := size_of_entries he
  have l2 : kvs.length = ks.length := Paired.length rel
  have hpl : p < s.heap.objs.size := let ⟨_, e, _⟩ := hv; Heap.lt_size e
  refine callType_codes (Q₁ := fun obj s₁ => obj = .ref s.heap.objs.size ∧ s₁ = { s with heap := s.heap.push { cls := .type "list", data := .seq #[] } }) PySem.F.called_list (PySem.F.typeCall_list_1 _) PySem.F.entry_list_init (code_list_new _ ⟨rfl, rfl⟩) fun obj s₁ ⟨e1, e2⟩ => ?_
  subst e1 e2
  have hS : (s.heap.push { cls := .type "list", data := .seq #[] }).get? s.heap.objs.size = some { cls := .type "list", data := .seq #[] } := Heap.get?_push_size _ rfl
  refine ⟨⟨_, hS, rfl⟩, PySem.F.args_list_init_2 _ _, init_items (A := X.A.in1) (es := es) (ep := ep) (I.ok.hd hc) (let ⟨o, ho, x⟩ := hv; ⟨o, Heap.get?_push_of_some _ ho, x⟩) (DT.Raw.push ⟨o, ho, hx, hdt⟩ _) (Nat.ne_of_gt hpl) (Nat.ne_of_lt (Heap.lt_size ho)) hS (by omega) fun h' tk acc c as k eS l m ea => ⟨rfl, ?_⟩⟩
  have kp : ∀ b o, s.heap.get? b = some o → h'.get? b = some o := fun b o e => k b o (Nat.ne_of_lt (Heap.lt_size e)) (Heap.get?_push_of_some _ e)
  obtain ⟨qs, q1, q2, q3⟩ := quads_made (H := H) (h := h') (as := as) (xs := ks) (by omega) rel fun j b x e1 e2 => by
    obtain ⟨en, e3, e4⟩ := m.pairs j b e1
    have e5 := entry_at he j
    rw [e3, e2] at e5
    have e6 : en = entryOfKey (tupleKind (mixKind X.prog X.w)) x := Option.some.inj e5
    rw [e4, e6] <;> rfl
  have nd : as.Nodup := List.Pairwise.imp (fun {a b} (h : a < b) => Nat.ne_of_lt h) m.rise
  have fr : ∀ b, s.heap.objs.size ≤ b → H b = none := fun b hb => I.hok.fresh hb
  have hS0 := fr s.heap.objs.size (Nat.le_refl _)
  have nS : s.heap.objs.size ∉ as := fun z => Nat.lt_irrefl _ (m.above _ z)
  have I1 : Inv X pins σ (upd H s.heap.objs.size (.lst (as.map V.ref))) { s with heap := h', toks := tk } := I.take (h' := h') (t' := tk) (fun b ob _ e => kp b ob e) (I.fpOk (Nat.le_refl _) hS0) ⟨by rw [List.length_map]; omega, acc.toList, c, by rw [ea]; exact LiI.vals_refs as, by rw [Array.toArray_toList]; exact eS⟩
  obtain ⟨H2, I2, k2, t2⟩ := DX.takeT (P := fun b vs => ∃ q ∈ qs, q.1 = b ∧ vs = [.ref q.2.1, q.2.2.2]) I as _ I1 nd fun b hb => by
    have lb := m.above b hb
    have hb' := hb
    rw [← q1] at hb
    obtain ⟨q, hq, rfl⟩ := List.mem_map.mp hb
    obtain ⟨_, u, ru, hu⟩ := q3 q hq
    exact ⟨Nat.le_of_lt lb, by rw [upd_ne (fun z => nS (by rw [← z]; exact hb'))]; exact fr _ (Nat.le_of_lt lb), _, ⟨q, hq, rfl, rfl⟩, fun H2 => ⟨by show 2 ≤ sizeLine; simp, [.ref q.2.1, u], .cons rfl (.cons ru .nil), ⟨_, hu, rfl, _, rfl⟩⟩⟩
  have up : ∀ b o, H b = some o → H2 b = some o := fun b o e => k2 b o (by rw [upd_ne (ne_of_none e hS0)]; exact e)
  refine ⟨.ref s.heap.objs.size, H2, I2, rfl, q H2 _ qs up hS0 q2 (by rw [k2 _ _ upd_same, ← q1, List.map_map]; rfl) fun q hq => ⟨?_, up _ _ (q3 q hq).1⟩⟩
  obtain ⟨vs, ⟨q', hq', e1, e2⟩, e3⟩ := t2 q.1 (by rw [← q1]; exact List.mem_map.mpr ⟨q, hq, rfl⟩)
  have same : q' = q := by
    obtain ⟨i, hi⟩ := List.mem_iff_getElem?.mp hq
    obtain ⟨j, hj⟩ := List.mem_iff_getElem?.mp hq'
    have nd' : (qs.map (·.1)).Nodup := by rw [q1]; exact nd
    have hil : i < (qs.map (·.1)).length := by rw [List.length_map]; exact (List.getElem?_eq_some_iff.mp hi).1
    have e4 : i = j := (List.getElem?_inj hil nd').mp (by rw [List.getElem?_map, List.getElem?_map, hi, hj]; show some q.1 = some q'.1; rw [e1])
    subst e4
    rw [hi] at hj
    exact (Option.some.inj hj).symm
  rw [e3, e2, same]
end
/-- list(d.items()), by value -/
@[simp] def ownT (x : D) (G : Gp) : Option (List (List Key × D)) := match x with
  | .ref a => (match G a with | some (.dT ks) => some ks | _ => none)
  | _ => none
@[simp] def TItemsT (t : TE3) : TE3 := fun δ G Q E => t δ G (fun x G1 => onS (ownT x G1) fun ks => Q (.lst (pairsT ks)) G1) E
@[simp] def ownK (x : D) (G : Gp) : Option (List (Key × D)) := match x with
  | .ref a => (match G a with | some (.dK ks) => some ks | _ => none)
  | _ => none
@[simp] def TItemsK (t : TE3) : TE3 := fun δ G Q E => t δ G (fun x G1 => onS (ownK x G1) fun ks => Q (.lst (pairsD ks)) G1) E
section
variable {K : PySem.W.Frag} {Γ : Gm} {H : Hp} {G : Gp}
theorem pairsT_dat : ∀ {ks : List (List Key × D)} {qs : List Qd}, DatF K Γ H G ks (qs.map (·.2.2)) → (∀ q ∈ qs, H q.1 = some (.tup [.ref q.2.1, q.2.2.2]) ∧ H q.2.1 = some (.tup (q.2.2.1.map kV))) → DatL K Γ H G (pairsT ks) (qs.map fun q => V.ref q.1)
  | [], [], _, _ => rfl
  | [], _ :: _, h, _ => by cases h
  | _ :: _, [], h, _ => by cases h
  | k :: ks, q :: qs, h, hq => by
    cases h with
    | cons r t =>
      obtain ⟨h1, h2⟩ := hq q (List.mem_cons_self ..)
      have e : k.1 = q.2.2.1 := r.1
      exact ⟨_, _, rfl, ⟨q.1, _, rfl, h1, .cons (dat_keys' (by rw [e]; exact h2)) (.cons r.2 .nil)⟩, pairsT_dat t fun q' hq' => hq q' (List.mem_cons_of_mem _ hq')⟩
theorem pairsD_dat : ∀ {ks : List (Key × D)} {ts : List Addr} {vs : List (Key × V)}, DatF K Γ H G ks vs → Paired (fun (t : Addr) (q : Key × V) => H t = some (.tup [kV q.1, q.2])) ts vs → DatL K Γ H G (pairsD ks) (ts.map V.ref)
  | _, _, _, .nil, .nil => rfl
  | k :: ks, t :: ts, v :: vs, .cons r f, .cons p g => by
    have e : k.1 = v.1 := r.1
    exact ⟨_, _, rfl, ⟨t, _, rfl, p, .cons (by rw [← e]; exact dat_key') (.cons r.2 .nil)⟩, pairsD_dat f g⟩
theorem tabs_keep {T : List (Addr × Str)} {H' : Hp} (t : LamX.Tabs T H) (k : ∀ b o, H b = some o → H' b = some o) : LamX.Tabs T H' := fun p hp => by
  obtain ⟨ps, h1, h2, h3⟩ := t p hp
  refine ⟨ps, k _ _ h1, h2, fun p' cv hc => ?_⟩
  obtain ⟨c0, r1, r2⟩ := h3 p' cv hc
  exact ⟨c0, r1, k _ _ r2⟩
end
section
variable {X : Cx} {Γ : Gm} {W : WX} {e : Expr} {p apos cpos pos : Pos} {t : TE3}
theorem pe3_itemsT (hc : X.calm = true) (he : PE3 X Γ W e t) (hg : Gl X "list") (hm : X.mg "list" = none) (hv : bootBuiltins "list" = some (.type "list")) (hbase : attributeBase e "items" X.env (eval e X.env) = eval e X.env := by rfl) (hline : (apos.endLine == cpos.line) = true := by rfl)
    (hs : starEach [.Call (.Attribute e "items" apos) [] [] cpos] X.env = (false, eval (.Call (.Attribute e "items" apos) [] [] cpos) X.env) :: starEach [] X.env := by rfl) :
    PE3 X Γ W (.Call (.Name "list" p) [.Call (.Attribute e "items" apos) [] [] cpos] [] pos) (TItemsT t) := by
  refine pe_imp (pe_callTy (call_listIt hc) hg hm hv (pa_cons (pe_bm0 PySem.F.plainAttrs_dict PySem.F.slot_dict_items PySem.F.type_dict_items DX.mt_itemsT he hbase hline) pa_nil hs) (by decide) (by decide) hs (by rfl)) fun σ H Q hw => ?_
  obtain ⟨δ, G, Q3, E3, R, h, k, ke⟩ := hw
  refine ⟨δ, G, _, E3, R, h, fun x v G1 H1 s1 hp1 dx q => ?_, ke⟩
  obtain ⟨ks, e1, qq⟩ := onS_iff.mp q
  unfold ownT at e1
  split at e1
  · split at e1
    · rename_i a _ ks' hg
      cases e1
      obtain rfl : v = _ := dx
      obtain ⟨vs, h2, l⟩ := hp1.own _ _ (vis_some hg)
      refine ⟨.inr (.inr (.inl ⟨rfl, .inr ⟨vs, h2⟩⟩)), _, vs, rfl, rfl, h2, fun p hp => ?_⟩
      refine ⟨p, a, vs, rfl, upd_same, by rw [upd_ne (ne_of_none h2 hp)]; exact h2, fun H' l' qs k' hl' e2 e3 e4 => ?_⟩
      have kk : ∀ b o, H1 b = some o → H' b = some o := fun b o e => k' b o (by rw [upd_ne (ne_of_none e hp)]; exact e)
      have eN : ExtN H1 H' := fun b o e _ => kk b o e
      have st := Step.ext hp1 eN
      have hp2 := hp1.ext eN (tabs_keep hp1.tab kk)
      have hl1 : H1 l' = none := by
        cases q' : H1 l' with
        | none => rfl
        | some o => rw [upd_ne (ne_of_none q' hp), q'] at hl'; cases hl'
      subst e2
      exact k (.lst (pairsT ks)) _ G1 H' (s1.trans st) hp2 ⟨l', _, rfl, ⟨own_none hp1 hl1, e3⟩, pairsT_dat (DatF.mono st l) e4⟩ qq
    · cases e1
  · cases e1
theorem pe3_itemsK (hc : X.calm = true) (he : PE3 X Γ W e t) (hg : Gl X "list") (hm : X.mg "list" = none) (hv : bootBuiltins "list" = some (.type "list")) (hbase : attributeBase e "items" X.env (eval e X.env) = eval e X.env := by rfl) (hline : (apos.endLine == cpos.line) = true := by rfl)
    (hs : starEach [.Call (.Attribute e "items" apos) [] [] cpos] X.env = (false, eval (.Call (.Attribute e "items" apos) [] [] cpos) X.env) :: starEach [] X.env := by rfl) :
    PE3 X Γ W (.Call (.Name "list" p) [.Call (.Attribute e "items" apos) [] [] cpos] [] pos) (TItemsK t) := by
  refine pe_imp (LiI.pe_listItems hc he hg hm hv hbase hline hs) fun σ H Q hw => ?_
  obtain ⟨δ, G, Q3, E3, R, h, k, ke⟩ := hw
  refine ⟨δ, G, _, E3, R, h, fun x v G1 H1 s1 hp1 dx q => ?_, ke⟩
  obtain ⟨ks, e1, qq⟩ := onS_iff.mp q
  unfold ownK at e1
  split at e1
  · split at e1
    · rename_i a _ ks' hg
      cases e1
      obtain rfl : v = _ := dx
      obtain ⟨vs, h2, l⟩ := hp1.own _ _ (vis_some hg)
      refine ⟨a, vs, rfl, h2, fun H' l' ts kk hl' _ _ e3 e4 => ?_⟩
      have eN : ExtN H1 H' := fun b o e _ => kk b o e
      have st := Step.ext hp1 eN
      have hp2 := hp1.ext eN (tabs_keep hp1.tab kk)
      exact k (.lst (pairsD ks)) _ G1 H' (s1.trans st) hp2 ⟨l', _, rfl, ⟨own_none hp1 hl', e3⟩, pairsD_dat (DatF.mono st l) e4⟩ qq
    · cases e1
  · cases e1
end
end L3
/-! L4b: sorted(xs, key=f), f a def of the module. -/
namespace SK
open PySem PySem.Spec PyProof.Rows L2 PySem.W
/-- the keys one by one, then the order -/
def KRest (K : PySem.W.Frag) (sp : Sp) (dvs : List V) (xs : List V) (H : Hp) (Q : VK) : Prop :=
  ∃ W : List V → Hp → Prop, W [] H ∧ (∀ ks H x, W ks H → xs[ks.length]? = some x → sp ([x] ++ dvs) H (fun kv H' => W (ks ++ [kv]) H') (fun _ _ _ => False)) ∧
    ∀ ks H, W ks H → ks.length = xs.length → ∃ kz, DpAll K H ks kz ∧ AllAlike kz ∧ Sortable kz ∧ (∀ d ∈ kz, d.depth ≤ 60) ∧ ∀ p, H p = none → Q (.ref p) (upd H p (.lst (((xs.zip kz).mergeSort (dataLe false Prod.snd)).map Prod.fst)))
theorem cx_no {P : Program} {w : World} {outer : List Env} {H : Hp} {s s' : Shared} {u : Value} (h : L2.CX P w outer H s (fun _ _ _ => False) u s') : False := by
  obtain ⟨_, _, _, _, _, _, _, _, _, _, _, _, z⟩ := h
  exact z
theorem each_reads {X : Cx} {pins : List (Addr × Obj)} {σ : L2.St} {H : Hp} {s : Shared} (I : Inv X pins σ H s) : ∀ {ks : List V} {kz : List PyData} {us : List Value}, DpAll X.K H ks kz → Vals ks us → EachIs (fun v k => ∃ as, Reads s.heap v k as) us kz
  | _, _, _, .nil, .nil => .nil
  | _, _, _, .cons h t, .cons r rr => .cons (Dp.reads I _ _ _ h r) (each_reads I t rr)
theorem each_rel {xs : List V} {vs : List Value} (h : Vals xs vs) : ∀ {kz : List PyData}, kz.length = xs.length → EachIs (fun v (b : V × PyData) => RelV b.1 v) vs (xs.zip kz) := by
  induction h with
  | nil => intro kz _; exact .nil
  | cons r t ih =>
    intro kz hl
    cases kz with
    | nil => simp at hl
    | cons d kz => exact .cons r (ih (by simpa using hl))
theorem vals_each {bs : List (V × PyData)} {vs : List Value} (h : EachIs (fun v (b : V × PyData) => RelV b.1 v) vs bs) : Vals (bs.map Prod.fst) vs := by
  induction h with
  | nil => exact .nil
  | cons r t ih => exact .cons r ih
section
variable {X : Cx} {pins : List (Addr × Obj)} {σ : L2.St} {H : Hp} {s : Shared} {k : Nat} {f : Addr} {fd : FuncData} {ps : List Str} {sp : Sp} {dvs : List V} {ds : List Value} {Q : VK}
theorem zip_snd {xs : List V} {kz : List PyData} (h : kz.length = xs.length) : (xs.zip kz).map Prod.snd = kz := by
  rw [List.map_snd_zip]
  omega
theorem sort_core {E : Value → Shared → Prop} (F : FnOk X.prog X.w X.K X.mg X.base (L2.CX X.prog X.w) k f fd ps sp) (hr : Room (k + 1) X.A) (hb : Binds X.K fd ps ds) (hd : Vals dvs ds) {L : Addr} {vs : List Value} {xs : List V} {n : Nat}
    (I : Inv X pins σ H s) (hL : FpOk X pins H L) (ho : s.heap.get? L = some (seqObj "list" vs.toArray n)) (hv : Vals xs vs) (hz : xs.length ≤ sizeLine) (hrest : KRest X.K sp dvs xs H Q) :
    wpAny (model X.prog X.w) X.A.in1.in1 (ksk_tree L (.ref f) false) (fun fin s' => fin = .done (.ret .none) ∧ EP X pins σ Q (.ref L) s') E s := by
  obtain ⟨W, w0, step, fin⟩ := hrest
  have hlen : vs.length = xs.length := hv.length.symm
  have hzv : vs.length ≤ sizeLine := by omega
  have lL : L < s.heap.objs.size := Heap.lt_size ho
  obtain ⟨e1, o1⟩ : ∃ e1, (s.heap.update L (Obj.mapSeq fun _ => (#[] : Array Value))).get? L = some (lstObj #[] e1) := ⟨_, get?_update_seq ho fun _ => #[]⟩
  unfold ksk_tree
  refine wpAny_bind (listItems_at ho rfl (wpAny_bind (listUpdate_at ho rfl (wpAny_bind (seqEpoch_at o1 rfl (wpAny_bind (wpAny_newTuple (wpAny_bind (wpAny_newList (wpAny_holding ?_) (Nat.zero_le _))) (by show vs.length ≤ _; exact hzv))))) (by rw [List.size_toArray]; exact hzv) (Nat.zero_le _))))
  generalize hT : ((s.heap.update L (Obj.mapSeq fun _ => (#[] : Array Value))).push (seqObj "tuple" vs.toArray 0)) = h2
  have zT : h2.objs.size = s.heap.objs.size + 1 := by rw [← hT, size_push', Heap.size_update]
  have kT : ∀ b o, b ≠ L → s.heap.get? b = some o → h2.get? b = some o := fun b o hb e => by rw [← hT]; exact Heap.get?_push_of_some _ ((Heap.get?_update_other _ _ (Ne.symm hb)).trans e)
  have oT : h2.get? L = some (lstObj #[] e1) := by rw [← hT]; exact Heap.get?_push_of_some _ o1
  have k3 : ∀ b o, h2.get? b = some o → (h2.push (seqObj "list" #[] 0)).get? b = some o := fun b o e => Heap.get?_push_of_some _ e
  have I1 : Inv X pins σ H { s with heap := h2.push (seqObj "list" #[] 0) } := I.turnedL (t' := s.toks) (ch := [L]) (fun b o hb e => k3 b o (kT b o (fun z => hb (by simp [z])) e)) fun b hb => by rw [List.mem_singleton.mp hb]; exact hL
  have hS : FpOk X pins H h2.objs.size := I.fpOk (by rw [zT]; omega) (I.hok.fresh (by rw [zT]; omega))
  have neSL : h2.objs.size ≠ L := by rw [zT]; exact (Nat.ne_of_lt (Nat.lt_succ_of_lt lL)).symm
  have I2 : Inv X ([(h2.objs.size, lstObj #[] 0)] ++ ((L, lstObj #[] e1) :: pins)) σ H { s with heap := h2.push (seqObj "list" #[] 0) } := I1.pins_of fun p hp => by
    rcases List.mem_append.mp hp with hp | hp
    · rw [List.mem_singleton.mp hp]
      exact ⟨Heap.get?_push_size _ rfl, hS.1, hS.2.1, hS.2.2.1, fun v z => by cases z⟩
    · rcases List.mem_cons.mp hp with rfl | hp
      · exact ⟨k3 _ _ oT, hL.1, hL.2.1, hL.2.2.1, fun v z => by cases z⟩
      · exact I1.pin p (List.mem_append_right _ hp)
  have hr' : Room k X.A.in1.in1 := ⟨hr.hd, by have := hr.dp; show X.A.depth + 3 * k + 5 < _; omega, by have := hr.un; show X.A.units + 1 + 1 + 16 * k + 200 < _; omega⟩
  have old : X.s_0.heap.objs.size ≤ h2.objs.size := by rw [zT]; exact Nat.le_trans I.sz (Nat.le_succ _)
  unfold ksk_rest
  refine wpAny_bind (wpAny_rule ?_)
  rw [List.forIn_toArray]
  refine wpAny_bind (ksk_fold (fun i s' => ∃ ks kA c H', Inv X ([(h2.objs.size, lstObj kA c)] ++ ((L, lstObj #[] e1) :: pins)) σ H' s' ∧ Vals ks kA.toList ∧ ks.length = i ∧ W ks H') vs 0 _ ⟨[], #[], 0, H, I2, .nil, rfl, w0⟩ ?_ ?_)
  · rintro j x s' hx ⟨ks, kA, c, H', J, hvk, hkl, hw⟩
    have hj : j < vs.length := (List.getElem?_eq_some_iff.mp hx).1
    have hkl : ks.length = j := by omega
    obtain ⟨xv, hxv⟩ : ∃ xv, xs[j]? = some xv := ⟨xs[j], List.getElem?_eq_getElem (by omega)⟩
    have rx : RelV xv x := by
      obtain ⟨y, ey, ry⟩ := LiI.paired_get hv hxv
      rw [hx] at ey
      cases ey
      exact ry
    have hsp := step ks H' xv hw (by rw [hkl]; exact hxv)
    have r2 : Vals ([xv] ++ dvs) ([x] ++ ds) := .cons rx hd
    have hl2 : ([x] ++ ds).length = ps.length := by rw [← r2.length]; exact F.len _ _ _ _ hsp
    have kAz : kA.size = j := by rw [← Array.length_toList, ← hvk.length]; exact hkl
    have run : wpAny (model X.prog X.w) X.A.in1.in1 (call (.ref f) [x]) (EP X ([(h2.objs.size, lstObj kA c)] ++ ((L, lstObj #[] e1) :: pins)) σ fun kv H'' => W (ks ++ [kv]) H'') (fun _ _ => False) s' := by
      refine wpAny_call (codeAny_mono (F.run X.A.in1.in1 X.stack s' H' ⟨[x], []⟩ ([x] ++ ds) ([xv] ++ dvs) _ _ hr' J.env0.in1.in1 (hb s' [x] J.kIn hl2) r2 hsp) fun r s'' hq => ?_)
      match r, hq with
      | .error e, hq => exact (cx_no hq).elim
      | .ok (.ret u), hq => exact J.after hq
      | .ok .next, hq => exact False.elim hq
      | .ok .brk, hq => exact False.elim hq
      | .ok .cont, hq => exact False.elim hq
    refine wpAny_bind (wpAny_attempt (wpAny_mono run (fun v s'' he => ?_) fun _ _ hF => hF.elim))
    obtain ⟨kv, H'', J', rk, hw'⟩ := he
    have eS := (J'.pin (h2.objs.size, lstObj kA c) (List.mem_append_right _ (List.mem_append_left _ (List.mem_singleton.mpr rfl)))).1
    obtain ⟨c', J2⟩ := GX.Inv.push (v := v) old (fun x d e => hS.2.2.2.2.1 x d e) (fun p hp => hS.2.2.2.2.2 p (List.mem_append_left _ hp)) (fun p hp => by
      rcases List.mem_cons.mp hp with rfl | hp
      · exact Ne.symm neSL
      · exact hS.2.2.2.2.2 p (List.mem_append_right _ hp)) J'
    try dsimp only
    refine wpAny_bind (listUpdate_at eS rfl (wpAny_pure ⟨rfl, ks ++ [kv], kA.push v, c', H'', J2, by rw [Array.toList_push]; exact hvk.append (.cons rk .nil), by rw [List.length_append]; simp; omega, hw'⟩) (by omega) (by show (kA.push v).size ≤ sizeLine + 1; rw [Array.size_push]; omega))
  · rintro s' ⟨ks, kA, c, H', J, hvk, hkl, hw⟩
    have hkl : ks.length = xs.length := by omega
    obtain ⟨kz, dk, al, so, dp, q⟩ := fin ks H' hw hkl
    have er := each_reads J dk hvk
    have lz : kz.length = xs.length := by rw [← er.length, ← hvk.length]; exact hkl
    have pS := J.pin (h2.objs.size, lstObj kA c) (List.mem_append_right _ (List.mem_append_left _ (List.mem_singleton.mpr rfl)))
    have pL := J.pin (L, lstObj #[] e1) (List.mem_append_right _ (List.mem_append_right _ List.mem_cons_self))
    have J0 : Inv X pins σ H' s' := J.pins_of fun p hp => J.pin p (List.mem_append_right _ (List.mem_append_right _ (List.mem_cons_of_mem _ hp)))
    obtain ⟨G, g1, g2⟩ := restrict s'.heap fun b => decide (b ≠ h2.objs.size)
    have kp : KeepsBut L G s'.heap := fun b o hb e => by
      by_cases h : b = h2.objs.size
      · rw [h, g2 _ (by simp)] at e; cases e
      · rw [g1 b (by simp [h])] at e; exact e
    refine wpAny_bind (listItems_at pS.1 rfl ?_)
    refine keyH_end (κ := dataKind s'.heap kz) (h₁ := G) kp (g2 _ (by simp)) pS.1 pL.1 neSL (SortsAt.data er al so fun d hd' => ?_) (by rw [← Array.length_toList, ← hvk.length, hkl, hlen]) hzv fun h3 tk3 c3 k4 n3 => ⟨rfl, ?_⟩
    · have := dp d hd'
      have := hr.un
      show X.A.units + 1 + 1 + d.depth < cLine
      omega
    · have ko : KeyedOut false ((xs.zip kz).map Prod.snd) vs (sortVals (dataKind s'.heap kz) false kA.toList vs) := by
        rw [zip_snd lz]
        exact ⟨s'.heap, kA.toList, al, rfl, er⟩
      have eo := keyedOut_each Prod.snd ko (each_rel hv lz)
      have vo := vals_each eo
      have fL : FpOk X pins H' L := ⟨pL.2.1, hL.2⟩
      have fS : FpOk X pins H' h2.objs.size := ⟨pS.2.1, hS.2⟩
      have J1 : Inv X pins σ H' { s' with heap := h3, toks := tk3 } := J0.turnedL (t' := tk3) (ch := [L, h2.objs.size]) (fun b o hb e => k4 b o (fun z => hb (by simp [z])) (by rw [g1 b (by simpa using fun z => hb (by simp [z]))]; exact e)) fun b hb => by
        rcases List.mem_cons.mp hb with rfl | hb
        · exact fL
        · rw [List.mem_singleton.mp hb]; exact fS
      have lo : (sortVals (dataKind s'.heap kz) false kA.toList vs).length ≤ sizeLine := by
        have h4 := ko.length (by rw [List.length_map, List.length_zip]; omega)
        omega
      refine ⟨.ref L, upd H' L (.lst (((xs.zip kz).mergeSort (dataLe false Prod.snd)).map Prod.fst)), J1.take (h' := h3) (t' := tk3) (fun b o _ e => e) fL ⟨by rw [vo.length]; exact lo, _, c3, vo, n3⟩, rfl, q L pL.2.1⟩
end
end SK
/-! L4c: sorted(xs, key=f) as a rule. -/
namespace SK
open PySem PySem.Calls PySem.Spec PyProof.Rows L2 PySem.W
section
variable {X : Cx} {pins : List (Addr × Obj)} {σ : L2.St} {H : Hp} {s : Shared}
/-- the items of what is sorted -/
inductive Src (K : PySem.W.Frag) (H : Hp) (a : Addr) : List V → Prop
  | lst {xs : List V} : SqL K H a xs → Src K H a xs
  | dK {kvs : List (Key × V)} : Rd H a (.dK kvs) → Src K H a (kvs.map fun kv => kV kv.1)
  | dT {kvs : List (List Key × V)} {bs : List Addr} : Rd H a (.dT kvs) → IsKeys H kvs bs → Src K H a (bs.map V.ref)
def SrcAll (K : PySem.W.Frag) (H : Hp) (a : Addr) (R : List V → Prop) : Prop := (∃ xs, SqL K H a xs ∧ R xs) ∨ (∃ kvs : List (Key × V), Rd H a (.dK kvs) ∧ R (kvs.map fun kv => kV kv.1)) ∨ ∃ kvs : List (List Key × V), Rd H a (.dT kvs) ∧ ∀ bs, IsKeys H kvs bs → R (bs.map V.ref)
theorem items_vals {P : Nat → Value → Prop} {acc : Array Value} {n : Nat} (h : ItemsOf P acc n) {xs : List V} (hl : xs.length = n) (hp : ∀ (i : Nat) (v : Value), P i v → ∃ x, xs[i]? = some x ∧ RelV x v) : Vals xs acc.toList := by
  obtain ⟨h1, h2⟩ := h
  have go : ∀ (l : List V) (m : List Value), l.length = m.length → (∀ (i : Nat) (v : Value), m[i]? = some v → ∃ x, l[i]? = some x ∧ RelV x v) → Vals l m := by
    intro l
    induction l with
    | nil =>
      intro m hl _
      cases m with
      | nil => exact .nil
      | cons => simp at hl
    | cons x l ih =>
      intro m hl hm
      cases m with
      | nil => simp at hl
      | cons v m =>
        obtain ⟨y, e, r⟩ := hm 0 v rfl
        simp at e
        subst e
        exact .cons r (ih m (by simpa using hl) fun i u hu => by simpa using hm (i + 1) u (by simpa using hu))
  refine go xs acc.toList (by show xs.length = acc.toList.length; rw [hl, ← h1] <;> exact (Array.length_toList ..).symm) fun i v hv => hp i v (h2 i v (by rw [← Array.getElem?_toList]; exact hv))
theorem collect_src {A : Around} {R : List Value → Shared → Prop} {E : Value → Shared → Prop} (hh : A.handled = none) (I : Inv X pins σ H s) {a : Addr} {T : List V → Prop} (hs : SrcAll X.K H a T)
    (hR : ∀ xs vs h' tk, T xs → Vals xs vs → xs.length ≤ sizeLine → (∀ b o, s.heap.get? b = some o → h'.get? b = some o) → R vs { s with heap := h', toks := tk }) : wpAny (model X.prog X.w) A (collect (.ref a)) R E s := by
  rcases hs with ⟨xs, hq, t⟩ | ⟨kvs, hq, t⟩ | ⟨kvs, hq, t⟩
  · obtain ⟨its, rv, ⟨o, n, ho, hc, _, hd⟩, hz⟩ := I.list hq
    have hl : s.heap.IsList a its.toArray := ⟨o, ho, hc, n, hd⟩
    refine collect_list hl ?_ (by rw [← rv.length]; exact hz)
    refine hR xs its _ s.toks t rv hz fun b o e => ?_
    rw [Heap.get?_update_ne _ _ _ _ (Nat.ne_of_lt (Heap.lt_size e))]
    exact Heap.get?_push_of_some _ e
  · obtain ⟨z, hs0, vs, kv, hdo⟩ := dk_rd I.hok hq
    obtain ⟨ep, hat⟩ := hdo.dictAt
    have lk : kvs.length = vs.length := Paired.length kv
    refine kdu_collect (kdl_dict (knd := mixKind X.prog X.w) (kvs := vs) (ep := ep) hs0) hh hat (by omega) fun h' tk acc kp it => ?_
    refine hR _ _ h' tk t (items_vals it (by rw [List.length_map]; exact lk) fun i v ⟨k, x, e, hk⟩ => ?_) (by rw [List.length_map]; exact z) kp
    obtain ⟨q, g1, g2, g3⟩ := DX.pget kv e
    exact ⟨kV q.1, by rw [List.getElem?_map, g1] <;> rfl, by rw [g2]; exact relV_key (show keyIs k v = true from hk)⟩
  · obtain ⟨z, hs0, ks, pr, o, es, ep, ho, hx, hdt, he, hn⟩ := (show ObjOk X.prog X.w H s.heap a (.dT kvs) from hq.ok I.hok)
    have l1 : es.size = ks.length := size_of_entries he
    have l2 : kvs.length = ks.length := Paired.length pr
    refine kdu_collect (kdl_raw hs0 hx hdt) hh ho (by omega) fun h' tk acc kp it => ?_
    refine hR _ _ h' tk (t _ (isKeys_of pr)) (items_vals it (by simp; omega) fun i v ⟨en, e, hv⟩ => ?_) (by simp; omega) kp
    have qe := entry_at he i
    rw [e] at qe
    obtain ⟨b, hb, e2⟩ := Option.map_eq_some_iff.mp qe.symm
    exact ⟨V.ref b.2.1, by simp [hb], by rw [hv, ← e2] <;> rfl⟩
end
/-- sorted(xs, key=f) -/
def rSortK (K : PySem.W.Frag) (f : Addr) (sp : Sp) (dvs : List V) : List V → List V → Hp → VK → Prop := fun vs zs H Q => ∃ a, vs = [V.ref a] ∧ zs = [V.ref f] ∧ SrcAll K H a fun xs => KRest K sp dvs xs H Q
theorem call_sortK {X : Cx} {k : Nat} {f : Addr} {fd : FuncData} {ps : List Str} {sp : Sp} {dvs : List V} {ds : List Value} (hc : X.calm = true) (F : FnOk X.prog X.w X.K X.mg X.base (L2.CX X.prog X.w) k f fd ps sp) (hr : Room (k + 1) X.A) (hb : Binds X.K fd ps ds) (hd : Vals dvs ds) :
    CallRK X (.builtin "sorted") [Str.ofString "key"] (rSortK X.K f sp dvs) := by
  intro pins s σ H xs zs us ws Q I r1 r2 ⟨a, e1, e2, hs⟩
  subst e1 e2
  obtain ⟨u, rfl, ru⟩ := vals1 r1
  cases ru
  obtain ⟨u2, rfl, ru2⟩ := vals1 r2
  cases ru2
  show wpAny _ _ (call (.builtin "sorted") [.ref a] [(Str.ofString "key", .ref f)]) _ _ s
  refine call_function_entry_kw kind_sorted plain_sorted entry_sorted (ksk_s1 _ _) ?_
  unfold Builtin.«sorted»
  refine wpAny_bind (m := checkCount "sorted" 1 1 _) (wpAny_pure ?_)
  refine wpAny_bind (collect_src (A := X.A.in1) (I.ok.hd hc) I hs fun xs vs h' tk t rv hz kp => ?_)
  refine wpAny_bind (wpAny_newList ?_ (by rw [← rv.length]; exact hz))
  have I1 : Inv X pins σ H { s with heap := h', toks := tk } := I.kept kp
  have I2 : Inv X pins σ H { s with heap := h'.push (seqObj "list" vs.toArray 0), toks := tk } := I.kept fun b o e => Heap.get?_push_of_some _ (kp b o e)
  have oL : (h'.push (seqObj "list" vs.toArray 0)).get? h'.objs.size = some (seqObj "list" vs.toArray 0) := Heap.get?_push_size _ rfl
  show wpAny _ _ _ _ _ { s with heap := h'.push (seqObj "list" vs.toArray 0), toks := tk }
  refine wpAny_bind (wpAny_holding (wpAny_call_entry_kw slot_list_sort ⟨_, oL, rfl⟩ entry_list_sort ?_ (ksk_l1 _ _)))
  rw [ksk_t1]
  refine wpAny_mono (sort_core F hr hb hd I2 (I1.fpOk (Nat.le_refl _) (I1.hok.fresh (Nat.le_refl _))) oL rv hz t) (fun fin s' ⟨e, hq⟩ => ?_) fun _ _ e => e
  subst e
  exact ⟨_, rfl, wpAny_pure ⟨_, rfl, hq⟩⟩
end SK
/-! L4d: sorted(xs, key=f) over data. -/
namespace L3
open PySem PySem.Spec PyProof.Rows L2 SK
open PySem.W (AllAlike Sortable dataLe dataLt alike)
def KeyRun (sp : Sp3) (dds : List D) : List D → List D → Gp → (List D → Gp → Prop) → Prop
  | [], ks, G, k => k ks G
  | x :: xs, ks, G, k => sp ([x] ++ dds) G (fun y G1 => KeyRun sp dds xs (ks ++ [y]) G1 k) (fun _ _ => False)
def srtK (xs : List D) (kz : List PyData) : List D := ((xs.zip kz).mergeSort (dataLe false Prod.snd)).map Prod.fst
/-- what is sorted -/
@[simp] def srcD (d : D) (G : Gp) : Option (List D) := match d with
  | .nod .lst xs => some xs
  | .ref a => (match G a with
    | some (.lst xs) => some xs
    | some (.dK kvs) => some (kvs.map fun kv => keyD kv.1)
    | some (.lkK kvs) => some (kvs.map fun kv => keyD kv.1)
    | some (.dT kvs) => some (kvs.map fun kv => keysD kv.1)
    | some (.lkT kvs) => some (kvs.map fun kv => keysD kv.1)
    | _ => none)
  | _ => none
structure GoodK (ks : List D) : Prop where
  gd : ∀ k ∈ ks, gd 59 k = true
  al : AllAlike (ks.map py)
  so : Sortable (ks.map py)
@[simp] def TSortK (sp : Sp3) (dds : List D) (t : TE3) : TE3 := fun δ G Q E => t δ G (fun d G1 => onS (srcD d G1) fun xs => KeyRun sp dds xs [] G1 fun ks G2 => GoodK ks ∧ Q (.lst (srtK xs (ks.map py))) G2) E
section
variable {K : PySem.W.Frag} {Γ : Gm} {H : Hp} {G : Gp}
theorem datL_trip : ∀ {ts : List ((V × D) × PyData)}, (∀ t ∈ ts, Dat K Γ H G t.1.2 t.1.1) → DatL K Γ H G (ts.map fun t => t.1.2) (ts.map fun t => t.1.1)
  | [], _ => rfl
  | t :: ts, h => ⟨_, _, rfl, h t (List.mem_cons_self ..), datL_trip fun t' ht => h t' (List.mem_cons_of_mem _ ht)⟩
theorem trip_mem : ∀ {ds : List D} {vs : List V} {kz : List PyData}, DatL K Γ H G ds vs → ∀ t ∈ (vs.zip ds).zip kz, Dat K Γ H G t.1.2 t.1.1
  | [], _, _, h, t, ht => by cases (show _ = _ from h); simp at ht
  | d :: ds, _, kz, h, t, ht => by
    obtain ⟨v, r, rfl, h1, h2⟩ := h
    cases kz with
    | nil => simp at ht
    | cons k kz =>
      rw [List.zip_cons_cons, List.zip_cons_cons] at ht
      rcases List.mem_cons.mp ht with rfl | ht
      · exact h1
      · exact trip_mem h2 t ht
theorem trip_l : ∀ {ds : List D} {vs : List V} {kz : List PyData}, ds.length = vs.length → ((vs.zip ds).zip kz).map (fun t => (t.1.1, t.2)) = vs.zip kz
  | [], [], _, _ => rfl
  | d :: ds, v :: vs, [], _ => by simp
  | d :: ds, v :: vs, k :: kz, h => by
    rw [List.zip_cons_cons, List.zip_cons_cons, List.zip_cons_cons, List.map_cons, trip_l (by simpa using h)]
theorem trip_r : ∀ {ds : List D} {vs : List V} {kz : List PyData}, ds.length = vs.length → ((vs.zip ds).zip kz).map (fun t => (t.1.2, t.2)) = ds.zip kz
  | [], [], _, _ => rfl
  | d :: ds, v :: vs, [], _ => by simp
  | d :: ds, v :: vs, k :: kz, h => by
    rw [List.zip_cons_cons, List.zip_cons_cons, List.zip_cons_cons, List.map_cons, trip_r (by simpa using h)]
theorem datL_srt {ds : List D} {vs : List V} {kz : List PyData} (h : DatL K Γ H G ds vs) : DatL K Γ H G (srtK ds kz) (((vs.zip kz).mergeSort (dataLe false Prod.snd)).map Prod.fst) := by
  have hl := h.length
  unfold srtK
  rw [← trip_l (kz := kz) hl, ← trip_r (kz := kz) hl]
  have e1 : (((vs.zip ds).zip kz).map (fun t => (t.1.2, t.2))).mergeSort (dataLe false Prod.snd) = (((vs.zip ds).zip kz).mergeSort (dataLe false fun t => t.2)).map (fun t => (t.1.2, t.2)) := by
    refine (List.map_mergeSort ?_).symm
    intro _ _ _ _
    rfl
  have e2 : (((vs.zip ds).zip kz).map (fun t => (t.1.1, t.2))).mergeSort (dataLe false Prod.snd) = (((vs.zip ds).zip kz).mergeSort (dataLe false fun t => t.2)).map (fun t => (t.1.1, t.2)) := by
    refine (List.map_mergeSort ?_).symm
    intro _ _ _ _
    rfl
  rw [e1, e2, List.map_map, List.map_map]
  exact datL_trip fun t ht => trip_mem h t (List.mem_mergeSort.mp ht)
end
/-- .. of typed items -/
theorem srtK_map {α : Type} (enc : α → D) (key : α → PyData) (ts : List α) : srtK (ts.map enc) (ts.map key) = (ts.mergeSort (dataLe false key)).map enc := by
  unfold srtK
  have e : (ts.map enc).zip (ts.map key) = ts.map fun t => (enc t, key t) := by
    rw [List.zip_map', ] <;> rfl
  have e2 : (ts.map fun t => (enc t, key t)).mergeSort (dataLe false Prod.snd) = (ts.mergeSort (dataLe false key)).map fun t => (enc t, key t) := by
    refine (List.map_mergeSort ?_).symm
    intro _ _ _ _
    rfl
  rw [e, e2, List.map_map]
  rfl
theorem keyRun {sp : Sp3} {dds : List D} {G : Gp} {k : List D → Gp → Prop} (key : D → D) : ∀ (xs ks : List D), (∀ x ∈ xs, ∀ Q : K3, Q (key x) G → sp ([x] ++ dds) G Q fun _ _ => False) → k (ks ++ xs.map key) G → KeyRun sp dds xs ks G k
  | [], ks, _, h => by simpa [KeyRun] using h
  | x :: xs, ks, hs, h => hs x (List.mem_cons_self ..) _ (keyRun key xs (ks ++ [key x]) (fun y hy => hs y (List.mem_cons_of_mem _ hy)) (by simpa using h))
section
variable {X : Cx} {Γ : Gm} {W : WX} {e : Expr} {p pf pos kpos : Pos} {t : TE3} {k : Nat} {f : Addr} {fd : FuncData} {ps : List Str} {sp3 : Sp3} {dds : List D} {dvs : List V} {ds : List Value} {x : Str}
theorem krest_of {Γ : Gm} {G : Gp} {H : Hp} {xs : List D} {vs : List V} {Q : VK} {Q3 : K3} (h3 : Dflt3 X.K dds dvs) (R : HpR X.K Γ H G) (dl : DatL X.K Γ H G xs vs) (q : KeyRun sp3 dds xs [] (vis G) fun ks G2 => GoodK ks ∧ Q3 (.lst (srtK xs (ks.map py))) G2)
    (k : ∀ d v G' H', Step X.K H G H' G' → HpR X.K Γ H' G' → Dat X.K Γ H' G' d v → Q3 d (vis G') → Q v H') : KRest X.K (liftSp X.K Γ sp3) dvs vs H Q := by
  refine ⟨fun ks H' => ∃ G' ks3, Step X.K H G H' G' ∧ HpR X.K Γ H' G' ∧ DatL X.K Γ H' G' ks3 ks ∧ KeyRun sp3 dds (xs.drop ks.length) ks3 (vis G') fun ks G2 => GoodK ks ∧ Q3 (.lst (srtK xs (ks.map py))) G2, ⟨G, [], Step.refl, R, rfl, q⟩, ?_, ?_⟩
  · rintro ks H' v ⟨G', ks3, s1, hp1, dk, q1⟩ hv
    obtain ⟨d, hd, dd⟩ := (dl.mono s1).get' hv
    have hlt := (List.getElem?_eq_some_iff.mp hd).1
    have e : xs.drop ks.length = d :: xs.drop (ks.length + 1) := by
      rw [List.drop_eq_getElem_cons hlt]
      rw [(List.getElem?_eq_some_iff.mp hd).2]
    rw [e] at q1
    refine ⟨[d] ++ dds, G', _, _, .cons dd (h3 Γ H' G'), hp1, q1, fun y w G2 H2 s2 hp2 dy q2 => ⟨G2, ks3 ++ [y], s1.trans s2, hp2, (dk.mono s2).append (.cons dy .nil), ?_⟩, fun _ _ _ _ _ z => z⟩
    rw [List.length_append]
    exact q2
  · rintro ks H' ⟨G', ks3, s1, hp1, dk, q1⟩ hl
    have e : xs.drop ks.length = [] := by rw [hl, ← dl.length]; exact List.drop_length ..
    rw [e] at q1
    obtain ⟨g, q2⟩ := q1
    refine ⟨ks3.map py, by rw [← pyL_map]; exact datL_dp (n := 59) (by rw [List.all_eq_true]; exact g.gd) dk, g.al, g.so, fun d hd => ?_, fun p hp => ?_⟩
    · obtain ⟨y, hy, rfl⟩ := List.mem_map.mp hd
      have := (gd_py 59 y (g.gd y hy)).2
      omega
    · exact new_lst hp1 hp (datL_srt (dl.mono s1)) (fun d w G2 H2 s2 => k d w G2 H2 (s1.trans s2)) q2
theorem src_of {Γ : Gm} {G : Gp} {H : Hp} {d : D} {v : V} {xs : List D} {T : List V → Prop} (R : HpR X.K Γ H G) (e : srcD d (vis G) = some xs) (dv : Dat X.K Γ H G d v) (h : ∀ vs, DatL X.K Γ H G xs vs → T vs) : ∃ a, v = .ref a ∧ SrcAll X.K H a T := by
  have keys : ∀ {κ : Type} {kvs : List (Key × D)} {vs : List (Key × V)}, DatF X.K Γ H G kvs vs → DatL X.K Γ H G (kvs.map fun kv => keyD kv.1) (vs.map fun kv => kV kv.1) := fun {_ kvs vs} l => by
    have e1 : vs.map (fun kv => kV kv.1) = (kvs.map (·.1)).map kV := by
      rw [← DatF.fst l, List.map_map] <;> rfl
    have e2 : kvs.map (fun kv => keyD kv.1) = (kvs.map (·.1)).map keyD := by
      rw [List.map_map] <;> rfl
    rw [e1, e2]
    exact datL_keys'
  have keysT : ∀ {kvs : List (List Key × D)} {vs : List (List Key × V)} {bs : List Addr}, DatF X.K Γ H G kvs vs → IsKeys H vs bs → DatL X.K Γ H G (kvs.map fun kv => keysD kv.1) (bs.map V.ref) := fun {kvs vs bs} l b => by
    induction l generalizing bs with
    | nil => cases b; exact .nil
    | cons r t ih =>
      cases b with
      | cons b1 b2 => exact .cons (dat_keys' (by rw [r.1]; exact b1)) (ih b2)
  unfold srcD at e
  split at e
  · cases e
    obtain ⟨a, vs, rfl, h1, l⟩ := dv
    exact ⟨a, rfl, .inl ⟨vs, SqL.of h1.2, h vs l⟩⟩
  · obtain rfl : v = _ := dv
    split at e
    · rename_i hg
      cases e
      obtain ⟨vs, h1, l⟩ := R.own _ _ (vis_some hg)
      exact ⟨_, rfl, .inl ⟨vs, SqL.of h1, h vs l⟩⟩
    · rename_i hg
      cases e
      obtain ⟨vs, h1, l⟩ := R.own _ _ (vis_some hg)
      exact ⟨_, rfl, .inr (.inl ⟨vs, .inl h1, h _ (keys (κ := Nat) l)⟩)⟩
    · rename_i hg
      cases e
      obtain ⟨o, vs, h1, l⟩ := R.own _ _ (vis_some hg)
      exact ⟨_, rfl, .inr (.inl ⟨vs, .inr ⟨o, h1⟩, h _ (keys (κ := Nat) l)⟩)⟩
    · rename_i hg
      cases e
      obtain ⟨vs, h1, l⟩ := R.own _ _ (vis_some hg)
      exact ⟨_, rfl, .inr (.inr ⟨vs, .inl h1, fun bs b => h _ (keysT l b)⟩)⟩
    · rename_i hg
      cases e
      obtain ⟨o, vs, h1, l⟩ := R.own _ _ (vis_some hg)
      exact ⟨_, rfl, .inr (.inr ⟨vs, .inr ⟨o, h1⟩, fun bs b => h _ (keysT l b)⟩)⟩
    · cases e
  · cases e
theorem pe3_sortK (hc : X.calm = true) (F : Fn3 Γ X.prog X.w X.K X.mg X.base k f fd ps sp3) (hr : Room (k + 1) X.A) (hb : L2.Binds X.K fd ps ds) (hd : Vals dvs ds) (h3 : Dflt3 X.K dds dvs) (hg : Gl X "sorted") (hm : X.mg "sorted" = none) (hv : bootBuiltins "sorted" = some (.builtin "sorted")) (hgf : Gl X x) (hmf : X.mg x = some (.ref f)) (he : PE3 X Γ W e t)
    (hst : starEach [e] X.env = (false, eval e X.env) :: starEach [] X.env := by rfl) (hdx : (x == ("__debug__" : Str)) = false := by decide)
    (hbt : backTo pos (starEach [e] X.env) = (false, eval e X.env) :: backTo pos (starEach [] X.env) := by rfl) (hpl : (backTo pos (starEach [e] X.env)).any (·.1) = false := by rfl)
    (hall : (backToKw pos (keywordEach [⟨some (Str.ofString "key"), .Name x pf, kpos⟩] X.env)).all (·.1.isSome) = true := by rfl) (hnone : (backToKw pos (keywordEach [⟨some (Str.ofString "key"), .Name x pf, kpos⟩] X.env)).any (·.1.isNone) = false := by rfl)
    (hks : (backToKw pos (keywordEach [⟨some (Str.ofString "key"), .Name x pf, kpos⟩] X.env)).filterMap (·.1) = [Str.ofString "key"] := by rfl) :
    PE3 X Γ W (.Call (.Name "sorted" p) [e] [⟨some (Str.ofString "key"), .Name x pf, kpos⟩] pos) (TSortK sp3 dds t) := by
  refine pe_imp (pe_callBK (call_sortK hc F hr hb hd) hg hm hv (pa_cons he pa_nil hst) (pk_cons (pe_glob (v := .ref f) hgf hmf rfl hdx) pk_nil) (by decide) (by decide) hbt hpl hall hnone hks) fun σ H Q hw => ?_
  obtain ⟨δ, G, Q3, E3, R, h, kq, ke⟩ := hw
  refine ⟨δ, G, _, E3, R, h, fun d v G1 H1 s1 hp1 dv q => ?_, ke⟩
  obtain ⟨xs, e1, qq⟩ := onS_iff.mp q
  obtain ⟨a, rfl, hs⟩ := src_of (T := fun vs => KRest X.K (liftSp X.K Γ sp3) dvs vs H1 Q) hp1 e1 dv fun vs l => krest_of h3 hp1 l qq fun d v G' H' s2 => kq d v G' H' (s1.trans s2)
  exact ⟨a, rfl, rfl, hs⟩
end
end L3
/-! L4e: len of any dict; generator expressions in plain proofs. -/
namespace L3
open PySem PySem.Spec PyProof.Rows L2
theorem hu2 {k : Nat} {A : Around} (r : Room k A) : A.units + 2 < cLine := by have := r.un; omega
@[simp] def lenC : C3 := fun ds G Q => match ds with
  | [.ref a] => (match G a with
    | some (.lst xs) => Q (.int xs.length) G
    | some (.dK kvs) => Q (.int kvs.length) G
    | some (.dT kvs) => Q (.int kvs.length) G
    | _ => False)
  | [.str z] => z.length ≤ sizeLine ∧ Q (.int z.length) G
  | [.nod .lst xs] => Q (.int xs.length) G
  | [.nod .ro xs] => Q (.int xs.length) G
  | [.nod .tup xs] => Q (.int xs.length) G
  | [.nod .tuK xs] => Q (.int xs.length) G
  | [.nod .tuF xs] => Q (.int xs.length) G
  | _ => False
abbrev rLen4 (K : PySem.W.Frag) : List V → Hp → VK → Prop := fun xs H Q => rLen3 K xs H Q ∨ rLenT xs H Q
theorem cr_len4 {X : Cx} : CallR X (.builtin "len") (rLen4 X.K) := cr_len3.or call_len_dT
theorem sound_lenC {X : Cx} {Γ : Gm} : SoundN X.K Γ (rLen4 X.K) lenC := by
  intro xs vs H G Q3 Q R hl h k
  unfold lenC at h
  split at h
  · split at h
    · rename_i hg
      exact .inl (sound_len (X := X) _ vs H G Q3 Q R hl (by simp only [lenR, seqD, hg]; exact h) k)
    · rename_i hg
      exact .inl (sound_len (X := X) _ vs H G Q3 Q R hl (by simp only [lenR, seqD, hg]; exact h) k)
    · rename_i hg
      obtain ⟨v, rfl, h1⟩ := datL_one hl
      obtain rfl : v = _ := h1
      obtain ⟨us, h2, l⟩ := R.own _ _ (vis_some hg)
      exact .inr ⟨_, us, rfl, h2, by rw [← DatF.length l]; exact ret k R h rfl⟩
    · exact h.elim
  · exact .inl (sound_len (X := X) _ vs H G Q3 Q R hl (by simp only [lenR]; exact h) k)
  · exact .inl (sound_len (X := X) _ vs H G Q3 Q R hl (by simp only [lenR, seqD]; exact h) k)
  · exact .inl (sound_len (X := X) _ vs H G Q3 Q R hl (by simp only [lenR, seqD]; exact h) k)
  · exact .inl (sound_len (X := X) _ vs H G Q3 Q R hl (by simp only [lenR, seqD]; exact h) k)
  · exact .inl (sound_len (X := X) _ vs H G Q3 Q R hl (by simp only [lenR, seqD]; exact h) k)
  · exact .inl (sound_len (X := X) _ vs H G Q3 Q R hl (by simp only [lenR, seqD]; exact h) k)
  · exact h.elim
/-- all(..) of what changes nothing -/
theorem gxAll {δ0 : St3} {g : TG3} {tt : TT3} {te : TE3} {G : Gp} {Q : K3} (b : D → Bool) : ∀ (xs ys : List D), (∀ x ∈ xs, LcStep δ0 g tt te G x true (.bl (b x))) → ys.length + xs.length ≤ sizeLine → Q (.bl (xs.all b)) G →
    GxRun δ0 g tt te (fun y => y = .bl true) (fun y G' => ∃ b, y = .bl b ∧ (b = false → Q (.bl false) G')) (fun _ G' => Q (.bl true) G') xs ys G
  | [], ys, _, _, h => h
  | x :: xs, ys, hs, hl, h => by
    have hl' : ys.length + xs.length + 1 ≤ sizeLine := by simpa [Nat.add_assoc] using hl
    refine hs x (List.mem_cons_self ..) _ _ (fun _ => ⟨by omega, ⟨b x, rfl, fun e => ?_⟩, fun e => ?_⟩) (fun z => by cases z)
    · rw [List.all_cons, e, Bool.false_and] at h
      exact h
    · have e : b x = true := by simpa using e
      rw [List.all_cons, e, Bool.true_and] at h
      exact gxAll b xs _ (fun y hy => hs y (List.mem_cons_of_mem _ hy)) (by simp; omega) h
end L3
namespace L3
open PySem PySem.Spec PyProof.Rows L2
/-! the end: tables, defaults -/
theorem ints_dl {K : PySem.W.Frag} {Γ : Gm} {H : Hp} {G : Gp} : ∀ ns : List Int, DatL K Γ H G (ns.map .int) (ns.map V.int)
  | [] => rfl
  | n :: ns => ⟨_, _, rfl, rfl, ints_dl ns⟩
theorem tab_uniq {cs : List (Addr × Addr)} {T : List (Addr × Str)} (hn : (cs.map (·.2)).Nodup) {P : Addr} {q : Str} (m : (P, q) ∈ T) (e : T.map (·.1) = cs.map (·.2) := by rfl) : ∀ p ∈ T, p.1 = P → p.2 = q := by
  rw [← e] at hn
  clear e
  induction T with
  | nil => cases m
  | cons t T ih =>
    rw [List.map_cons, List.nodup_cons] at hn
    intro p hp hP
    rcases List.mem_cons.mp m with e | m
    · rcases List.mem_cons.mp hp with e2 | hp
      · rw [e2, ← e]
      · exact absurd (List.mem_map.mpr ⟨p, hp, by rw [hP, ← e]⟩) hn.1
    · rcases List.mem_cons.mp hp with e2 | hp
      · exact absurd (List.mem_map.mpr ⟨_, m, by rw [← e2, ← hP]⟩) hn.1
      · exact ih hn.2 m p hp hP
theorem tabs_start {cs : List (Addr × Addr)} {T : List (Addr × Str)} {H : Hp} (h : ∀ p ∈ cs, H p.2 = some (.tbl #[])) (e : T.map (·.1) = cs.map (·.2) := by rfl) : LamX.Tabs T H := by
  intro p hp
  have : p.1 ∈ cs.map (·.2) := by rw [← e]; exact List.mem_map.mpr ⟨p, hp, rfl⟩
  obtain ⟨q, hq, e2⟩ := List.mem_map.mp this
  rw [← e2]
  exact LamX.TabS.nil (h q hq)
section
variable {K : PySem.W.Frag} {x qual : Str} {st : Stmt} {f T : Addr} {oc ot : Value} {od odt an : Option Addr} {osl slt : Array (Option Value)} {kV doc pm cdv ct : Value} {its : Array Value} {n : Nat} {dvs : List V}
theorem fd_mk (l : K.lookup f = some ⟨oc, od, .func (PySem.W.fnOf x qual (defArgs st) (defBody st) (defScope st) (.ref T) kV doc pm an cdv ct), osl⟩)
    (c : PySem.W.codeIn K cdv qual = true) (k : PySem.W.keepIn K (.ref f) = true) (lT : K.lookup T = some ⟨ot, odt, .seq its n, slt⟩) (r : Vals dvs its.toList) (ne : dvs ≠ []) : FunD K x qual (defArgs st) (defBody st) (defScope st) dvs [] f (PySem.W.fnOf x qual (defArgs st) (defBody st) (defScope st) (.ref T) kV doc pm an cdv ct) :=
  ⟨⟨oc, od, _, kV, doc, pm, an, cdv, ct, osl, rfl, l, c, .inr ⟨ne, T, _, its.toList, n, rfl, lT, rfl, r⟩, .inl rfl⟩, k⟩
theorem nil_of {us : List Value} (r : Vals [] us) : us = [] := by cases r; rfl
theorem tuK_nil {Γ : Gm} {H : Hp} {G : Gp} (l : K.lookup T = some ⟨.type "tuple", none, .seq #[] n, slt⟩) : Dat K Γ H G (.nod .tuK []) (.ref T) := ⟨T, [], rfl, ⟨.inr ⟨_, _, _, l, rfl, rfl, by decide, .nil⟩, fun o e => by rw [l] at e; cases e; rfl⟩, rfl⟩
theorem b_full {ps : List Str} {fd : FuncData} (h : ∃ us, Vals ([] : List V) us ∧ Binds K fd ps us) : Binds K fd ps [] := by
  obtain ⟨us, r, b⟩ := h
  rw [nil_of r] at b
  exact b
end
theorem exm_self {K : PySem.W.Frag} {S : Addr} (h1 : PySem.W.subIn K (.ref S) (.type "BaseException") = some true) (h2 : PySem.W.isClsIn K S = true) (h3 : PySem.W.typeIn K (.ref S) = some (.type "type")) (h4 : PySem.W.subIn K (.ref S) (.ref S) = some true) : PySem.W.exmOne K (.ref S) (.ref S) = some true := by
  have e : (PySem.W.clsIn K S).isSome = true := h2
  unfold PySem.W.exmOne PySem.W.kitCls
  simp [h1, h3, h4, e]
end L3
/-! L4h: lambdas that capture, as values. -/
namespace L3
open PySem PySem.Spec PyProof.Rows L2
open LamX (CodeO Tabs TabB ExtN LamS lamCx lamEnv)

/-- the function object of a lambda that captured the cells cl -/
def LamOc (q : Str) (params : Arguments) (body : Expr) (scope : Scope) (cl : List (Str × Addr)) (f c : Addr) : HO := .ext fun h => ∃ pm ctv, h.get? f = some (PySem.W.kla_obj "<lambda>" q params body scope cl pm c ctv)
section
variable {X : Cx} {pins : List (Addr × Obj)} {σ : L2.St} {H : Hp} {s : Shared}
theorem lamOc_ok {P : Program} {w : World} {q : Str} {params : Arguments} {body : Expr} {scope : Scope} {cl : List (Str × Addr)} {f c : Addr} {pm ctv : Value} {H : Hp} {h : Heap} (e : h.get? f = some (PySem.W.kla_obj "<lambda>" q params body scope cl pm c ctv)) : ObjOk P w H h f (LamOc q params body scope cl f c) :=
  ⟨⟨pm, ctv, e⟩, ⟨_, e⟩, fun _ _ ⟨pm, ctv, e⟩ st => ⟨pm, ctv, st _ e⟩⟩
theorem lam_newC {T : List (Addr × Str)} {c P : Addr} {params : Arguments} {body : Expr} {scope : Scope} {pos : Pos} {q : Str} {E : Value → Shared → Prop} {Q : Value → Shared → Prop} (I : Inv X pins σ H s) (TB : TabB X.base X.mg c P) (hcode : X.env.code = .ref c)
    (hq : X.env.qual ++ "<lambda>" = q) (hm : (P, q) ∈ T) (hu : ∀ p ∈ T, p.1 = P → p.2 = q) (hT : Tabs T H) (hdef : defaultsOf params X.env = ([], [])) (hfree : ∀ y ∈ scope.names, y.2 = .free → ∃ c, X.env.cells.lookup y.1 = some c)
    (h : ∀ (f c' : Addr) (H1 : Hp) (s' : Shared), ExtN H H1 → Tabs T H1 → H1 f = none → H1 c' = some (CodeO c' q) → Inv X pins σ (upd H1 f (LamOc q params body scope (cloFrom X.env.cells scope.names []) f c')) s' → Q (.ref f) s') :
    wpAny (model X.prog X.w) X.A (eval (.Lambda params body scope pos) X.env) Q E s := by
  subst hq
  have hclo := closure_ok (env := X.env) hfree
  obtain ⟨ps, tP, tri, told⟩ := hT _ hm
  have bP := TB.bm.keeps I.bk
  have oP : s.heap.get? P = some { cls := .none, data := .fields ps } := I.hok P _ tP
  have glob := I.mod.glob.keeps I.bk
  have cod := TB.code.keeps I.bk
  refine PySem.W.kla_eval hdef ?_
  cases hc : codeAmong pos ps.toList with
  | some cv =>
    obtain ⟨c', rfl, hco⟩ := told pos cv hc
    refine PySem.W.kla_makeFunctionHit (mg := X.mg) hclo I.ok.glob glob hcode cod oP tri hc bP fun ctv h' tk keep size => ?_
    have I0 : Inv X pins σ H { s with heap := h', toks := tk } := I.kept keep
    exact h _ c' H _ (ExtN.refl H) hT (I.hok.fresh size) hco (I0.laid (t' := tk) (fun b u e => Heap.get?_push_of_some _ e) (Nat.le_refl _) (lamOc_ok (Heap.get?_push_size _ rfl)))
  | none =>
    refine PySem.W.kla_makeFunction (mg := X.mg) hclo I.ok.glob glob hcode cod oP tri hc TB.gP bP fun c' ctv h' tk keep ge lt rec tab => ?_
    obtain ⟨c2, oc, vs, t, e2, o2, d2, v2⟩ := rec
    cases e2
    have nC : H c' = none := I.hok.fresh ge
    have size : s.heap.objs.size ≤ h'.objs.size := Nat.le_trans ge (Nat.le_of_lt lt)
    have nPc : P ≠ c' := ne_of_none tP nC
    have I0 := LamX.inv_table (t' := tk) (q := X.env.qual ++ "<lambda>") (more := #[rawInt pos.line, rawInt pos.col, .ref c']) I tP keep tab ge ⟨oc, vs, t, o2, d2, v2⟩
    have list : (ps ++ #[rawInt pos.line, rawInt pos.col, .ref c']).toList = ps.toList ++ [rawInt pos.line, rawInt pos.col, .ref c'] := by simp
    have eN : ExtN H (upd (upd H P (.tbl (ps ++ #[rawInt pos.line, rawInt pos.col, .ref c']))) c' (CodeO c' (X.env.qual ++ "<lambda>"))) := fun b o e n => by
      have b1 : b ≠ c' := ne_of_none e nC
      have b2 : b ≠ P := fun z => by
        subst z
        rw [tP] at e
        exact n ps (Option.some.inj e).symm
      rw [upd_ne b1, upd_ne b2]
      exact e
    have T1 : Tabs T (upd (upd H P (.tbl (ps ++ #[rawInt pos.line, rawInt pos.col, .ref c']))) c' (CodeO c' (X.env.qual ++ "<lambda>"))) := fun p hp => by
      by_cases hb : p.1 = P
      · rw [hu p hp hb, hb]
        refine ⟨_, (upd_ne nPc).trans upd_same, list ▸ PySem.TriplesOk_snoc _ _ _ _ tri, fun p' cv hcv => ?_⟩
        rw [list] at hcv
        rcases LamX.among_app _ tri hcv with z | z
        · obtain ⟨c0, r1, r2⟩ := told p' cv z
          exact ⟨c0, r1, eN _ _ r2 LamX.codeO_ne⟩
        · exact ⟨c', z, upd_same⟩
      · obtain ⟨qs, r1, r2, r3⟩ := hT p hp
        refine ⟨qs, (upd_ne (ne_of_none r1 nC)).trans ((upd_ne hb).trans r1), r2, fun p' cv hcv => ?_⟩
        obtain ⟨c0, r4, r5⟩ := r3 p' cv hcv
        exact ⟨c0, r4, eN _ _ r5 LamX.codeO_ne⟩
    have nf : upd (upd H P (.tbl (ps ++ #[rawInt pos.line, rawInt pos.col, .ref c']))) c' (CodeO c' (X.env.qual ++ "<lambda>")) h'.objs.size = none := I0.hok.fresh (Nat.le_refl _)
    exact h _ c' _ _ eN T1 nf upd_same (I0.laid (t' := tk) (fun b u e => Heap.get?_push_of_some _ e) (Nat.le_refl _) (lamOc_ok (Heap.get?_push_size _ rfl)))
/-- the closure is called, in the def that got it -/
theorem pe_actC {CXg : CXT} {Eg : XK} {Ng : List Str} {qg : Str} {sg : Scope} {g f c' : Addr} {cdg : Value} {params : Arguments} {body : Expr} {scope : Scope} {k i : Nat} {a : Str} {pn : List (Addr × Obj)} {xe : Value → Shared → Prop} {W : WX} {E : XK} {tb : TE} {p1 p2 : Pos}
    (I : Inv X pins σ H s) (L : LamS X.env.scope scope)
    (hbind : ∀ (pm cv ctv : Value), bindArgs (PySem.W.kla_fn "<lambda>" (X.env.qual ++ "<lambda>") params body scope (cloFrom X.env.cells scope.names []) pm cv ctv) ⟨[], []⟩ = pure [])
    (tk : Takes ((cxOf CXg X.prog X.w X.K X.mg X.base Ng qg sg g cdg X.A X.stack s H Eg).tr pn xe) W) (hW : ∀ cls d σ' H', E cls d H' → W cls d σ' H') (hr : Room (k + 1) (X.A.deeper (envOfC qg sg s.heap.objs.size g cdg)))
    (hbody : ∀ (A : Around) (outer : List Env) (s : Shared) (H : Hp), Room k (A.deeper (lamEnv X scope s.heap.objs.size f c')) → PE (lamCx X A outer s H E scope f c') body tb)
    (hN : Ng[i]? = some a) (hv : Vis sg a) (hd : (a == ("__debug__" : Str)) = false := by decide) (hcd : (a == ("__classdict__" : Str)) = false := by decide) :
    PE ((cxOf CXg X.prog X.w X.K X.mg X.base Ng qg sg g cdg X.A X.stack s H Eg).tr pn xe) (.Call (.Name a p1) [] [] p2)
      (fun σZ HZ Q => σZ[i]? = some (some (.ref f)) ∧ HZ c' = some (CodeO c' (X.env.qual ++ "<lambda>")) ∧ HZ f = some (LamOc (X.env.qual ++ "<lambda>") params body scope (cloFrom X.env.cells scope.names []) f c') ∧ tb σ HZ Q) := by
  refine ⟨fun pinsZ sZ σZ HZ Q IZ h => ?_⟩
  obtain ⟨hs, hc, hf, ht⟩ := h
  refine wpAny_Call_Name_kw (thn ((pe_var (pos := p1) (i := i) hN hv hd hcd).run pinsZ sZ σZ HZ (fun v H1 => v = .ref f ∧ H1 = HZ) IZ ⟨.ref f, hs, rfl, rfl⟩) fun u s1 ⟨v, H1, I1, r1, q1⟩ => ?_)
  obtain ⟨ev, eH⟩ := q1
  subst ev
  rw [eH] at I1
  obtain rfl : u = Value.ref f := r1
  obtain ⟨⟨pm, ctv, of1⟩, _, _⟩ := I1.hok f _ hf
  refine PySem.W.callWith_F0 ⟨_, _, _, _, of1⟩ ?_
  have un : Un (frs X.stack) [] H HZ s.heap s1.heap := I1.base
  obtain ⟨⟨oc, vs, t, hoc, hdc, hvc⟩, _, _⟩ := I1.hok c' _ hc
  have rc : codeAny (model X.prog X.w) (X.A.deeper (envOfC qg sg s.heap.objs.size g cdg)) (.call (.ref f) ⟨[], []⟩) (CR (L2.CX X.prog X.w) (envOfC qg sg s.heap.objs.size g cdg :: X.stack) X.prog X.w HZ s1 Q E) s1 := by
    refine PySem.W.kla_callFunE hr.depth of1 rfl L.co L.gen rfl ⟨c', oc, vs, t, rfl, hoc, hdc, hvc⟩ ?_
    rw [hbind]
    refine wpAny_pure (wpAny_newFunctionEnv (fun y hy => (L.own y hy).2) (fun y hy => absurd hy (by simp)) (fun h₁ hns hsb => ⟨I1.nolimit.fresh _ hsb, ?_⟩) L.kind)
    show codeAny _ _ (.expr body (lamEnv X scope s1.heap.objs.size f c')) _ _
    have kp : ∀ b o, s1.heap.get? b = some o → h₁.get? b = some o := fun b o e => hsb.extBut b o (Nat.ne_of_lt (Heap.lt_size e)) (Heap.get?_push_of_some _ e)
    have J : Inv (lamCx X (X.A.deeper (envOfC qg sg s.heap.objs.size g cdg)) (envOfC qg sg s.heap.objs.size g cdg :: X.stack) s1 HZ E scope f c') [] σ HZ { s1 with heap := h₁, toks := s1.toks + ([] : List (Str × Value)).length } :=
      LamX.lam_start2 I L I1.env0 hr.hd un hns kp
    refine PySem.W.kla_codeExpr (wpAny_mono ((hbody _ _ s1 HZ (hr.deeper _)).run [] _ _ HZ Q J ht) (fun v s' hq => ?_) fun e s' hq => hq)
    obtain ⟨w', H', J', rv, q⟩ := hq
    exact ⟨w', H', J'.os, J'.bare, J'.base, J'.hok, rv, q⟩
  have hx : Passes (L2.CX X.prog X.w) ((cxOf CXg X.prog X.w X.K X.mg X.base Ng qg sg g cdg X.A X.stack s H Eg).tr pn xe) E := passes_call tk hW
  refine wpAny_call (codeAny_mono rc fun r s' hq => ?_)
  cases r with
  | error e => exact hx pinsZ σZ HZ s1 e s' I1 hq
  | ok fl =>
    cases fl with
    | ret u => exact I1.after hq
    | next => exact False.elim hq
    | brk => exact False.elim hq
    | cont => exact False.elim hq
end
/-- what stands at the i-th lambda of the frame -/
def Gm.isC (Γ : Gm) (X : Cx) (i : Nat) (l : LamI) : Prop := ∀ f c, Γ.clo i f c = LamOc (Γ.cq i) l.params l.body l.scope (cloFrom X.env.cells l.scope.names []) f c
/-- told(d), d a lambda of this frame: its body reads this frame's names -/
def TToldW (K : PySem.W.Frag) (CS : Addr) (rt : Str) (te : TE3) (ts : List TE3) : TE3 := fun δ G Q E => te δ G (fun d G1 => match d with
  | .clo i => (match ts[i]? with
    | some t => t δ G1 Q (fun cls G' => PySem.W.exmOne K cls (.ref CS) = some true ∧ Q (.str rt) G')
    | none => False)
  | _ => False) E
section
variable {X : Cx} {Γ : Gm} {W : WX}
theorem pe3_cloC {i : Nat} {l : LamI} {c P : Addr} {pos : Pos} (hi : Γ.isC X i l) (TB : TabB X.base X.mg c P) (hcode : X.env.code = .ref c) (hq : X.env.qual ++ "<lambda>" = Γ.cq i) (hm : (P, Γ.cq i) ∈ Γ.T) (hu : ∀ p ∈ Γ.T, p.1 = P → p.2 = Γ.cq i) (hdef : defaultsOf l.params X.env = ([], [])) (L : LamS X.env.scope l.scope) :
    PE3 X Γ W (.Lambda l.params l.body l.scope pos) (TClo i) := by
  refine ⟨fun pins s σ H Q I hw => ?_⟩
  obtain ⟨δ, G, Q3, E3, R, h, k, ke⟩ := hw
  refine lam_newC I TB hcode hq hm hu R.hp.tab hdef (L.has I.ok) fun f c' H1 s' e T1 nf hc I1 => ?_
  have s1 := Step.ext R.hp e
  have hp1 := R.hp.ext e T1
  have s2 : Step X.K H1 G (upd H1 f (LamOc (Γ.cq i) l.params l.body l.scope (cloFrom X.env.cells l.scope.names []) f c')) G := Step.new nf
  have hp2 : HpR X.K Γ (upd H1 f (LamOc (Γ.cq i) l.params l.body l.scope (cloFrom X.env.cells l.scope.names []) f c')) G := hp1.new nf
  have nc : G c' = none := by
    cases g : G c' with
    | none => rfl
    | some o =>
      exfalso
      have q := hp1.own c' o g
      cases o with
      | lst ds => obtain ⟨_, q, _⟩ := q; rw [hc] at q; exact nomatch (Option.some.inj q)
      | dK ds => obtain ⟨_, q, _⟩ := q; rw [hc] at q; exact nomatch (Option.some.inj q)
      | dT ds => obtain ⟨_, q, _⟩ := q; rw [hc] at q; exact nomatch (Option.some.inj q)
      | ins C ds => obtain ⟨_, _, q, _⟩ := q; rw [hc] at q; exact nomatch (Option.some.inj q)
      | lkK ds => obtain ⟨_, _, q, _⟩ := q; rw [hc] at q; exact nomatch (Option.some.inj q)
      | lkT ds => obtain ⟨_, _, q, _⟩ := q; rw [hc] at q; exact nomatch (Option.some.inj q)
      | lkL ds => obtain ⟨_, _, q, _⟩ := q; rw [hc] at q; exact nomatch (Option.some.inj q)
      | hid => obtain ⟨_, q, _, n⟩ := q; rw [hc] at q; cases q; exact n _ rfl
  refine ⟨.ref f, _, I1, rfl, k (.clo i) (.ref f) G _ (s1.trans s2) hp2 ⟨f, c', rfl, own_none hp1 nf, nc, ?_, ?_, ?_⟩ h⟩
  · rw [hi f c']
    exact upd_same
  · rw [upd_ne (ne_of_none hc nf)]
    exact hc
  · rw [hi f c']
    exact ⟨_, rfl⟩
theorem pe3_toldW {x a : Str} {g CS : Addr} {k : Nat} {pg : Arguments} {bg : List Stmt} {sg : Scope} {dV kV doc pm cdv ct oc : Value} {an od : Option Addr} {osl : Array (Option Value)} {Ng : List Str} {e : Expr} {te : TE3} {ts : List TE3} {p pos : Pos} {rt : Str}
    (hg : Gl X x) (hm : X.mg x = some (.ref g)) (hk : PySem.W.keepIn X.K (.ref g) = true) (lk : X.K.lookup g = some ⟨oc, od, .func (PySem.W.fnOf x x pg bg sg dV kV doc pm an cdv ct), osl⟩) (hcg : PySem.W.codeIn X.K cdv x = true)
    (hb : L2.Binds X.K (PySem.W.fnOf x x pg bg sg dV kV doc pm an cdv ct) [a] []) (Sg : FnScope Ng [a] sg) (hNg : Ng[0]? = some a) (hva : Vis sg a) (hG : ∀ q, LamX.GivesTo X Ng x sg g cdv bg a q (LamX.TTold X.K CS rt)) (hr : Room (k + 2) X.A) (he : PE3 X Γ W e te)
    (hts : ∀ i t, ts[i]? = some t → ∃ l : LamI, Γ.isC X i l ∧ Γ.cq i = X.env.qual ++ "<lambda>" ∧ LamS X.env.scope l.scope ∧ (∀ (q : Str) (cl : List (Str × Addr)) (pm cv ctv : Value), bindArgs (PySem.W.kla_fn "<lambda>" q l.params l.body l.scope cl pm cv ctv) ⟨[], []⟩ = pure []) ∧
      ∀ (A : Around) (outer : List Env) (s : Shared) (H : Hp) (E : XK) (f c' : Addr), Room k (A.deeper (lamEnv X l.scope s.heap.objs.size f c')) → PE3 (lamCx X A outer s H E l.scope f c') Γ (WE3 E) l.body t)
    (hs : starEach [e] X.env = [(false, eval e X.env)] := by rfl) (hdb : (x == ("__debug__" : Str)) = false := by decide) (hd : (a == ("__debug__" : Str)) = false := by decide) (hcd : (a == ("__classdict__" : Str)) = false := by decide) :
    PE3 X Γ W (.Call (.Name x p) [e] [] pos) (TToldW X.K CS rt te ts) := by
  refine ⟨fun pins s σ H Q I hw => ?_⟩
  obtain ⟨δ, G, Q3, E3, R, h, k0, ke⟩ := hw
  refine wpAny_Call_Name_kw (ld_glob I hg hm ?_ hdb)
  refine PySem.W.callWith_K (h₀ := X.base) I.ok.mod.kin hk ?_ hs (by rfl)
  show wpAny _ _ (spliced (backTo pos (starEach [e] X.env))) _ _ s
  rw [hs]
  refine Calls.spliced_cons (thn (he.run pins s σ H (fun v H1 => ∃ G1 i f c', v = V.ref f ∧ HpR X.K Γ H1 G1 ∧ Step X.K H G H1 G1 ∧ H1 f = some (Γ.clo i f c') ∧ H1 c' = some (CodeO c' (Γ.cq i)) ∧
    ∃ t, ts[i]? = some t ∧ t δ (vis G1) Q3 (fun cls G' => PySem.W.exmOne X.K cls (.ref CS) = some true ∧ Q3 (.str rt) G')) I ⟨δ, G, _, E3, R, h, fun d v G1 H1 s1 hp1 dv q => ?_, ke⟩) fun u s1 ⟨v, H1, I1, rv, G1, i, f, c', ev, hp1, st1, hf, hc, t, ht, q⟩ => ?_)
  · split at q
    · split at q
      · rename_i ht
        obtain ⟨f, c', rfl, n1, n2, e1, e2, _⟩ := dv
        exact ⟨G1, _, f, c', rfl, hp1, s1, e1, e2, _, ht, q⟩
      · exact q.elim
    · exact q.elim
  subst ev
  obtain rfl : u = Value.ref f := rv
  refine Calls.spliced_nil ⟨I1.kIn, ?_⟩
  obtain ⟨l, is, eq, L, hbind, hbody⟩ := hts i t ht
  rw [is, eq] at hf
  rw [eq] at hc
  have rc : codeAny (model X.prog X.w) X.A (.call (.ref g) ⟨[.ref f], []⟩) (CR C8.CX0 X.stack X.prog X.w H1 s1 Q C8.E0) s1 := by
    refine LamX.run_ofS (N := Ng) (ps := [a]) (us := [.ref f]) (vs := [.ref f]) lk hcg Sg hr I1.env0 (hb s1 [.ref f] I1.kIn rfl) (.cons rfl .nil) rfl fun hr' => ?_
    obtain ⟨t', ht', hq'⟩ := hG (X.env.qual ++ "<lambda>") f c' s1 H1 Q (fun E H' Q' => H' f = some (LamOc (X.env.qual ++ "<lambda>") l.params l.body l.scope (cloFrom X.env.cells l.scope.names []) f c') ∧ lift X.K Γ (WE3 E) t σ H' Q')
      (fun W' pn xe E p1 p2 tk hW => pe_imp (pe_actC (i := 0) I1 L (hbind _ _) tk hW hr' (fun A outer s H hr2 => hbody A outer s H E f c' hr2) hNg hva hd hcd) fun σZ HZ Q' ⟨z1, z2, z3, z4⟩ => ⟨z1, z2, z3, z4⟩) hc
      ⟨hf, δ, G1, Q3, _, R.mono st1 hp1, q, fun d v G' H' s' => k0 d v G' H' (st1.trans s'), fun cls G' H' s' hp' ⟨e1, q⟩ => ⟨true, e1, fun _ => k0 (.str rt) _ G' H' (st1.trans s') hp' rfl q, fun z => nomatch z⟩⟩
    exact ⟨t', ht'.nox, hq'⟩
  refine wpAny_call (codeAny_mono rc fun r s2 hq => ?_)
  match r, hq with
  | .error e, hq => exact (show False from hq).elim
  | .ok (.ret u), hq => exact I1.after hq
  | .ok .next, hq => exact False.elim hq
  | .ok .brk, hq => exact False.elim hq
  | .ok .cont, hq => exact False.elim hq
variable {x e : Str} {g CS : Addr} {d : FuncData} {st : Stmt} {rt : Str} {k : Nat}
theorem ToldF.toldW (F : ToldF X.K X.mg x g d st e CS rt) {ex : Expr} {te : TE3} {ts : List TE3} {p pos : Pos} (hg : Gl X x) (hdb : (x == ("__debug__" : Str)) = false) (hr : Room (k + 2) X.A) (he : PE3 X Γ W ex te)
    (hts : ∀ i t, ts[i]? = some t → ∃ l : LamI, Γ.isC X i l ∧ Γ.cq i = X.env.qual ++ "<lambda>" ∧ LamS X.env.scope l.scope ∧ (∀ (q : Str) (cl : List (Str × Addr)) (pm cv ctv : Value), bindArgs (PySem.W.kla_fn "<lambda>" q l.params l.body l.scope cl pm cv ctv) ⟨[], []⟩ = pure []) ∧
      ∀ (A : Around) (outer : List Env) (s : Shared) (H : Hp) (E : XK) (f c' : Addr), Room k (A.deeper (lamEnv X l.scope s.heap.objs.size f c')) → PE3 (lamCx X A outer s H E l.scope f c') Γ (WE3 E) l.body t)
    (hs : starEach [ex] X.env = [(false, eval ex X.env)] := by rfl) : PE3 X Γ W (.Call (.Name x p) [ex] [] pos) (TToldW X.K CS rt te ts) := by
  obtain ⟨oc, od, kV, doc, pm, an, cdv, ct, osl, e1, lk, hcd⟩ := F.u.ex
  obtain ⟨j, p1, p2, p3, p4, p5, p6, p7, p8, eb⟩ := F.body
  have hb := F.b
  rw [e1, eb] at lk
  rw [e1, eb] at hb
  exact pe3_toldW hg F.gm F.u.kp lk hcd hb F.sc rfl (.inl F.loc) (fun q => LamX.told_gives F.ge F.me F.de fun _ => rfl) hr he hts hs hdb
end
/-- a def whose closures' cells hang on its frame (the law): promised under each such Γ -/
theorem fn3G {P : Program} {w : World} {K : PySem.W.Frag} {mg : Str → Option Value} {base : Heap} {x qual : Str} {st : Stmt} {f : Addr} {fd : FuncData} {N ps : List Str} {k : Nat} {sp3 : Sp3} (Γ : Nat → Gm) (F : FunA K x qual st f fd) (S : FnScope N ps (defScope st)) (len : ∀ ds G Q E, sp3 ds G Q E → ds.length = ps.length)
    (body : ∀ (cdv : Value) (A : Around) (outer : List Env) (s : Shared) (H : Hp) (E : XK), fd.code = cdv → Room k (A.deeper (envOfC qual (defScope st) s.heap.objs.size f cdv)) →
      ∃ T : TS3, PSs3 (cxOf (L2.CX P w) P w K mg base N qual (defScope st) f cdv A outer s H E) (Γ s.heap.objs.size) (WE3 E) (defBody st) T ∧
        ∀ ds G Q3 E3, sp3 ds G Q3 E3 → T { nx := fun _ G' => RetC Q3 .non G', rt := RetC Q3, ex := fun cls _ G' => ExC E3 cls G' } (start3 N ds) G) :
    FnOk P w K mg base (L2.CX P w) (k + 1) f fd ps (fun vs H Q E => ∀ L, liftSp K (Γ L) sp3 vs H Q E) := by
  obtain ⟨oc, od, dV, kV, doc, pm, an, cdv, ct, osl, rfl, lk, hcd⟩ := F.ex
  refine fn_of lk hcd S (fun vs H Q E h => ?_) fun A outer s H vs Q E hr h => ?_
  · obtain ⟨ds, G, Q3, E3, dl, _, h, _⟩ := h 0
    rw [← dl.length]
    exact len _ _ _ _ h
  · obtain ⟨ds, G, Q3, E3, dl, hp, h, kq, ke⟩ := h s.heap.objs.size
    obtain ⟨T, hT, hd⟩ := body cdv A outer s H E rfl hr
    have fin : ∀ d v G' H', Step K H G H' G' → HpR K (Γ s.heap.objs.size) H' G' → Dat K (Γ s.heap.objs.size) H' G' d v → RetC Q3 d (vis G') → Q v H' := fun d v G' H' s' hp' dv ⟨d', G2, sb, fz, q⟩ =>
      kq d' v (ovl G' G2) H' (s'.let sb) (hp'.sub (sub_ovl sb)) (fz K _ H' G' v rfl hp' (dv.sub (sub_ovl sb))) (by rw [vis_sub sb]; exact q)
    refine ⟨_, hT, start3 N ds, G, _, Rel.start hp dl, hd ds (vis G) Q3 E3 h, ⟨fun δ' G' σ' H' s' R' q => fin .non .non G' H' s' R'.hp rfl q, fin, fun _ _ _ _ _ _ z => z.elim, fun _ _ _ _ _ _ z => z.elim, fun cls δ' G' σ' H' s' R' q => ?_⟩⟩
    obtain ⟨G2, sb, q⟩ := q
    exact ke cls (ovl G' G2) H' (s'.let sb) (R'.hp.sub (sub_ovl sb)) (by rw [vis_sub sb]; exact q)
end L3
/-! L4g: globals that hold data; dict(d); setdefault; a list and []; displays of dicts; str(int). -/
namespace L3
open PySem PySem.Spec PyProof.Rows L2

/-- a global that holds data -/
def GlobD (K : PySem.W.Frag) (mg : Str → Option Value) (x : Str) (d : D) : Prop := ∃ (v : V) (u : Value), mg x = some u ∧ RelV v u ∧ ∀ (Γ : Gm) (H : Hp) (G : Gp), Dat K Γ H G d v
section
variable {X : Cx} {Γ : Gm} {W : WX}
theorem pe3_globD {x : Str} {pos : Pos} {d : D} (h : GlobD X.K X.mg x d) (hg : Gl X x) (hdb : (x == ("__debug__" : Str)) = false := by decide) : PE3 X Γ W (.Name x pos) (TC d) := by
  obtain ⟨v, u, hm, r, hd⟩ := h
  exact pe3_glob hg hm r (fun H G => hd Γ H G) hdb
end

/-! ### dict(d), dict(()) -/
def dictCR : C3 := fun ds G Q => match ds with
  | [.ref a] => (match G a with
    | some (.dK kvs) => ∀ p, G p = none → Q (.ref p) (gset G p (.dK kvs))
    | some (.lkK kvs) => ∀ p, G p = none → Q (.ref p) (gset G p (.dK kvs))
    | _ => False)
  | _ => False
abbrev rDictD (K : PySem.W.Frag) : List V → Hp → VK → Prop := fun xs H Q => ∃ (a : Addr) (kvs : List (Key × V)), xs = [.ref a] ∧ Rd H a (.dK kvs) ∧ ∀ p, H p = none → Q (.ref p) (upd H p (.dK kvs))
section
variable {X : Cx} {Γ : Gm}
theorem sound_dictC : SoundN X.K Γ (rDictD X.K) dictCR := by
  intro xs vs H G Q3 Q R hl h k
  unfold dictCR at h
  have fin : ∀ {a : Addr} {kvs : List (Key × D)} {ws : List (Key × V)}, DatF X.K Γ H G kvs ws → (∀ p, vis G p = none → Q3 (.ref p) (gset (vis G) p (.dK kvs))) → ∀ p, H p = none → Q (.ref p) (upd H p (.dK ws)) := fun {a kvs ws} l q p hp => by
    have st : Step X.K H G (upd H p (.dK ws)) (gset G p (.dK kvs)) := Step.newG hp (own_none R hp)
    refine k (.ref p) _ _ _ st (R.newG (g := .dK kvs) hp ⟨_, upd_same, DatF.mono st l⟩) rfl ?_
    rw [vis_gset (by intro z; cases z)]
    exact q p (vis_none (own_none R hp))
  split at h
  · rename_i a
    obtain ⟨v, rfl, h1⟩ := datL_one hl
    obtain rfl : v = _ := h1
    split at h
    · rename_i kvs hg
      obtain ⟨us, h2, l⟩ := R.own _ _ (vis_some hg)
      exact ⟨a, us, rfl, .inl h2, fin (a := a) l h⟩
    · rename_i kvs hg
      obtain ⟨o, us, h2, l⟩ := R.own _ _ (vis_some hg)
      exact ⟨a, us, rfl, .inr ⟨o, h2⟩, fin (a := a) l h⟩
    · exact h.elim
  · exact h.elim
end

/-! ### d.setdefault(k, x) -/
def setdC (x y z : D) (G : Gp) (Q : K3) : Prop := match x with
  | .ref a => (match G a with
    | some (.dK kvs) => kvs.length < sizeLine ∧ onS (keyOf y) fun k => (match look kvs k with | some d => Q d G | none => Q z (gset G a (.dK (put kvs k z))))
    | _ => False)
  | _ => False
theorem setdC_of {x y z : D} {G : Gp} {Q : K3} (h : setdC x y z G Q) : ∃ a kvs k, x = .ref a ∧ G a = some (.dK kvs) ∧ y = keyD k ∧ kvs.length < sizeLine ∧ (∀ d, look kvs k = some d → Q d G) ∧ (look kvs k = none → Q z (gset G a (.dK (put kvs k z)))) := by
  unfold setdC at h
  split at h
  · split at h
    · rename_i hg
      obtain ⟨hl, h⟩ := h
      obtain ⟨k, e, q⟩ := onS_iff.mp h
      refine ⟨_, _, k, rfl, hg, keyOf_is e, hl, fun d e2 => ?_, fun e2 => ?_⟩
      · rw [e2] at q; exact q
      · rw [e2] at q; exact q
    · exact h.elim
  · exact h.elim
@[simp] def TSetd (td ty tx : TE3) : TE3 := fun δ G Q E => td δ G (fun x G1 => isDC x G1 ∧ ty δ G1 (fun y G2 => tx δ G2 (fun z G3 => setdC x y z G3 Q) E) E) E
section
variable {X : Cx} {Γ : Gm} {W : WX} {o e f : Expr} {apos cpos : Pos} {ta tb tc : TE3}
theorem pe3_setd (ho : PE3 X Γ W o ta) (he : PE3 X Γ W e tb) (hf : PE3 X Γ W f tc) (m : M2 X o "setdefault" apos e f cpos) : PE3 X Γ W (.Call (.Attribute o "setdefault" apos) [e, f] [] cpos) (TSetd ta tb tc) := by
  refine pe_imp (pe_dsetd ho he hf m) fun σ H Q hw => ?_
  obtain ⟨δ, G, Q3, E3, R, h1, k, ke⟩ := hw
  refine ⟨δ, G, _, E3, R, h1, fun x v G1 H1 s1 hp1 dx ⟨hd', q⟩ => ?_, ke⟩
  have hd := isDC_of hd'
  obtain ⟨a, rfl, hD⟩ := hd.at hp1 dx
  refine ⟨a, rfl, hD, δ, G1, _, E3, R.mono s1 hp1, q, fun y u G2 H2 s2 hp2 dy q => ?_, fun cls G' H' s' => ke cls G' H' (s1.trans s')⟩
  refine ⟨δ, G2, _, E3, R.mono (s1.trans s2) hp2, q, fun z w G3 H3 s3 hp3 dz q0 => ?_, fun cls G' H' s' => ke cls G' H' ((s1.trans s2).trans s')⟩
  obtain ⟨a', kvs, k', ea, hg, ey, hl, q1, q2⟩ := setdC_of q0
  subst ea ey
  cases (show _ = _ from dx)
  have hg' := vis_some hg
  obtain ⟨vs, h3, l⟩ := hp3.own _ _ hg'
  refine ⟨vs, k', h3, dat_key (dy.mono s3), by rw [← DatF.length l]; exact hl, fun w' hv => ?_, fun hv => ?_⟩
  · rcases datF_look l k' with ⟨d, w2, e1, e2, dw⟩ | ⟨_, e2⟩
    · rw [hv] at e2; cases e2
      exact k d w' G3 H3 ((s1.trans s2).trans s3) hp3 dw (q1 d e1)
    · rw [hv] at e2; cases e2
  · rcases datF_look l k' with ⟨d, w2, e1, e2, dw⟩ | ⟨e1, e2⟩
    · rw [hv] at e2; cases e2
    · obtain ⟨st, hp4⟩ := hp3.put (o' := .dK (putK vs k' w)) (g' := .dK (put kvs k' z)) hg' rfl fun st => ⟨_, upd_same, DatF.mono st (datF_put l k' dz)⟩
      refine k z w _ _ (((s1.trans s2).trans s3).trans st) hp4 (dz.mono st) ?_
      rw [vis_gset (by intro z; cases z)]
      exact q2 e1
end
/-! ### xs == [] -/
def rEqNil (K : PySem.W.Frag) : R2 := fun x y H Q => ∃ a b xs, x = .ref a ∧ y = .ref b ∧ SqL K H a xs ∧ SqL K H b [] ∧ Q (.bl xs.isEmpty) H
@[simp] def eqNilR : R3 := fun x y G Q => match valD x G, y with
  | .nod .lst xs, .nod .lst [] => Q (.bl xs.isEmpty) G
  | _, _ => False
section
variable {X : Cx} {Γ : Gm}
theorem op_eqNil (hu : X.A.units < cLine) : OpR X (compareOp .Eq) (rEqNil X.K) := by
  intro pins s σ H x y v u Q I rx ry h
  obtain ⟨a, b, xs, rfl, rfl, ha, hb, q⟩ := h
  obtain rfl : v = Value.ref a := rx
  obtain rfl : u = Value.ref b := ry
  obtain ⟨its, r1, p1, _⟩ := I.list ha
  obtain ⟨its2, r2, p2, _⟩ := I.list hb
  cases r2
  cases xs with
  | nil =>
    cases r1
    obtain ⟨o, n, ho, hc, hd, hdat⟩ := p1
    obtain ⟨o2, n2, ho2, hc2, hd2, hdat2⟩ := p2
    refine SeqAt.eq_listAt (items := #[]) (items2 := #[]) (e := fun _ => true) ⟨o, ho, hc, n, hdat⟩ ⟨o2, ho2, hc2, n2, hdat2⟩ rfl hu (fun j h1 _ => absurd h1 (Nat.not_lt_zero j)) ⟨.bl true, H, I, rfl, q⟩
  | cons z zs =>
    cases r1
    rename_i w ws r t
    obtain ⟨o, n, ho, hc, hd, hdat⟩ := p1
    obtain ⟨o2, n2, ho2, hc2, hd2, hdat2⟩ := p2
    exact SeqAt.eq_list_lengthsAt ⟨o, ho, hc, n, hdat⟩ ⟨o2, ho2, hc2, n2, hdat2⟩ rfl hu ⟨.bl false, H, I, rfl, q⟩
end
section
variable {K : PySem.W.Frag} {Γ : Gm}
theorem sound_eqNil : Sound2 K Γ (rEqNil K) eqNilR := by
  intro x y v u H G Q3 Q R hx hy h k
  unfold eqNilR at h
  split at h
  · rename_i xs e1
    obtain ⟨b, us, rfl, hb, l⟩ := hy
    obtain rfl : us = [] := l
    rcases valD_cases x (vis G) with e | ⟨a, ys, rfl, hg, e⟩
    · rw [e] at e1
      subst e1
      obtain ⟨a, ws, rfl, ha, l2⟩ := hx
      exact ⟨a, b, ws, rfl, rfl, SqL.of ha.2, SqL.of hb.2, by
        have : ws.isEmpty = xs.isEmpty := by cases xs <;> cases ws <;> first | rfl | (have := l2.length; simp at this)
        rw [this]; exact ret k R h rfl⟩
    · rw [e] at e1
      cases e1
      obtain rfl : v = _ := hx
      obtain ⟨ws, h2, l2⟩ := R.own _ _ (vis_some hg)
      exact ⟨a, b, ws, rfl, rfl, SqL.of h2, SqL.of hb.2, by
        have : ws.isEmpty = xs.isEmpty := by cases xs <;> cases ws <;> first | rfl | (have := l2.length; simp at this)
        rw [this]; exact ret k R h rfl⟩
  · exact h.elim
end
/-! ### {"a": x, ..} -/
@[simp] def TPv : List (Key × TE3) → St3 → Gp → (List (Key × D) → Gp → Prop) → X3 → Prop
  | [], _, G, Q, _ => Q [] G
  | p :: r, δ, G, Q, E => p.2 δ G (fun x G1 => TPv r δ G1 (fun kvs G2 => Q ((p.1, x) :: kvs) G2) E) E
@[simp] def TDisp (l : List (Key × TE3)) : TE3 := fun δ G Q E => ∀ p, G p = none → TPv l δ (gset G p (.dK [])) (fun kvs G2 => G2 p = some (.dK []) ∧ Q (.ref p) (gset G2 p (.dK (merge [] kvs)))) E
def PV3 (X : Cx) (Γ : Gm) (W : WX) (pos : Pos) (keys : List (Option Expr)) (values : List Expr) (l : List (Key × TE3)) : Prop := PPs X pos keys values (l.map fun p => (tC (kV p.1), lift X.K Γ W p.2))
section
variable {X : Cx} {Γ : Gm} {W : WX} {pos : Pos}
theorem pv3_nil : PV3 X Γ W pos [] [] [] := pps_nil
theorem pv3_str {k : Str} {j : Nat} {kp : Pos} {v : Expr} {ks : List (Option Expr)} {vs : List Expr} {t : TE3} {l : List (Key × TE3)} (hv : PE3 X Γ W v t) (hr : PV3 X Γ W pos ks vs l) : PV3 X Γ W pos (some (.Constant (.str k) j kp) :: ks) (v :: vs) ((.inr k, t) :: l) :=
  pps_cons (pe_str (X := X)) hv hr
theorem disp_lift {δ : St3} {E3 : X3} {σ : L2.St} {Q : List (V × V) → Hp → Prop} : ∀ (l : List (Key × TE3)) {G : Gp} {H : Hp} {Q3 : List (Key × D) → Gp → Prop}, Rel X.K Γ δ G σ H → TPv l δ (vis G) Q3 E3 →
    (∀ kvs ws G' H', Step X.K H G H' G' → HpR X.K Γ H' G' → DatF X.K Γ H' G' kvs ws → ws.length = l.length → Q3 kvs (vis G') → Q (ws.map fun w => (kV w.1, w.2)) H') →
    (∀ cls G' H', Step X.K H G H' G' → HpR X.K Γ H' G' → E3 cls (vis G') → W cls none σ H') → tPairs (l.map fun p => (tC (kV p.1), lift X.K Γ W p.2)) σ H Q
  | [], G, H, Q3, R, h, k, ke => k [] [] G H Step.refl R.hp .nil rfl h
  | p :: r, G, H, Q3, R, h, k, ke => by
    show lift X.K Γ W p.2 σ H _
    refine ⟨δ, G, _, E3, R, h, fun x v G1 H1 s1 hp1 dx q => ?_, ke⟩
    exact disp_lift r (R.mono s1 hp1) q (fun kvs ws G' H' s' hp' dl hl q => k ((p.1, x) :: kvs) ((p.1, v) :: ws) G' H' (s1.trans s') hp' (.cons ⟨rfl, dx.mono s'⟩ dl) (by simp [hl]) q) fun cls G' H' s' => ke cls G' H' (s1.trans s')
theorem pe3_disp {keys : List (Option Expr)} {values : List Expr} {l : List (Key × TE3)} (h : PV3 X Γ W pos keys values l) (h15 : l.length ≤ 15 := by decide) (hall : keys.all (·.isSome) = true := by rfl) (hl : keys.length = values.length := by rfl) (h0 : keys ≠ [] := by simp)
    (hk15 : keys.length ≤ 15 := by decide) : PE3 X Γ W (.Dict keys values pos) (TDisp l) := by
  refine pe_imp (pe_disp h hall hl h0 hk15) fun σ H Q hw => ?_
  obtain ⟨δ, G, Q3, E3, R, h1, k, ke⟩ := hw
  intro p hp
  have st : Step X.K H G (upd H p (.dK [])) (gset G p (.dK [])) := Step.newG hp (own_none R.hp hp)
  have hp1 : HpR X.K Γ (upd H p (.dK [])) (gset G p (.dK [])) := R.hp.newG (g := .dK []) hp ⟨[], upd_same, .nil⟩
  have h2 := h1 p (vis_none (own_none R.hp hp))
  rw [← vis_gset (by intro z; cases z)] at h2
  refine disp_lift l (R.mono st hp1) h2 (fun kvs ws G' H' s' hp' dl hlen ⟨q1, q2⟩ => ?_) fun cls G' H' s' => ke cls G' H' (st.trans s')
  have hg' := vis_some q1
  obtain ⟨us, e1, e2⟩ := hp'.own _ _ hg'
  cases e2
  refine ⟨e1, ws, rfl, by rw [hlen]; exact h15, ?_⟩
  obtain ⟨st2, hp4⟩ := hp'.put (o' := .dK (mergeK [] ws)) (g' := .dK (merge [] kvs)) hg' rfl fun st => ⟨_, upd_same, DatF.mono st (datF_merge dl .nil)⟩
  refine k (.ref p) (.ref p) _ _ ((st.trans s').trans st2) hp4 rfl ?_
  rw [vis_gset (by intro z; cases z)]
  exact q2
end
/-! ### str(i) -/
def strR : C3 := fun ds G Q => match ds with
  | [.int i] => i.natAbs.log2 < 1920 ∧ Q (.str (toString i)) G
  | _ => False
section
variable {X : Cx} {Γ : Gm}
theorem sound_str : SoundN X.K Γ (fun xs H Q => ∃ i : Int, xs = [.int i] ∧ i.natAbs.log2 < 1920 ∧ Q (.str (toString i)) H) strR := by
  intro xs vs H G Q3 Q R hl h k
  unfold strR at h
  split at h
  · obtain ⟨v, rfl, h1⟩ := datL_one hl
    obtain rfl : v = _ := h1
    exact ⟨_, rfl, h.1, ret k R h.2 rfl⟩
  · exact h.elim
end
end L3
/-! L4z: dict(zip(xs, ys)), xs and ys lists or tuples, each as it is. -/
namespace ZG
open PySem
/-- an iterator i over the items xs that stand at l; P k: it stands at k -/
structure Src (i l : Addr) (xs : Array Value) (P : Nat → Heap → Prop) : Prop where
  item : ∀ {prog : Program} {w : World} {A : Around} {E : Value → Shared → Prop} {s : Shared} {k : Nat} {x : Value} {Q : Value → Shared → Prop}, P k s.heap → xs[k]? = some x →
    (∀ h', P (k + 1) h' → Heap.SameBut i s.heap h' → Q x { s with heap := h' }) → wpAny (model prog w) A (Builtin.SmallTypes.nextOf (.ref i)) Q E s
  stop : ∀ {prog : Program} {w : World} {A : Around} {E : Value → Shared → Prop} {s : Shared} {k : Nat} {Q : Value → Shared → Prop}, A.handled = none → P k s.heap → xs[k]? = none →
    (∀ h' e, Heap.ExtBut i s.heap h' → (∃ o, h'.get? e = some o ∧ o.cls = .type "StopIteration") → E (.ref e) { s with heap := h' }) → wpAny (model prog w) A (Builtin.SmallTypes.nextOf (.ref i)) Q E s
  keep : ∀ {k : Nat} {h h' : Heap}, P k h → (∀ o, h.get? i = some o → h'.get? i = some o) → (∀ o, h.get? l = some o → h'.get? l = some o) → P k h'
  has : ∀ {k : Nat} {h : Heap}, P k h → (∃ o, h.get? i = some o) ∧ ∃ o, h.get? l = some o
theorem Src.ext {i l b : Addr} {xs : Array Value} {P : Nat → Heap → Prop} (S : Src i l xs P) {k : Nat} {h h' : Heap} (p : P k h) (e : Heap.ExtBut b h h') (n1 : i ≠ b) (n2 : l ≠ b) : P k h' := S.keep p (fun o => e _ o n1) fun o => e _ o n2
theorem srcL {i l : Addr} {xs : Array Value} (ne : l ≠ i) : Src i l xs fun k h => h.IsListIter i l k ∧ h.IsList l xs where
  item := fun p hx q => wpAny_nextOf_list_item p.1 p.2 hx fun h' it hs => q h' ⟨it, p.2.extBut hs.extBut ne⟩ hs
  stop := fun hh p hx q => wpAny_nextOf_list_end hh p.1 p.2 hx q
  keep := fun p k1 k2 => ⟨p.1.at k1, p.2.at k2⟩
  has := fun p => ⟨let ⟨o, e, _⟩ := p.1; ⟨o, e⟩, let ⟨o, e, _⟩ := p.2; ⟨o, e⟩⟩
theorem srcT {i l : Addr} {xs : Array Value} (ne : l ≠ i) : Src i l xs fun k h => h.IsTupleIter i l k ∧ h.IsTuple l xs where
  item := fun p hx q => RZ.nextOf_tuple_item p.1 p.2 hx fun h' it hs => q h' ⟨it, p.2.extBut hs.extBut ne⟩ hs
  stop := fun hh p hx q => RZ.nextOf_tuple_end hh p.1 p.2 hx q
  keep := fun p k1 k2 => ⟨p.1.at k1, p.2.at k2⟩
  has := fun p => ⟨let ⟨o, e, _⟩ := p.1; ⟨o, e⟩, let ⟨o, e, _⟩ := p.2; ⟨o, e⟩⟩
section
variable {prog : Program} {w : World} {A : Around} {E : Value → Shared → Prop} {s : Shared} {z TI TO T i1 i2 l1 l2 : Addr} {f : Bool} {oT : Obj} {k1 k2 : Nat} {xs ys : Array Value} {x y a b : Value} {P1 P2 : Nat → Heap → Prop}
/-- what is left as it was -/
abbrev Rest (z TO i1 i2 : Addr) (h h' : Heap) : Prop := ∀ c o, c ≠ z → c ≠ TO → c ≠ i1 → c ≠ i2 → h.get? c = some o → h'.get? c = some o
theorem first {Q : Value → Shared → Prop} (S1 : Src i1 l1 xs P1) (S2 : Src i2 l2 ys P2) (D : ZipApart z TI TO i1 i2 l1 l2) (hz : IsZip s.heap z TI TO .none) (hTI : IsPair s.heap TI (.ref i1) (.ref i2)) (hTO : IsPair s.heap TO a b)
    (p1 : P1 k1 s.heap) (p2 : P2 k2 s.heap) (hx : xs[k1]? = some x) (hy : ys[k2]? = some y)
    (hQ : ∀ h', IsZip h' z TI TO (rawInt s.heap.objs.size) → P1 (k1 + 1) h' → P2 (k2 + 1) h' → IsPair h' s.heap.objs.size x y → Rest z TO i1 i2 s.heap h' → Q (.ref s.heap.objs.size) { s with heap := h' }) :
    wpAny (model prog w) A (Builtin.«zip.__next__» ⟨[.ref z], []⟩) (fun fin s' => ∃ v, fin = .done (.ret v) ∧ Q v s') E s := by
  show wpAny _ _ (field (.ref z) 2 >>= _) _ _ _
  refine wpAny_bind (wpAny_field hz rfl (x := .bool false) rfl ?_)
  show wpAny _ _ (field (.ref z) 3 >>= _) _ _ _
  refine wpAny_bind (wpAny_field hz rfl (x := .ref TI) rfl (wpAny_bind (wpAny_seqItems hTI rfl ?_)))
  show wpAny _ _ (Builtin.SmallTypes.ownedTupleIsFree (.ref z) >>= _) _ _ _
  refine wpAny_bind ?_
  unfold Builtin.SmallTypes.ownedTupleIsFree
  refine wpAny_bind (wpAny_field hz rfl (x := .none) rfl (wpAny_pure ?_))
  simp only [if_true]
  refine wpAny_bind (wpAny_rule (wpAny_bind (wpAny_field hz rfl (x := .ref TO) rfl (wpAny_bind (wpAny_setField_rec hz (by simp) fun hA zA eA => ?_)))))
  replace zA : IsZip hA z TI TO .ellipsis := zA
  refine wpAny_bind ?_
  simp only [List.zipIdx_cons, List.zipIdx_nil, List.forIn_cons, List.forIn_nil]
  refine wpAny_bind (wpAny_bind (wpAny_onRaise ?_))
  show wpAny _ _ (Builtin.SmallTypes.nextOf (.ref i1) >>= _) _ _ _
  refine wpAny_bind (S1.item (S1.ext p1 eA.extBut D.i1z D.l1z) hx fun hB pB eB => wpAny_pure ?_)
  have tB : IsPair hB TO a b := eB.extBut _ _ D.TOi1 (eA.extBut _ _ D.TOz hTO)
  refine wpAny_bind (wpAny_seqItems tB rfl (wpAny_bind (wpAny_updateSeq_pair tB fun hC tC eC => ?_)))
  replace tC : IsPair hC TO x b := tC
  refine wpAny_bind (wpAny_letGo (wpAny_pure (wpAny_bind (wpAny_bind (wpAny_onRaise ?_)))))
  show wpAny _ _ (Builtin.SmallTypes.nextOf (.ref i2) >>= _) _ _ _
  refine wpAny_bind (S2.item (S2.ext (S2.ext (S2.ext p2 eA.extBut D.i2z D.l2z) eB.extBut D.i12.symm D.l2i1) eC.extBut D.TOi2.symm D.l2TO) hy fun hD pD eD => wpAny_pure ?_)
  have tD : IsPair hD TO x b := eD.extBut _ _ D.TOi2 tC
  refine wpAny_bind (wpAny_seqItems tD rfl (wpAny_bind (wpAny_updateSeq_pair tD fun hE tE eE => ?_)))
  replace tE : IsPair hE TO x y := tE
  refine wpAny_bind (wpAny_letGo (wpAny_pure (wpAny_pure (wpAny_bind (wpAny_seqItems tE rfl (wpAny_bind (wpAny_newTuple ?_)))))))
  have size : hE.objs.size = s.heap.objs.size := by rw [eE.1, eD.1, eC.1, eB.1, eA.1]
  have zE : IsZip hE z TI TO .ellipsis := eE.extBut _ _ D.TOz.symm (eD.extBut _ _ D.i2z.symm (eC.extBut _ _ D.TOz.symm (eB.extBut _ _ D.i1z.symm zA)))
  have rE : Rest z TO i1 i2 s.heap hE := fun c o c1 c2 c3 c4 e => eE.extBut _ _ c2 (eD.extBut _ _ c4 (eC.extBut _ _ c2 (eB.extBut _ _ c3 (eA.extBut _ _ c1 e))))
  have p1E : P1 (k1 + 1) hE := S1.ext (S1.ext (S1.ext pB eC.extBut D.TOi1.symm D.l1TO) eD.extBut D.i12 D.l1i2) eE.extBut D.TOi1.symm D.l1TO
  have p2E : P2 (k2 + 1) hE := S2.ext pD eE.extBut D.TOi2.symm D.l2TO
  have lz : z < hE.objs.size := Heap.lt_size zE
  show wpAny _ _ (Builtin.SmallTypes.ownedTupleHandOut (.ref z) (.ref hE.objs.size) >>= _) _ _ _
  refine wpAny_bind ?_
  unfold Builtin.SmallTypes.ownedTupleHandOut
  have zF : IsZip (hE.push { cls := .type "tuple", data := .seq #[x, y] }) z TI TO .ellipsis := Heap.get?_push_of_some _ zE
  refine wpAny_bind (wpAny_setField_rec zF (by simp) fun hG zG eG => ?_)
  replace zG : IsZip hG z TI TO (rawInt hE.objs.size) := zG
  refine wpAny_setField_rec zG (by simp) fun hH zH eH => ?_
  replace zH : IsZip hH z TI TO (rawInt hE.objs.size) := zH
  have up : ∀ c o, c ≠ z → hE.get? c = some o → hH.get? c = some o := fun c o c1 e => eH.extBut _ _ c1 (eG.extBut _ _ c1 (Heap.get?_push_of_some _ e))
  have tH : IsPair hH hE.objs.size x y := eH.extBut _ _ (Nat.ne_of_gt lz) (eG.extBut _ _ (Nat.ne_of_gt lz) (Heap.get?_push_size _ rfl))
  rw [size] at zH tH
  refine wpAny_pure ⟨_, rfl, ?_⟩
  show Q (.ref hE.objs.size) _
  rw [size]
  exact hQ hH zH (S1.keep p1E (fun o => up _ o D.i1z) fun o => up _ o D.l1z) (S2.keep p2E (fun o => up _ o D.i2z) fun o => up _ o D.l2z) tH fun c o c1 c2 c3 c4 e => up c o c1 (rE c o c1 c2 c3 c4 e)
theorem held {Q : Value → Shared → Prop} (S1 : Src i1 l1 xs P1) (S2 : Src i2 l2 ys P2) (D : ZipApart z TI TO i1 i2 l1 l2) (hz : IsZipHeld s.heap z TI TO T f) (hT : s.heap.get? T = some oT) (hTI : IsPair s.heap TI (.ref i1) (.ref i2))
    (p1 : P1 k1 s.heap) (p2 : P2 k2 s.heap) (hx : xs[k1]? = some x) (hy : ys[k2]? = some y)
    (hQ : ∀ h', IsZipHeld h' z TI TO T true → P1 (k1 + 1) h' → P2 (k2 + 1) h' → IsPair h' s.heap.objs.size x y → (∀ c o, c ≠ z → c ≠ i1 → c ≠ i2 → s.heap.get? c = some o → h'.get? c = some o) → Q (.ref s.heap.objs.size) { s with heap := h' }) :
    wpAny (model prog w) A (Builtin.«zip.__next__» ⟨[.ref z], []⟩) (fun fin s' => ∃ v, fin = .done (.ret v) ∧ Q v s') E s := by
  show wpAny _ _ (field (.ref z) 2 >>= _) _ _ _
  refine wpAny_bind (wpAny_field hz rfl (x := .bool false) rfl ?_)
  show wpAny _ _ (field (.ref z) 3 >>= _) _ _ _
  refine wpAny_bind (wpAny_field hz rfl (x := .ref TI) rfl (wpAny_bind (wpAny_seqItems hTI rfl ?_)))
  show wpAny _ _ (Builtin.SmallTypes.ownedTupleIsFree (.ref z) >>= _) _ _ _
  refine wpAny_bind (wpAny_tupleHeld_zip hz hT fun hA zA eA => ?_)
  simp only [Bool.false_eq_true, if_false]
  refine wpAny_bind ?_
  rw [← Array.forIn_toList]
  simp only [List.forIn_cons, List.forIn_nil]
  refine wpAny_bind (wpAny_bind (wpAny_holding ?_))
  show wpAny _ _ (Builtin.SmallTypes.nextOf (.ref i1) >>= _) _ _ _
  refine wpAny_bind (S1.item (s := { s with heap := hA }) (S1.ext p1 eA.extBut D.i1z D.l1z) hx fun hB pB eB => wpAny_pure (wpAny_pure (wpAny_bind (wpAny_bind (wpAny_holding ?_)))))
  show wpAny _ _ (Builtin.SmallTypes.nextOf (.ref i2) >>= _) _ _ _
  refine wpAny_bind (S2.item (s := { s with heap := hB }) (S2.ext (S2.ext p2 eA.extBut D.i2z D.l2z) eB.extBut D.i12.symm D.l2i1) hy fun hC pC eC => wpAny_pure (wpAny_pure (wpAny_pure ?_)))
  show wpAny _ _ (newTuple [x, y] >>= _) _ _ _
  refine wpAny_bind (wpAny_newTuple ?_)
  have size : hC.objs.size = s.heap.objs.size := by rw [eC.1, eB.1, eA.1]
  have zC : IsZipHeld hC z TI TO T true := eC.extBut _ _ D.i2z.symm (eB.extBut _ _ D.i1z.symm zA)
  have rC : ∀ c o, c ≠ z → c ≠ i1 → c ≠ i2 → s.heap.get? c = some o → hC.get? c = some o := fun c o c1 c2 c3 e => eC.extBut _ _ c3 (eB.extBut _ _ c2 (eA.extBut _ _ c1 e))
  have p1C : P1 (k1 + 1) hC := S1.ext pB eC.extBut D.i12 D.l1i2
  refine wpAny_pure ⟨_, rfl, ?_⟩
  show Q (.ref hC.objs.size) _
  have tp : IsPair (hC.push { cls := .type "tuple", data := .seq #[x, y] }) hC.objs.size x y := Heap.get?_push_size _ rfl
  rw [size] at tp ⊢
  exact hQ _ (Heap.get?_push_of_some _ zC) (S1.keep p1C (fun o => Heap.get?_push_of_some _) fun o => Heap.get?_push_of_some _) (S2.keep pC (fun o => Heap.get?_push_of_some _) fun o => Heap.get?_push_of_some _) tp fun c o c1 c2 c3 e => Heap.get?_push_of_some _ (rC c o c1 c2 c3 e)
theorem firstEnd {Q : Fin → Shared → Prop} (hh : A.handled = none) (S1 : Src i1 l1 xs P1) (S2 : Src i2 l2 ys P2) (D : ZipApart z TI TO i1 i2 l1 l2) (hz : IsZip s.heap z TI TO .none) (hTI : IsPair s.heap TI (.ref i1) (.ref i2)) (hTO : IsPair s.heap TO a b)
    (p1 : P1 k1 s.heap) (p2 : P2 k2 s.heap) (hend : xs[k1]? = none ∨ ys[k2]? = none)
    (hE : ∀ h' e, Rest z TO i1 i2 s.heap h' → (∃ o, h'.get? e = some o ∧ o.cls = .type "StopIteration") → E (.ref e) { s with heap := h' }) :
    wpAny (model prog w) A (Builtin.«zip.__next__» ⟨[.ref z], []⟩) Q E s := by
  show wpAny _ _ (field (.ref z) 2 >>= _) _ _ _
  refine wpAny_bind (wpAny_field hz rfl (x := .bool false) rfl ?_)
  show wpAny _ _ (field (.ref z) 3 >>= _) _ _ _
  refine wpAny_bind (wpAny_field hz rfl (x := .ref TI) rfl (wpAny_bind (wpAny_seqItems hTI rfl ?_)))
  show wpAny _ _ (Builtin.SmallTypes.ownedTupleIsFree (.ref z) >>= _) _ _ _
  refine wpAny_bind ?_
  unfold Builtin.SmallTypes.ownedTupleIsFree
  refine wpAny_bind (wpAny_field hz rfl (x := .none) rfl (wpAny_pure ?_))
  simp only [if_true]
  refine wpAny_bind (wpAny_rule (wpAny_bind (wpAny_field hz rfl (x := .ref TO) rfl (wpAny_bind (wpAny_setField_rec hz (by simp) fun hA zA eA => ?_)))))
  replace zA : IsZip hA z TI TO .ellipsis := zA
  have apart : ∀ {h' : Heap} {e : Addr} {o : Obj}, IsZip h' z TI TO .ellipsis → h'.get? e = some o → o.cls = .type "StopIteration" → e ≠ z := fun zz ho hc x => by
    subst x
    rw [zz] at ho
    cases ho
    simp at hc
  refine wpAny_bind ?_
  simp only [List.zipIdx_cons, List.zipIdx_nil, List.forIn_cons, List.forIn_nil]
  refine wpAny_bind (wpAny_bind (wpAny_onRaise ?_))
  show wpAny _ _ (Builtin.SmallTypes.nextOf (.ref i1) >>= _) _ _ _
  cases hx : xs[k1]? with
  | none =>
    refine wpAny_bind (S1.stop hh (S1.ext p1 eA.extBut D.i1z D.l1z) hx fun hB e eB ⟨oe, ho, hc⟩ => ?_)
    have zB : IsZip hB z TI TO .ellipsis := eB _ _ D.i1z.symm zA
    exact wpAny_setField_rec zB (by simp) fun hC _ eC => hE hC e (fun c o c1 _ c3 _ q => eC.extBut _ _ c1 (eB _ _ c3 (eA.extBut _ _ c1 q))) ⟨oe, eC.extBut _ _ (apart zB ho hc) ho, hc⟩
  | some x =>
    have hy : ys[k2]? = none := hend.elim (fun q => by rw [hx] at q; cases q) id
    refine wpAny_bind (S1.item (S1.ext p1 eA.extBut D.i1z D.l1z) hx fun hB pB eB => wpAny_pure ?_)
    have tB : IsPair hB TO a b := eB.extBut _ _ D.TOi1 (eA.extBut _ _ D.TOz hTO)
    refine wpAny_bind (wpAny_seqItems tB rfl (wpAny_bind (wpAny_updateSeq_pair tB fun hC tC eC => wpAny_bind (wpAny_letGo (wpAny_pure (wpAny_bind (wpAny_bind (wpAny_onRaise ?_))))))))
    show wpAny _ _ (Builtin.SmallTypes.nextOf (.ref i2) >>= _) _ _ _
    refine wpAny_bind (S2.stop hh (S2.ext (S2.ext (S2.ext p2 eA.extBut D.i2z D.l2z) eB.extBut D.i12.symm D.l2i1) eC.extBut D.TOi2.symm D.l2TO) hy fun hD e eD ⟨oe, ho, hc⟩ => ?_)
    have zD : IsZip hD z TI TO .ellipsis := eD _ _ D.i2z.symm (eC.extBut _ _ D.TOz.symm (eB.extBut _ _ D.i1z.symm zA))
    exact wpAny_setField_rec zD (by simp) fun hF _ eF => hE hF e (fun c o c1 c2 c3 c4 q => eF.extBut _ _ c1 (eD _ _ c4 (eC.extBut _ _ c2 (eB.extBut _ _ c3 (eA.extBut _ _ c1 q))))) ⟨oe, eF.extBut _ _ (apart zD ho hc) ho, hc⟩
theorem heldEnd {Q : Fin → Shared → Prop} (hh : A.handled = none) (S1 : Src i1 l1 xs P1) (S2 : Src i2 l2 ys P2) (D : ZipApart z TI TO i1 i2 l1 l2) (hz : IsZipHeld s.heap z TI TO T f) (hT : s.heap.get? T = some oT) (hTI : IsPair s.heap TI (.ref i1) (.ref i2))
    (p1 : P1 k1 s.heap) (p2 : P2 k2 s.heap) (hend : xs[k1]? = none ∨ ys[k2]? = none)
    (hE : ∀ h' e, (∀ c o, c ≠ z → c ≠ i1 → c ≠ i2 → s.heap.get? c = some o → h'.get? c = some o) → (∃ o, h'.get? e = some o ∧ o.cls = .type "StopIteration") → E (.ref e) { s with heap := h' }) :
    wpAny (model prog w) A (Builtin.«zip.__next__» ⟨[.ref z], []⟩) Q E s := by
  show wpAny _ _ (field (.ref z) 2 >>= _) _ _ _
  refine wpAny_bind (wpAny_field hz rfl (x := .bool false) rfl ?_)
  show wpAny _ _ (field (.ref z) 3 >>= _) _ _ _
  refine wpAny_bind (wpAny_field hz rfl (x := .ref TI) rfl (wpAny_bind (wpAny_seqItems hTI rfl ?_)))
  show wpAny _ _ (Builtin.SmallTypes.ownedTupleIsFree (.ref z) >>= _) _ _ _
  refine wpAny_bind (wpAny_tupleHeld_zip hz hT fun hA zA eA => ?_)
  simp only [Bool.false_eq_true, if_false]
  refine wpAny_bind ?_
  rw [← Array.forIn_toList]
  simp only [List.forIn_cons, List.forIn_nil]
  refine wpAny_bind (wpAny_bind (wpAny_holding ?_))
  show wpAny _ _ (Builtin.SmallTypes.nextOf (.ref i1) >>= _) _ _ _
  cases hx : xs[k1]? with
  | none => exact wpAny_bind (S1.stop (s := { s with heap := hA }) hh (S1.ext p1 eA.extBut D.i1z D.l1z) hx fun hB e eB he => hE hB e (fun c o c1 c2 _ q => eB _ _ c2 (eA.extBut _ _ c1 q)) he)
  | some x =>
    have hy : ys[k2]? = none := hend.elim (fun q => by rw [hx] at q; cases q) id
    refine wpAny_bind (S1.item (s := { s with heap := hA }) (S1.ext p1 eA.extBut D.i1z D.l1z) hx fun hB pB eB => wpAny_pure (wpAny_pure (wpAny_bind (wpAny_bind (wpAny_holding ?_)))))
    show wpAny _ _ (Builtin.SmallTypes.nextOf (.ref i2) >>= _) _ _ _
    exact wpAny_bind (S2.stop (s := { s with heap := hB }) hh (S2.ext (S2.ext p2 eA.extBut D.i2z D.l2z) eB.extBut D.i12.symm D.l2i1) hy fun hC e eC he => hE hC e (fun c o c1 c2 c3 q => eC _ _ c3 (eB.extBut _ _ c2 (eA.extBut _ _ c1 q))) he)
theorem next_item {Q : Option Value → Shared → Prop} (hT : s.TypeIs (.ref z) "zip") (h : wpAny (model prog w) A.in1 (Builtin.«zip.__next__» ⟨[.ref z], []⟩) (fun fin s' => ∃ v, fin = .done (.ret v) ∧ Q (some v) s') (fun _ _ => False) s) : wpAny (model prog w) A (pyNext (.ref z)) Q E s := by
  unfold pyNext
  refine wpAny_bind (wpAny_attempt (wpAny_callSpecial?_slot (name := Str.ofString "__next__") hT F.slot_zip_next
    (wpAny_call_entry F.slot_zip_next hT F.entry_zip_next (wpAny_mono h (fun fin s' hq => ?_) fun e s' hq => ?_) (F.args_zip_next_1 _))))
  · obtain ⟨v, e, q⟩ := hq
    exact ⟨v, e, wpAny_pure q⟩
  · exact False.elim hq
theorem next_end {Q : Option Value → Shared → Prop} (hT : s.TypeIs (.ref z) "zip") (h : wpAny (model prog w) A.in1 (Builtin.«zip.__next__» ⟨[.ref z], []⟩) (fun _ _ => False) (fun e s' => (∃ b, e = .ref b ∧ ∃ o, s'.heap.get? b = some o ∧ o.cls = .type "StopIteration") ∧ Q none s') s) : wpAny (model prog w) A (pyNext (.ref z)) Q E s := by
  unfold pyNext
  refine wpAny_bind (wpAny_attempt (wpAny_callSpecial?_slot (name := Str.ofString "__next__") hT F.slot_zip_next
    (wpAny_call_entry F.slot_zip_next hT F.entry_zip_next (wpAny_mono h (fun fin s' hq => ?_) fun e s' hq => ?_) (F.args_zip_next_1 _))))
  · exact False.elim hq
  · obtain ⟨⟨b, eb, o, ho, hc⟩, q⟩ := hq
    subst eb
    exact wpAny_bind (wpAny_isInstance (T := "StopIteration") (b := true) ⟨o, ho, hc⟩ isSubtype_stop (wpAny_pure q))
end
section
variable {prog : Program} {w : World} {P1 P2 : Nat → Heap → Prop}
/-- such a zip, made just now, as the argument of dict() -/
theorem arg (z TI TO i1 i2 l1 l2 : Addr) (D : ZipApart z TI TO i1 i2 l1 l2) (xs ys : Array Value) (S1 : Src i1 l1 xs P1) (S2 : Src i2 l2 ys P2) :
    PairArg prog w "zip" z [z, TI, TO, i1, i2, l1, l2] [z, TO, i1, i2] (min xs.size ys.size) (fun i k v => xs[i]? = some k ∧ ys[i]? = some v)
      (fun h => IsZip h z TI TO .none ∧ IsPair h TI (.ref i1) (.ref i2) ∧ (∃ a b, IsPair h TO a b) ∧ P1 0 h ∧ P2 0 h) where
  type := fun s ok => ⟨_, ok.1, rfl⟩
  notDict := by decide
  keep := fun h h' ⟨hz, hTI, ⟨a, b, hTO⟩, p1, p2⟩ hk => ⟨hk _ _ hz, hk _ _ hTI, ⟨a, b, hk _ _ hTO⟩, S1.keep p1 (fun o => hk _ o) fun o => hk _ o, S2.keep p2 (fun o => hk _ o) fun o => hk _ o⟩
  there := fun h ⟨hz, hTI, ⟨a, c, hTO⟩, p1, p2⟩ b hb => by
    obtain ⟨h1, h2⟩ := S1.has p1
    obtain ⟨h3, h4⟩ := S2.has p2
    simp only [List.mem_cons, List.not_mem_nil, or_false] at hb
    rcases hb with rfl | rfl | rfl | rfl | rfl | rfl | rfl
    · exact ⟨_, hz⟩
    · exact ⟨_, hTI⟩
    · exact ⟨_, hTO⟩
    · exact h1
    · exact h3
    · exact h2
    · exact h4
  sub := fun b hb => by simp at hb ⊢; rcases hb with rfl | rfl | rfl | rfl <;> simp
  noKeys := fun A s Q E hA ok h => getAttrOr_miss_zip ok.1 rfl rfl rfl zip_no_keys (by decide +kernel) hA h
  iter := fun A s d Q E hA ⟨hz, hTI, ⟨a, b, hTO⟩, p1, p2⟩ hd hdf h => by
    simp only [List.mem_cons, List.not_mem_nil, or_false, not_or] at hdf
    obtain ⟨dz, dTI, dTO, di1, di2, dl1, dl2⟩ := hdf
    refine wpAny_pyIter_zip hz (h z [z, TO, i1, i2] (fun i h => IsPair h TI (.ref i1) (.ref i2) ∧ P1 i h ∧ P2 i h ∧
      ((IsZip h z TI TO .none ∧ ∃ a b, IsPair h TO a b) ∨ ∃ T f oT, IsZipHeld h z TI TO T f ∧ h.get? T = some oT ∧ T ≠ z ∧ T ≠ i1 ∧ T ≠ i2 ∧ T ≠ d)) s.heap s.toks ?_
      ⟨hTI, p1, p2, .inl ⟨hz, a, b, hTO⟩⟩ (fun _ _ e => e) fun b hb => .inl hb)
    have off4 : ∀ {c : Addr}, c ∉ [z, TO, i1, i2] → c ≠ z ∧ c ≠ TO ∧ c ≠ i1 ∧ c ≠ i2 := fun hc => by simpa using hc
    refine { off := by simp only [List.mem_cons, List.not_mem_nil, or_false, not_or]; exact ⟨dz, dTO, di1, di2⟩, frame := fun i h1 h2 ⟨a1, a2, a3, a4⟩ hk => ?_, item := fun i s1 Q1 E1 hi ⟨a1, a2, a3, a4⟩ hds hQ => ?_, done := fun s1 Q1 E1 ⟨a1, a2, a3, a4⟩ hQ => ?_ }
    · refine ⟨hk _ _ (Ne.symm dTI) a1, S1.keep a2 (fun o => hk _ o (Ne.symm di1)) fun o => hk _ o (Ne.symm dl1), S2.keep a3 (fun o => hk _ o (Ne.symm di2)) fun o => hk _ o (Ne.symm dl2), ?_⟩
      rcases a4 with ⟨b1, a, b, b2⟩ | ⟨T, f, oT, b1, b2, b3, b4, b5, b6⟩
      · exact .inl ⟨hk _ _ (Ne.symm dz) b1, a, b, hk _ _ (Ne.symm dTO) b2⟩
      · exact .inr ⟨T, f, oT, hk _ _ (Ne.symm dz) b1, hk _ _ b6 b2, b3, b4, b5, b6⟩
    · have ex := Array.getElem?_eq_getElem (show i < xs.size from Nat.lt_of_lt_of_le hi (Nat.min_le_left ..))
      have ey := Array.getElem?_eq_getElem (show i < ys.size from Nat.lt_of_lt_of_le hi (Nat.min_le_right ..))
      have lt : ∀ {c o}, s1.heap.get? c = some o → s1.heap.objs.size ≠ c := fun e => Nat.ne_of_gt (Heap.lt_size e)
      obtain ⟨⟨o1, g1⟩, _⟩ := S1.has a2
      obtain ⟨⟨o2, g2⟩, _⟩ := S2.has a3
      rcases a4 with ⟨b1, a, b, b2⟩ | ⟨T, f, oT, b1, b2, b3, b4, b5, b6⟩
      · refine next_item ⟨_, b1, rfl⟩ (first S1 S2 D b1 a1 b2 a2 a3 ex ey fun h' c1 c2 c3 c4 c5 => ?_)
        exact hQ s1.heap.objs.size _ _ h' s1.toks ⟨ex, ey⟩ (.inl ⟨_, c4, rfl, _, rfl⟩) ⟨c5 _ _ D.TIz D.TITO D.TIi1 D.TIi2 a1, c2, c3, .inr ⟨s1.heap.objs.size, false, _, c1, c4, lt b1, lt g1, lt g2, Nat.ne_of_gt hds⟩⟩
          fun c o hc e => let ⟨n1, n2, n3, n4⟩ := off4 hc; c5 c o n1 n2 n3 n4 e
      · refine next_item ⟨_, b1, rfl⟩ (held S1 S2 D b1 b2 a1 a2 a3 ex ey fun h' c1 c2 c3 c4 c5 => ?_)
        exact hQ s1.heap.objs.size _ _ h' s1.toks ⟨ex, ey⟩ (.inl ⟨_, c4, rfl, _, rfl⟩) ⟨c5 _ _ D.TIz D.TIi1 D.TIi2 a1, c2, c3, .inr ⟨T, true, oT, c1, c5 _ _ b3 b4 b5 b2, b3, b4, b5, b6⟩⟩
          fun c o hc e => let ⟨n1, n2, n3, n4⟩ := off4 hc; c5 c o n1 n3 n4 e
    · have hend : xs[min xs.size ys.size]? = none ∨ ys[min xs.size ys.size]? = none := by
        rcases Nat.le_total xs.size ys.size with h | h
        · exact .inl (Array.getElem?_eq_none (by rw [Nat.min_eq_left h]; exact Nat.le_refl _))
        · exact .inr (Array.getElem?_eq_none (by rw [Nat.min_eq_right h]; exact Nat.le_refl _))
      rcases a4 with ⟨b1, a, b, b2⟩ | ⟨T, f, oT, b1, b2, b3, b4, b5, b6⟩
      · exact next_end ⟨_, b1, rfl⟩ (firstEnd (show A.in1.handled = none from hA) S1 S2 D b1 a1 b2 a2 a3 hend fun h' e hk he => ⟨⟨e, rfl, he⟩, hQ h' s1.toks fun c o hc q => let ⟨n1, n2, n3, n4⟩ := off4 hc; hk c o n1 n2 n3 n4 q⟩)
      · exact next_end ⟨_, b1, rfl⟩ (heldEnd (show A.in1.handled = none from hA) S1 S2 D b1 b2 a1 a2 a3 hend fun h' e hk he => ⟨⟨e, rfl, he⟩, hQ h' s1.toks fun c o hc q => let ⟨n1, n2, n3, n4⟩ := off4 hc; hk c o n1 n3 n4 q⟩)
end
/-- zip(a list, a tuple) is made -/
abbrev lt1 (h : Heap) (a : Addr) : Heap := h.push { cls := .type "list_iterator", data := .fields #[.ref a, .int 0 0] }
abbrev lt2 (h : Heap) (a b : Addr) : Heap := (lt1 h a).push { cls := .type "tuple_iterator", data := .fields #[.ref b, .int 0 0] }
abbrev lt3 (h : Heap) (a b : Addr) : Heap := (lt2 h a b).push { cls := .type "tuple", data := .seq #[.ref h.objs.size, .ref (lt1 h a).objs.size] }
abbrev lt4 (h : Heap) (a b : Addr) : Heap := (lt3 h a b).push { cls := .type "tuple", data := .seq #[.none, .none] }
abbrev lt5 (h : Heap) (a b : Addr) : Heap := (lt4 h a b).push { cls := .type "zip", data := .fields #[.none, .bool false, .bool false, .ref (lt2 h a b).objs.size, .ref (lt3 h a b).objs.size] }
theorem lt_new (a b : Addr) (xs ys : Array Value) :
    Meets (Builtin.«zip.__new__» ⟨[.type "zip", .ref a, .ref b], []⟩) (fun _ R s => s.heap.IsList a xs ∧ s.heap.IsTuple b ys ∧ R (.ok (.ret (.ref (lt4 s.heap a b).objs.size))) { s with heap := lt5 s.heap a b }) :=
  .of_wp fun prog w A R s h => by
    obtain ⟨hp, g, d, tk, os⟩ := s; obtain ⟨ha, hb, h⟩ := h
    have hsub := sub_zip
    have e1 : Heap.IsList (Shared.heap ⟨hp, g, d, tk, os⟩) a xs := ha
    have e2 : Heap.IsTuple (Shared.heap ⟨hp.push { cls := .type "list_iterator", data := .fields #[.ref a, .int 0 0] }, g, d, tk, os⟩) b ys := Heap.IsTuple.push hb _
    wp_walk using wpAny_pyIter_list e1, wpAny_pyIter_tuple e2
    exact ⟨_, rfl, h⟩
theorem call_lt {prog : Program} {w : World} {A : Around} {E : Value → Shared → Prop} {s : Shared} {a b : Addr} {xs ys : Array Value} {Q : Value → Shared → Prop} (ha : s.heap.IsList a xs) (hb : s.heap.IsTuple b ys)
    (h : ∀ h', IsZip h' (s.heap.objs.size + 4) (s.heap.objs.size + 2) (s.heap.objs.size + 3) .none → IsPair h' (s.heap.objs.size + 2) (.ref s.heap.objs.size) (.ref (s.heap.objs.size + 1)) →
      IsPair h' (s.heap.objs.size + 3) .none .none → h'.IsListIter s.heap.objs.size a 0 → h'.IsTupleIter (s.heap.objs.size + 1) b 0 → (∀ c o, s.heap.get? c = some o → h'.get? c = some o) → Q (.ref (s.heap.objs.size + 4)) { s with heap := h' }) :
    wpAny (model prog w) A (call (.type "zip") [.ref a, .ref b]) Q E s := by
  refine callType_new F.called_zip (by decide) (F.typeCall_zip_2 _ _) (F.newCall_zip_2 _ _) (fun obj => F.args_object_init_3 obj _ _) F.entry_zip_new (lt_new a b xs ys) ⟨ha, hb, ?_⟩
  have z1 : (lt1 s.heap a).objs.size = s.heap.objs.size + 1 := Heap.size_push ..
  have z2 : (lt2 s.heap a b).objs.size = s.heap.objs.size + 2 := by rw [Heap.size_push, z1]
  have z3 : (lt3 s.heap a b).objs.size = s.heap.objs.size + 3 := by rw [Heap.size_push, z2]
  have z4 : (lt4 s.heap a b).objs.size = s.heap.objs.size + 4 := by rw [Heap.size_push, z3]
  have up : ∀ {c : Addr} {o : Obj} {h : Heap} (p : Obj), h.get? c = some o → (h.push p).get? c = some o := fun p e => Heap.get?_push_of_some _ e
  have g5 : (lt5 s.heap a b).get? (lt4 s.heap a b).objs.size = some _ := Heap.get?_push_size _ rfl
  have g4 : (lt5 s.heap a b).get? (lt3 s.heap a b).objs.size = some _ := up _ (Heap.get?_push_size _ rfl)
  have g3 : (lt5 s.heap a b).get? (lt2 s.heap a b).objs.size = some _ := up _ (up _ (Heap.get?_push_size _ rfl))
  have g2 : (lt5 s.heap a b).get? (lt1 s.heap a).objs.size = some _ := up _ (up _ (up _ (Heap.get?_push_size _ rfl)))
  have g1 : (lt5 s.heap a b).get? s.heap.objs.size = some _ := up _ (up _ (up _ (up _ (Heap.get?_push_size _ rfl))))
  show _ ∧ _
  rw [z2, z3, z4] at g5
  rw [z1, z2] at g3
  rw [z3] at g4
  rw [z1] at g2
  rw [z4]
  exact ⟨⟨_, g5, rfl⟩, h _ g5 g3 g4 ⟨_, g1, rfl, rfl⟩ ⟨_, g2, rfl, rfl⟩ fun c o x => up _ (up _ (up _ (up _ (up _ x))))⟩
end ZG
/-! L4y: dict(zip(names, row)). -/
namespace L3
open PySem PySem.Spec PyProof.Rows L2
theorem vals_get {vs : List V} {us : List Value} (r : Vals vs us) {i : Nat} {u : Value} (h : us[i]? = some u) : ∃ v, vs[i]? = some v ∧ RelV v u := by
  induction r generalizing i with
  | nil => simp at h
  | cons a t ih =>
    cases i with
    | zero => simp at h; subst h; exact ⟨_, rfl, a⟩
    | succ i => exact ih (by simpa using h)
theorem kv_zip {ws : List V} {us : List Value} (r : Vals ws us) : ∀ ks : List Key, KV (ks.zip ws) (ks.zip us) := by
  induction r with
  | nil => intro ks; rw [List.zip_nil_right, List.zip_nil_right]; exact .nil
  | cons a t ih =>
    intro ks
    cases ks with
    | nil => exact .nil
    | cons k ks => exact .cons ⟨rfl, a⟩ (ih ks)
section
variable {X : Cx} {ta : TA} {e e2 : Expr} {p p2 pos zpos : Pos}
theorem pe_dictZip (hc : X.calm = true) (hg : Gl X "dict") (hm : X.mg "dict" = none) (hgz : Gl X "zip") (hmz : X.mg "zip" = none) (ha : PA X [e, e2] ta)
    (hs : starEach [e, e2] X.env = (false, eval e X.env) :: starEach [e2] X.env := by rfl) (hpl : (backTo zpos (starEach [e2] X.env)).any (·.1) = false := by rfl)
    (hs2 : starEach [.Call (.Name "zip" p2) [e, e2] [] zpos] X.env = (false, eval (.Call (.Name "zip" p2) [e, e2] [] zpos) X.env) :: starEach [] X.env := by rfl) :
    PE X (.Call (.Name "dict" p) [.Call (.Name "zip" p2) [e, e2] [] zpos] [] pos) (fun σ H Q => ta σ H fun vs H1 => ∃ (a b : Addr) (ks : List Key) (ws : List V), vs = [.ref a, .ref b] ∧ SqL X.K H1 a (ks.map kV) ∧ SqT X.K H1 b ws ∧
      ∀ d, H1 d = none → Q (.ref d) (upd H1 d (.dK (mergeK [] (ks.zip ws))))) := by
  refine ⟨fun pins s σ H Q I h => ?_⟩
  refine Call_ (ld_blt I hg hm (by decide +kernel : bootBuiltins "dict" = some (.type "dict")) (PyProof.Rows.callWith_type1 ?_ hs2 (by rfl)))
  rw [hs2]
  refine Calls.spliced_cons (Call_ (ld_blt I hgz hmz PyProof.Rows.boot_zip (PyProof.Rows.callWith_type1 (thn (ha.run zpos pins s σ H _ I h) fun us s1 ⟨vs, H1, I1, r1, q1⟩ => ?_) hs hpl)))
  obtain ⟨a, b, ks, ws, rfl, ha', hb', q⟩ := q1
  cases r1 with
  | cons r rr =>
  cases rr with
  | cons r' rr =>
  cases rr
  cases r
  cases r'
  obtain ⟨its, rv, p1, z1⟩ := I1.list ha'
  obtain ⟨ius, rw', p2', z2⟩ := I1.tuple hb'
  obtain ⟨o1, ho1, _⟩ := id p1.isList
  obtain ⟨o2, ho2, _⟩ := id p2'
  have hl1 : its.length = ks.length := by rw [← rv.length, List.length_map]
  have hl2 : ius.length = ws.length := rw'.length.symm
  rw [List.length_map] at z1
  refine ZG.call_lt p1.isList (show s1.heap.IsTuple b ius.toArray from p2') fun h' hz hTI hTO h1 h2 hk => Calls.spliced_nil ?_
  have D := PySem.W.ktu_apart s1.heap.objs.size a b (Heap.lt_size ho1) (Heap.lt_size ho2)
  have big : s1.heap.objs.size < h'.objs.size := Nat.lt_of_le_of_lt (Nat.le_add_right _ 4) (Heap.lt_size hz)
  refine PySem.call_dict_pairs (knd := mixKind X.prog X.w) (kvs := ks.zip ius) (ZG.arg _ _ _ _ _ _ _ D its.toArray ius.toArray (ZG.srcL D.l1i1) (ZG.srcT D.l2i2)) (I.ok.hd hc)
    ⟨hz, hTI, ⟨_, _, hTO⟩, ⟨h1, p1.isList.at fun o => hk _ o⟩, ⟨h2, let ⟨o, ho, r⟩ := p2'; ⟨o, hk _ _ ho, r⟩⟩⟩ ⟨?_, fun i key v ⟨e1, e2⟩ => ?_⟩ ?_ fun h2 tk hd hk2 => ?_
  · simp [hl1]
  · have e1 : its[i]? = some key := by simpa using e1
    have e2 : ius[i]? = some v := by simpa using e2
    obtain ⟨k', e3, r3⟩ := vals_get rv e1
    rw [List.getElem?_map] at e3
    obtain ⟨k, e4, rfl⟩ := Option.map_eq_some_iff.mp e3
    exact ⟨k, by rw [List.getElem?_zip_eq_some]; exact ⟨e4, e2⟩, kV_is r3⟩
  · refine Nat.le_trans (Nat.min_le_left ..) ?_
    simp [hl1]
    exact z1
  · have fr : H1 h'.objs.size = none := I1.hok.fresh (Nat.le_of_lt big)
    have hm' : (h'.objs.size == sysModules) = false := beq_eq_false_iff_ne.mpr (Nat.ne_of_gt (Nat.lt_trans I1.big big))
    have kr := KV.merge (kv_zip rw' ks) (.nil)
    have hlen : (mergeK [] (ks.zip ws)).length ≤ sizeLine := by
      refine Nat.le_trans (length_mergeK (ks.zip ws) []) ?_
      rw [List.length_nil, Nat.zero_add, List.length_zip]
      exact Nat.le_trans (Nat.min_le_left ..) z1
    refine ⟨.ref h'.objs.size, upd H1 h'.objs.size (.dK (mergeK [] (ks.zip ws))), I1.laid (t' := tk) (fun c o ec => hk2 c o (fun z => ?_) (hk c o ec)) (Nat.le_of_lt big) (show ObjOk X.prog X.w _ _ _ (.dK (mergeK [] (ks.zip ws))) from ⟨hlen, hm', merged [] (ks.zip ius), kr, hd⟩), rfl, q _ fr⟩
    have lc := Heap.lt_size ec
    simp only [List.mem_cons, List.not_mem_nil, or_false] at z
    rcases z with z | z | z | z <;> rw [z] at lc <;> first | exact absurd lc (Nat.not_lt.mpr (Nat.le_add_right _ _)) | exact absurd lc (Nat.lt_irrefl _)
end
/-- dict(zip(names, row)): the names a list, the row a tuple -/
def dictZipC : C3 := fun ds G Q => match ds with
  | [.nod .lst xs, .nod .tup ys] => onS (keysL xs) fun ks => ∀ p, G p = none → Q (.ref p) (gset G p (.dK (merge [] (ks.zip ys))))
  | [.nod .lst xs, .nod .tuF ys] => onS (keysL xs) fun ks => ∀ p, G p = none → Q (.ref p) (gset G p (.dK (merge [] (ks.zip ys))))
  | _ => False
@[simp] def TDictZip (t : TA3) : TE3 := fun δ G Q E => t δ G (fun ds G1 => dictZipC ds G1 Q) E
section
variable {K : PySem.W.Frag} {Γ : Gm} {H : Hp} {G : Gp}
theorem datF_zip : ∀ {ks : List Key} {ys : List D} {ws : List V}, DatL K Γ H G ys ws → DatF K Γ H G (ks.zip ys) (ks.zip ws)
  | [], _, _, _ => .nil
  | _ :: _, [], _, h => by obtain rfl : _ = _ := h; exact .nil
  | k :: ks, y :: ys, _, h => by
    obtain ⟨v, r, rfl, h1, h2⟩ := h
    exact .cons ⟨rfl, h1⟩ (datF_zip h2)
end
section
variable {X : Cx} {Γ : Gm} {W : WX} {e e2 : Expr} {p p2 pos zpos : Pos} {t : TA3}
theorem pe3_dictZip (hc : X.calm = true) (hg : Gl X "dict") (hm : X.mg "dict" = none) (hgz : Gl X "zip") (hmz : X.mg "zip" = none) (ha : PA3 X Γ W [e, e2] t)
    (hs : starEach [e, e2] X.env = (false, eval e X.env) :: starEach [e2] X.env := by rfl) (hpl : (backTo zpos (starEach [e2] X.env)).any (·.1) = false := by rfl)
    (hs2 : starEach [.Call (.Name "zip" p2) [e, e2] [] zpos] X.env = (false, eval (.Call (.Name "zip" p2) [e, e2] [] zpos) X.env) :: starEach [] X.env := by rfl) :
    PE3 X Γ W (.Call (.Name "dict" p) [.Call (.Name "zip" p2) [e, e2] [] zpos] [] pos) (TDictZip t) := by
  refine pe_imp (pe_dictZip hc hg hm hgz hmz ha hs hpl hs2) fun σ H Q hw => ?_
  obtain ⟨δ, G, Q3, E3, R, h1, k, ke⟩ := hw
  refine ⟨δ, G, _, E3, R, h1, fun ds vs G1 H1 s1 hp1 dl q => ?_, ke⟩
  have fin : ∀ {ks : List Key} {ys : List D} {ws : List V}, DatL X.K Γ H1 G1 ys ws → (∀ p, vis G1 p = none → Q3 (.ref p) (gset (vis G1) p (.dK (merge [] (ks.zip ys))))) → ∀ d, H1 d = none → Q (.ref d) (upd H1 d (.dK (mergeK [] (ks.zip ws)))) := fun {ks ys ws} l q d hd => by
    have st : Step X.K H1 G1 (upd H1 d (.dK (mergeK [] (ks.zip ws)))) (gset G1 d (.dK (merge [] (ks.zip ys)))) := Step.newG hd (own_none hp1 hd)
    refine k (.ref d) _ _ _ (s1.trans st) (hp1.newG (g := .dK (merge [] (ks.zip ys))) hd ⟨_, upd_same, DatF.mono st (datF_merge (datF_zip l) .nil)⟩) rfl ?_
    rw [vis_gset (by intro z; cases z)]
    exact q d (vis_none (own_none hp1 hd))
  unfold dictZipC at q
  split at q
  · obtain ⟨ks, ek, qq⟩ := onS_iff.mp q
    obtain ⟨v1, v2, rfl, d1, d2⟩ := datL_two dl
    obtain ⟨a, us, rfl, ha', l1⟩ := d1
    obtain ⟨b, ws, rfl, hb', l2⟩ := d2
    have := keysL_is ek
    subst this
    rw [datL_keys l1] at ha'
    exact ⟨a, b, ks, ws, rfl, SqL.of ha'.2, SqT.of hb', fin l2 qq⟩
  · obtain ⟨ks, ek, qq⟩ := onS_iff.mp q
    obtain ⟨v1, v2, rfl, d1, d2⟩ := datL_two dl
    obtain ⟨a, us, rfl, ha', l1⟩ := d1
    obtain ⟨b, ws, rfl, ⟨_, o, hb', hd⟩, l2⟩ := d2
    have := keysL_is ek
    subst this
    rw [datL_keys l1] at ha'
    exact ⟨a, b, ks, ws, rfl, SqL.of ha'.2, .inl (.inr ⟨o, hb'⟩), fin l2 qq⟩
  · exact q.elim
end
end L3
/-! L4i: walks over owned lists (locked); dict(()); enumerate of a tuple. -/
namespace L3
open PySem PySem.Spec PyProof.Rows L2
section
variable {K : PySem.W.Frag} {Γ : Gm}
theorem walk_lkL {a : Addr} {ds : List D} : Walk3 K Γ (Itl K a) (fun H G => G a = some (.lkL ds) ∧ ∃ o vs, H a = some (.frz o (.lst vs))) ds := by
  have at_ : ∀ {H : Hp} {G : Gp}, HpR K Γ H G → G a = some (.lkL ds) → ∃ vs, SqL K H a vs ∧ DatL K Γ H G ds vs := fun R hg => by
    obtain ⟨o, vs, e, l⟩ := R.own a _ hg
    exact ⟨vs, .inl (.inr ⟨o, e⟩), l⟩
  refine ⟨fun H G H' G' s ⟨h1, o, vs, h2⟩ => ?_, fun i H G hi h R => ?_, fun i H G x H' hi h R y => ?_, fun H G h R => ?_⟩
  · obtain ⟨q, r⟩ := s.lck a _ h1 rfl
    exact ⟨q, o, vs, r _ h2⟩
  · obtain ⟨vs, sq, l⟩ := at_ R h.1
    obtain ⟨d, hd⟩ := get_some hi
    obtain ⟨v, hv, _⟩ := l.get hd
    exact ⟨vs, v, sq, hv⟩
  · obtain ⟨vs, sq, l⟩ := at_ R h.1
    obtain ⟨rfl, y⟩ := y
    obtain ⟨d, hd, dd⟩ := l.get' (y vs sq)
    exact ⟨Step.refl, R, d, hd, dd⟩
  · obtain ⟨vs, sq, l⟩ := at_ R h.1
    exact ⟨vs, sq, by rw [l.length]; exact Nat.le_refl _⟩
end
/-- an owned list, locked -/
def ILk (t : TE3) : TI3 := fun δ G Q E => t δ G (fun d G1 => match d with
  | .ref a => (match G1 a with
    | some (.lkL ds) => Q ds G1
    | _ => False)
  | _ => False) E
section
variable {X : Cx} {Γ : Gm} {W : WX} {tg e : Expr} {ta : TE3}
theorem pi3_lk (h : PE3 X Γ W e ta) : PI3 X Γ W tg e (ILk ta) := pi_imp (pi_list h) fun σ H R' hw => by
  obtain ⟨δ, G, Q3, E3, R, h1, k, ke⟩ := hw
  refine ⟨δ, G, _, E3, R, h1, fun d v G1 H1 s1 hp1 dv q => ?_, ke⟩
  split at q
  · split at q
    · rename_i a _ ds hg
      obtain rfl : v = _ := dv
      have hg' := vis_some hg
      obtain ⟨o, vs, e, l⟩ := hp1.own a _ hg'
      exact ⟨a, rfl, ⟨vs, .inl (.inr ⟨o, e⟩)⟩, k _ _ _ G1 H1 s1 hp1 walk_lkL ⟨hg', o, vs, e⟩ q⟩
    · exact q.elim
  · exact q.elim
end
/-! ### dict(()) -/
section
variable {X : Cx}
abbrev rDict0 (K : PySem.W.Frag) : List V → Hp → VK → Prop := fun xs H Q => ∃ (a : Addr) (o : Obj) (n : Nat), xs = [.ref a] ∧ K.lookup a = some o ∧ o.cls = .type "tuple" ∧ o.dict = none ∧ o.data = .seq #[] n ∧ ∀ p, H p = none → Q (.ref p) (upd H p (.dK []))
theorem call_dict0 (hc : X.calm = true) : CallR X (.type "dict") (rDict0 X.K) := by
  intro pins s σ H xs us Q I r ⟨a, o, n, ex, lk, hcl, hd, hdat, q⟩
  subst ex
  obtain ⟨u, rfl, rx⟩ := vals1 r
  cases rx
  have ho := I.kIn _ _ lk
  refine PySem.call_dict_pairs (knd := mixKind X.prog X.w) (kvs := []) (PairArg.tuple a #[] (fun _ => 0) []) (I.ok.hd hc) ⟨⟨o, n, ho, hcl, hd, hdat⟩, rfl, fun j k v e => by simp at e⟩ ⟨rfl, fun i k v e => ?_⟩ (Nat.zero_le _) fun h' tk dd k => ?_
  · have e : ([] : List (Value × Value))[i]? = some (k, v) := e
    simp at e
  · have hm : (s.heap.objs.size == sysModules) = false := beq_eq_false_iff_ne.mpr (Nat.ne_of_gt I.big)
    exact ⟨.ref s.heap.objs.size, upd H s.heap.objs.size (.dK []), I.laid (t' := tk) (fun b u e => k b u (by simp) e) (Nat.le_refl _) (show ObjOk X.prog X.w _ _ _ (.dK []) from ⟨Nat.zero_le _, hm, [], .nil, dd⟩), rfl, q _ (I.hok.fresh (Nat.le_refl _))⟩
abbrev rDictDE (K : PySem.W.Frag) : List V → Hp → VK → Prop := fun xs H Q => rDictD K xs H Q ∨ rDict0 K xs H Q
theorem call_dictC (hc : X.calm = true) : CallR X (.type "dict") (rDictDE X.K) := call_dictD.or (call_dict0 hc)
end
/-- dict(d), dict(()) -/
def dictC2 : C3 := fun ds G Q => match ds with
  | [.nod .tuK []] => ∀ p, G p = none → Q (.ref p) (gset G p (.dK []))
  | ds => dictCR ds G Q
section
variable {X : Cx} {Γ : Gm}
theorem sound_dictC2 : SoundN X.K Γ (rDictDE X.K) dictC2 := by
  intro xs vs H G Q3 Q R hl h k
  unfold dictC2 at h
  split at h
  · obtain ⟨v, rfl, a, us, rfl, ⟨h1, h2⟩, l⟩ := datL_one hl
    obtain rfl : us = [] := l
    rcases h1 with (z | ⟨_, z⟩) | ⟨o, its, n, e1, e2, e3, _, e4⟩
    · cases z
    · cases z
    · have e5 : its = #[] := by
        cases its with
        | mk l =>
          cases e4
          rfl
      subst e5
      refine .inr ⟨a, o, n, rfl, e1, e2, h2 o e1, e3, fun p hp => ?_⟩
      have st : Step X.K H G (upd H p (.dK [])) (gset G p (.dK [])) := Step.newG hp (own_none R hp)
      refine k (.ref p) _ _ _ st (R.newG (g := .dK []) hp ⟨_, upd_same, .nil⟩) rfl ?_
      rw [vis_gset (by intro z; cases z)]
      exact h p (vis_none (own_none R hp))
  · exact .inl (sound_dictC xs vs H G Q3 Q R hl h k)
end
end L3
/-! L4j: enumerate of a tuple. -/
namespace ZG
open PySem
open AutoSeq1 (wpAny_loadPart')
section
variable {prog : Program} {w : World} {A : Around} {E : Value → Shared → Prop} {s : Shared} {e it l : Addr} {i : Nat} {xs : Array Value} {x old : Value} {P : Nat → Heap → Prop}
theorem enum_item {Q : Option Value → Shared → Prop} (S : Src it l xs P) (he : IsEnum s.heap e it i old) (p : P i s.heap) (hx : xs[i]? = some x) (hne : e ≠ it) (hnl : l ≠ e)
    (hQ : ∀ h', IsEnumOut h' e it ((i : Int) + 1) x s.heap.objs.size → P (i + 1) h' → h'.get? s.heap.objs.size = some { cls := .type "tuple", data := .seq #[.int i s.toks, x] } →
      (∀ b o, b ≠ e → b ≠ it → s.heap.get? b = some o → h'.get? b = some o) → Q (some (.ref s.heap.objs.size)) { s with heap := h', toks := s.toks + 1 }) :
    wpAny (model prog w) A (pyNext (.ref e)) Q E s := by
  have hT : s.TypeIs (.ref e) "enumerate" := ⟨_, he, rfl⟩
  unfold pyNext
  refine wpAny_bind (wpAny_attempt (wpAny_callSpecial?_slot (name := Str.ofString "__next__") hT F.slot_enumerate_next (wpAny_call_entry F.slot_enumerate_next hT F.entry_enumerate_next ?_ (F.args_enumerate_next_1 _))))
  obtain ⟨hp, g, d, tk, os⟩ := s
  show wpAny _ _ (field (.ref e) 2 >>= _) _ _ _
  refine wpAny_bind (wpAny_field he rfl (x := .ref it) rfl (wpAny_bind (S.item p hx fun hA pA sA => ?_)))
  replace sA : Heap.SameBut it hp hA := sA
  have eA : IsEnum hA e it i old := (sA.2 e hne).trans he
  show wpAny _ _ (field (.ref e) 3 >>= _) _ _ ⟨hA, g, d, tk, os⟩
  refine wpAny_bind (wpAny_field eA rfl (x := rawInt i) rfl ?_)
  show wpAny _ _ (field (.ref e) 4 >>= _) _ _ ⟨hA, g, d, tk, os⟩
  refine wpAny_bind (wpAny_field eA rfl (x := .none) rfl ?_)
  show wpAny _ _ (mkInt i >>= _) _ _ ⟨hA, g, d, tk, os⟩
  refine wpAny_bind (wpAny_mkInt ?_)
  show wpAny _ _ (setField (.ref e) 3 (rawInt ((i : Int) + 1)) >>= _) _ _ ⟨hA, g, d, tk + 1, os⟩
  refine wpAny_bind (wpAny_setField_rec eA (by simp) fun hB eB sB => ?_)
  replace sB : Heap.SameBut e hA hB := sB
  replace eB : IsEnum hB e it ((i : Int) + 1) old := eB
  show wpAny _ _ (setField (.ref e) 4 .none >>= _) _ _ ⟨hB, g, d, tk + 1, os⟩
  refine wpAny_bind (wpAny_setField_rec eB (by simp) fun hC eC sC => ?_)
  replace sC : Heap.SameBut e hB hC := sC
  replace eC : IsEnum hC e it ((i : Int) + 1) old := eC
  show wpAny _ _ (newTuple [.int i tk, x] >>= _) _ _ ⟨hC, g, d, tk + 1, os⟩
  refine wpAny_bind (wpAny_newTuple ?_)
  have eD : IsEnum (hC.push { cls := .type "tuple", data := .seq #[.int i tk, x] }) e it ((i : Int) + 1) old := Heap.get?_push_of_some _ eC
  generalize hh : hC.push { cls := .type "tuple", data := .seq #[.int i tk, x] } = hD at eD
  have hsz : hC.objs.size = hp.objs.size := by rw [sC.1, sB.1, sA.1]
  have lt : e < hp.objs.size := Heap.lt_size he
  have tD : hD.get? hp.objs.size = some { cls := .type "tuple", data := .seq #[.int i tk, x] } := by rw [← hh, ← hsz]; exact Heap.get?_push_size _ rfl
  have kD : ∀ b o, b ≠ e → b ≠ it → hp.get? b = some o → hD.get? b = some o := fun b o b1 b2 hb => by
    rw [← hh]; exact Heap.get?_push_of_some _ (sC.extBut b o b1 (sB.extBut b o b1 (sA.extBut b o b2 hb)))
  have pD : P (i + 1) hD := by
    rw [← hh]
    exact S.keep (S.ext (S.ext pA sB.extBut hne.symm hnl) sC.extBut hne.symm hnl) (fun o => Heap.get?_push_of_some _) fun o => Heap.get?_push_of_some _
  show wpAny _ _ (Builtin.SmallTypes.ownedTupleIsFree (.ref e) >>= _) _ _ ⟨hD, g, d, tk + 1, os⟩
  rw [hsz]
  clear hh eC sC eB sB eA sA pA hsz hC hB hA
  refine wpAny_bind ?_
  unfold Builtin.SmallTypes.ownedTupleIsFree
  refine wpAny_bind (wpAny_field eD rfl (x := .none) rfl (wpAny_pure ?_))
  simp only [if_true]
  refine wpAny_bind (wpAny_rule (wpAny_bind (wpAny_field eD rfl (x := old) rfl (wpAny_bind (wpAny_setField_rec eD (by simp) fun hF eF sF => ?_)))))
  replace sF : Heap.SameBut e hD hF := sF
  replace eF : IsEnum hF e it ((i : Int) + 1) x := eF
  show wpAny _ _ (Builtin.SmallTypes.ownedTupleHandOut (.ref e) (.ref hp.objs.size) >>= _) _ _ ⟨hF, g, d, tk + 1, os⟩
  refine wpAny_bind ?_
  unfold Builtin.SmallTypes.ownedTupleHandOut
  refine wpAny_bind (wpAny_setField_rec eF (by simp) fun hG eG sG => ?_)
  replace sG : Heap.SameBut e hF hG := sG
  replace eG : IsEnumOut hG e it ((i : Int) + 1) x hp.objs.size := eG
  refine wpAny_setField_rec eG (by simp) fun hH eH sH => ?_
  replace sH : Heap.SameBut e hG hH := sH
  replace eH : IsEnumOut hH e it ((i : Int) + 1) x hp.objs.size := eH
  have up : ∀ {b : Addr} {o : Obj}, b ≠ e → hD.get? b = some o → hH.get? b = some o := fun b1 q => sH.extBut _ _ b1 (sG.extBut _ _ b1 (sF.extBut _ _ b1 q))
  refine wpAny_bind (wpAny_letGo (wpAny_pure ⟨_, rfl, wpAny_pure (hQ hH eH (S.keep pD (fun o => up hne.symm) fun o => up hnl) (up (Nat.ne_of_gt lt) tD) fun b o b1 b2 hb => up b1 (kD b o b1 b2 hb))⟩))
theorem enum_end {Q : Option Value → Shared → Prop} (hh : A.handled = none) (S : Src it l xs P) (he : IsEnum s.heap e it i old) (p : P i s.heap) (hx : xs[i]? = none) (hQ : ∀ h', Heap.ExtBut it s.heap h' → Q none { s with heap := h' }) : wpAny (model prog w) A (pyNext (.ref e)) Q E s := by
  have hT : s.TypeIs (.ref e) "enumerate" := ⟨_, he, rfl⟩
  unfold pyNext
  refine wpAny_bind (wpAny_attempt (wpAny_callSpecial?_slot (name := Str.ofString "__next__") hT F.slot_enumerate_next (wpAny_call_entry F.slot_enumerate_next hT F.entry_enumerate_next ?_ (F.args_enumerate_next_1 _))))
  show wpAny _ _ (field (.ref e) 2 >>= _) _ _ _
  refine wpAny_bind (wpAny_field he rfl (x := .ref it) rfl (wpAny_bind (S.stop hh p hx fun h' b eb ⟨o, ho, hc⟩ => ?_)))
  exact wpAny_bind (wpAny_isInstance (T := "StopIteration") (b := true) ⟨o, ho, hc⟩ isSubtype_stop (wpAny_pure (hQ _ eb)))
end
theorem enumT_new (l : Addr) (xs : Array Value) :
    Meets (Builtin.«enumerate.__new__» ⟨[.type "enumerate", .ref l], []⟩) (fun _ R s => s.heap.IsTuple l xs ∧
      R (.ok (.ret (.ref (s.heap.push { cls := .type "tuple_iterator", data := .fields #[.ref l, .int 0 0] }).objs.size)))
        { s with heap := (s.heap.push { cls := .type "tuple_iterator", data := .fields #[.ref l, .int 0 0] }).push { cls := .type "enumerate", data := .fields #[.none, .bool false, .ref s.heap.objs.size, rawInt 0, .none, .none] } }) :=
  .of_wp fun prog w A R s h => by
    obtain ⟨hp, g, d, tk, os⟩ := s; obtain ⟨hl, h⟩ := h
    have hsub := sub_enumerate
    have hL : Heap.IsTuple (Shared.heap ⟨hp, g, d, tk, os⟩) l xs := hl
    obtain ⟨⟨c, dct, dt, sl⟩, ho, hc, n, hd⟩ := id hl
    replace hc : c = .type "tuple" := hc
    replace hd : dt = .seq xs n := hd
    subst hc hd
    wp_walk using wpAny_loadPart' ho
    refine wpAny_stack_any fun st => wpAny_pure ?_
    split
    · rename_i c _ _ _ _ _
      cases (c == Value.type "enumerate")
      · wp_walk using wpAny_loadPart' ho, wpAny_pyIter_tuple hL
        exact ⟨_, rfl, h⟩
      · wp_walk using wpAny_loadPart' ho, wpAny_pyIter_tuple hL
        exact ⟨_, rfl, h⟩
    · wp_walk using wpAny_loadPart' ho, wpAny_pyIter_tuple hL
      exact ⟨_, rfl, h⟩
theorem call_enumT {prog : Program} {w : World} {A : Around} {E : Value → Shared → Prop} {s : Shared} {l : Addr} {xs : Array Value} {Q : Value → Shared → Prop} (hL : s.heap.IsTuple l xs)
    (h : ∀ h', IsEnum h' (s.heap.objs.size + 1) s.heap.objs.size 0 .none → h'.IsTupleIter s.heap.objs.size l 0 → (∀ b o, s.heap.get? b = some o → h'.get? b = some o) → Q (.ref (s.heap.objs.size + 1)) { s with heap := h' }) :
    wpAny (model prog w) A (call (.type "enumerate") [.ref l]) Q E s := by
  refine callType_new F.called_enumerate (by decide) (F.typeCall_enumerate_1 _) (F.newCall_enumerate_1 _) (fun obj => F.args_object_init_2 obj _) F.entry_enumerate_new (enumT_new l xs) ⟨hL, ?_⟩
  have hz : (s.heap.push { cls := .type "tuple_iterator", data := .fields #[.ref l, .int 0 0] }).objs.size = s.heap.objs.size + 1 := Heap.size_push ..
  show _ ∧ _
  rw [hz]
  have he := Heap.get?_push_size (s.heap.push { cls := .type "tuple_iterator", data := .fields #[.ref l, .int 0 0] }) (o := { cls := .type "enumerate", data := .fields #[.none, .bool false, .ref s.heap.objs.size, rawInt 0, .none, .none] }) rfl
  rw [hz] at he
  exact ⟨⟨_, he, rfl⟩, h _ he ⟨_, Heap.get?_push_of_some _ (Heap.get?_push_size _ rfl), rfl, rfl⟩ fun b o x => Heap.get?_push_of_some _ (Heap.get?_push_of_some _ x)⟩
end ZG
/-! L4k: for .. in enumerate(tuple). -/
namespace L3
open PySem PySem.Spec PyProof.Rows L2
/-- the tuple at a, each item in a new pair -/
def IteT (K : PySem.W.Frag) (a : Addr) : It :=
  ⟨fun i H => ∃ (xs : List V) (x : V), SqT K H a xs ∧ xs[i]? = some x, fun i H v H' => ∃ T x, v = .ref T ∧ H T = none ∧ H' = upd H T (.tup [.int (i : Nat), x]) ∧ ∀ xs, SqT K H a xs → xs[i]? = some x, fun i H => ∃ xs : List V, SqT K H a xs ∧ xs.length ≤ i⟩
theorem tup_ne {h : Heap} {a b : Addr} {its : Array Value} {o : Obj} (t : h.IsTuple a its) (e : h.get? b = some o) (n : o.cls ≠ .type "tuple") : a ≠ b := fun z => by
  subst z
  obtain ⟨o', e', c, _⟩ := t
  rw [e] at e'
  cases e'
  exact n c
theorem turn_enumT {P : Program} {w : World} {K : PySem.W.Frag} {elts : List Expr} {kk : Nat} {tpos : Pos} (a e it : Addr) :
    Turn P w K (.Tuple elts kk tpos) (IteT K a) [e, it] e (fun i h => (∃ old, IsEnum h e it ((i : Nat) : Int) old) ∧ h.IsTupleIter it a i ∧ e ≠ it) where
  mem := by simp
  obj := fun i h ⟨⟨old, he⟩, ⟨o, ho, hc, hd⟩, _⟩ b hb => by
    have e' : b = e ∨ b = it := by simpa using hb
    rcases e' with rfl | rfl
    · exact ⟨_, he, fun v q => nomatch q⟩
    · exact ⟨o, ho, fun v q => by rw [hd] at q; cases q⟩
  keep := fun i h h' ⟨⟨old, he⟩, hi, hne⟩ k => ⟨⟨old, k e (by simp) _ he⟩, hi.at fun o q => k it (by simp) o q, hne⟩
  item := by
    intro X hP hw hK hc i pins s σ H E I hf ⟨⟨old, he⟩, hit, hne⟩ ⟨xs, x, hq, hx⟩
    subst hP hw hK
    obtain ⟨its, rv, p, hz⟩ := I.tuple hq
    obtain ⟨u, hu, ru⟩ := rv.get hx
    have hT : s.heap.IsTuple a its.toArray := p
    have hae : a ≠ e := tup_ne hT he (by simp)
    have hai : a ≠ it := by
      obtain ⟨o, ho, hc', _⟩ := id hit
      exact tup_ne hT ho (by rw [hc']; simp)
    have hel : e < s.heap.objs.size := Heap.lt_size he
    have hil : it < s.heap.objs.size := by obtain ⟨_, q, _⟩ := hit; exact Heap.lt_size q
    refine ZG.enum_item (ZG.srcT hai) he ⟨hit, hT⟩ (x := u) (by simpa using hu) hne hae fun h' ho ⟨hit', _⟩ hT' hk => ?_
    refine ⟨_, rfl, wpAny_letOwnedTupleGo_enum (s := { s with heap := h', toks := s.toks + 1 }) ho fun h2 he2 sb => ?_⟩
    have tT : h2.get? s.heap.objs.size = some { cls := .type "tuple", data := .seq #[.int i s.toks, u] } := (sb.2 _ (Nat.ne_of_gt hel)).trans hT'
    have new : ObjOk X.prog X.w (upd H s.heap.objs.size (.tup [.int (i : Nat), x])) h2 s.heap.objs.size (.tup [.int (i : Nat), x]) := ⟨by show 2 ≤ sizeLine; decide, [.int i s.toks, u], .cons ⟨_, rfl⟩ (.cons ru .nil), ⟨_, tT, rfl, _, rfl⟩⟩
    have I1 : Inv X pins σ (upd H s.heap.objs.size (.tup [.int (i : Nat), x])) { s with heap := h2, toks := s.toks + 1 } :=
      I.turnedNew (ch := [e, it]) (fun b ob hb q => (sb.2 b (fun z => hb (by simp [z]))).trans (hk b ob (fun z => hb (by simp [z])) (fun z => hb (by simp [z])) q)) hf (Nat.le_refl _) new
    refine ⟨.ref s.heap.objs.size, _, I1, rfl, ⟨_, x, rfl, I.hok.fresh (Nat.le_refl _), rfl, fun ys hy => by rw [I.tuple_inj hy hq]; exact hx⟩, ⟨⟨u, ?_⟩, hit'.at fun o q => (sb.2 it (Ne.symm hne)).trans q, hne⟩, fun b hb => ?_⟩
    · have e1 : ((i + 1 : Nat) : Int) = (i : Int) + 1 := by omega
      rw [e1]; exact he2
    · have hb' : b < s.heap.objs.size := by
        have e' : b = e ∨ b = it := by simpa using hb
        rcases e' with rfl | rfl
        · exact hel
        · exact hil
      rw [upd_ne (Nat.ne_of_lt hb')]
      exact (hf b hb).1
  done := by
    intro X hP hw hK hc i pins s σ H E I hf ⟨⟨old, he⟩, hit, hne⟩ ⟨xs, hq, hx⟩
    subst hP hw hK
    obtain ⟨its, rv, p, hz⟩ := I.tuple hq
    obtain ⟨f0, f1, f2, f3, f4, f5⟩ := hf it (by simp)
    have hl := rv.length
    have hT : s.heap.IsTuple a its.toArray := p
    have hai : a ≠ it := by
      obtain ⟨o, ho, hc', _⟩ := id hit
      exact tup_ne hT ho (by rw [hc']; simp)
    exact ZG.enum_end (I.ok.hd hc) (ZG.srcT hai) he ⟨hit, hT⟩ (by simp; omega) fun h' eb => ⟨rfl, I.turned (t' := s.toks) (fun b o hb q => eb b o hb q) f0 f1 f3 f4 f5⟩
  self := fun A i s Q E ⟨⟨_, he⟩, _⟩ h => wpAny_pyIter_enum he h
def iEnumT (K : PySem.W.Frag) (ta : TA) : TI := fun σ H R => ta σ H fun vs H1 => ∃ a xs, vs = [.ref a] ∧ SqT K H1 a xs ∧ R (IteT K a) H1
theorem pi_enumT {X : Cx} {e : Expr} {ta : TA} {p pos tpos : Pos} {elts : List Expr} {kk : Nat} (hg : Gl X "enumerate") (hm : X.mg "enumerate" = none) (ha : PA X [e] ta) (hs : starEach [e] X.env = [(false, eval e X.env)] := by rfl) :
    PI X (.Tuple elts kk tpos) (.Call (.Name "enumerate" p) [e] [] pos) (iEnumT X.K ta) := by
  refine ⟨fun pins s σ H R I h => ?_⟩
  refine Call_ (ld_blt I hg hm boot_enumerate (PyProof.Rows.callWith_type1 (thn (ha.run pos pins s σ H _ I h) fun us s1 ⟨vs, H1, I1, r1, a, xs, ex, hq, q⟩ => ?_) hs rfl))
  subst ex
  cases r1 with
  | cons r rr =>
    cases rr
    cases r
    obtain ⟨its, rv, p', hz⟩ := I1.tuple hq
    refine ZG.call_enumT (show s1.heap.IsTuple a its.toArray from p') fun h' he hit hk => wpAny_pyIter_enum he ?_
    have I2 : Inv X pins σ H1 { s1 with heap := h' } := I1.kept (t' := s1.toks) hk
    refine ⟨s1.heap.objs.size + 1, [s1.heap.objs.size + 1, s1.heap.objs.size], _, _, H1, rfl, I2, turn_enumT a (s1.heap.objs.size + 1) s1.heap.objs.size, ⟨⟨.none, he⟩, hit, Nat.succ_ne_self _⟩, fun b hb => ?_, q⟩
    have e' : b = s1.heap.objs.size + 1 ∨ b = s1.heap.objs.size := by simpa using hb
    have hle : s1.heap.objs.size ≤ b := by
      rcases e' with z | z
      · rw [z]; exact Nat.le_add_right _ _
      · rw [z]; exact Nat.le_refl _
    exact I1.fpOk hle (I1.hok.fresh hle)
section
variable {K : PySem.W.Frag} {Γ : Gm}
theorem walk_enumT {a : Addr} {ds : List D} : Walk3 K Γ (IteT K a) (fun H G => Dat K Γ H G (.tup ds) (.ref a)) (enumD ds) where
  keep := fun H G H' G' s h => h.mono0 s
  go := fun i H G hi h R => by
    obtain ⟨a', vs, e, h1, l⟩ := h
    cases e
    have hi : i < ds.length := by simpa [enumD] using hi
    obtain ⟨d, hd⟩ := get_some hi
    obtain ⟨v, hv, _⟩ := l.get hd
    exact ⟨vs, v, SqT.of h1, hv⟩
  yld := fun i H G x H' hi h R y => by
    obtain ⟨a', vs, e, h1, l⟩ := h
    cases e
    obtain ⟨T, u, rfl, hT, rfl, y⟩ := y
    obtain ⟨d, hd, dd⟩ := l.get' (y vs (SqT.of h1))
    have st : Step K H G (upd H T (.tup [.int (i : Nat), u])) G := Step.new hT
    refine ⟨st, R.new hT, .tup [.int (i : Nat), d], ?_, T, _, rfl, upd_same, .cons rfl (.cons (dd.mono st) .nil)⟩
    unfold enumD
    rw [List.getElem?_mapIdx, hd] <;> rfl
  stop := fun H G h R => by
    obtain ⟨a', vs, e, h1, l⟩ := h
    cases e
    exact ⟨vs, SqT.of h1, by simp only [enumD, List.length_mapIdx]; rw [l.length]; exact Nat.le_refl _⟩
end
def IEnumT (t : TA3) : TI3 := fun δ G Q E => t δ G (fun ds G1 => match ds with | [.nod .tup xs] => Q (enumD xs) G1 | _ => False) E
section
variable {X : Cx} {Γ : Gm} {W : WX} {a : Expr} {pos : Pos}
theorem pi3_enumT {t : TA3} {p tpos : Pos} {elts : List Expr} {kk : Nat} (hg : Gl X "enumerate") (hm : X.mg "enumerate" = none) (ha : PA3 X Γ W [a] t) (hs : starEach [a] X.env = [(false, eval a X.env)] := by rfl) : PI3 X Γ W (.Tuple elts kk tpos) (.Call (.Name "enumerate" p) [a] [] pos) (IEnumT t) :=
  pi_imp (pi_enumT hg hm ha hs) fun σ H R' hw => by
    obtain ⟨δ, G, Q3, E3, R, h1, k, ke⟩ := hw
    refine ⟨δ, G, _, E3, R, h1, fun ds vs G1 H1 s1 hp1 dl q => ?_, ke⟩
    split at q
    · obtain ⟨v, r, rfl, d1, rfl⟩ := dl
      have d0 := d1
      obtain ⟨p', vs, rfl, h2, l⟩ := d1
      exact ⟨p', vs, rfl, SqT.of h2, k _ _ _ G1 H1 s1 hp1 walk_enumT d0 q⟩
    · exact q.elim
end
end L3
/-! L4l: tuple(list), fixed with no dict; dict of such a tuple of pairs; enumerate of it. -/
namespace L3
open PySem PySem.Spec PyProof.Rows L2
section
variable {X : Cx}
abbrev rTupF (K : PySem.W.Frag) : List V → Hp → VK → Prop := fun xs H Q => ∃ p ys, xs = [.ref p] ∧ SqL K H p ys ∧ ∀ (l : Addr) (o : Obj), H l = none → o.dict = none → Q (.ref l) (upd H l (.frz o (.tup ys)))
theorem call_tupF : CallR X (.type "tuple") (rTupF X.K) := by
  intro pins s σ H xs us Q I r ⟨p, ys, ex, hq, q⟩
  subst ex
  obtain ⟨u, rfl, rx⟩ := vals1 r
  cases rx
  obtain ⟨its, r', pl, hz⟩ := I.list hq
  have hlen := r'.length
  refine call_tuple_list pl.isList (fun h' kp => ?_) (by simp only [List.size_toArray] <;> omega)
  have I1 : Inv X pins σ H { s with heap := h' } := I.kept (t' := s.toks) kp
  have nf := I1.hok.fresh (Nat.le_refl h'.objs.size)
  exact ⟨.ref h'.objs.size, _, I1.laid (o := .frz { cls := .type "tuple", data := .seq its.toArray } (.tup ys)) (t' := s.toks) (fun b o e => Heap.get?_push_of_some _ e) (Nat.le_refl _) ⟨Heap.get?_push_size _ rfl, hz, its, r', IsTup.new _ _⟩, rfl, q _ _ nf rfl⟩
abbrev rDictF (K : PySem.W.Frag) : List V → Hp → VK → Prop := fun xs H Q => ∃ (a : Addr) (o : Obj) (ps : List Addr) (kvs : List (Key × V)), xs = [.ref a] ∧ H a = some (.frz o (.tup (ps.map V.ref))) ∧ o.dict = none ∧ Paired (fun p kv => SqT K H p [kV kv.1, kv.2]) ps kvs ∧
  ∀ p, H p = none → Q (.ref p) (upd H p (.dK (mergeK [] kvs)))
theorem call_dictF (hc : X.calm = true) : CallR X (.type "dict") (rDictF X.K) := by
  intro pins s σ H xs us Q I r ⟨a, o, ps, kvs, ex, ha, hd, hp, q⟩
  subst ex
  obtain ⟨u, rfl, rx⟩ := vals1 r
  cases rx
  obtain ⟨hg, hz, its, rv, o', hg', hc', n, hdat⟩ := I.hok a _ ha
  rw [hg] at hg'
  cases hg'
  have ei := refs_at rv
  subst ei
  rw [List.length_map] at hz
  obtain ⟨prs, rel, hl, hpr⟩ := pairs_of I hp
  -- the values of the keys as they stand
  have ks : ∃ ws : List (Value × Value), ws.length = prs.length ∧ ∀ (j : Nat) (q : Key × Value), prs[j]? = some q → ∃ (b : Addr) (u : Value), ps[j]? = some b ∧ ws[j]? = some (u, q.2) ∧ IsTup s.heap b #[u, q.2] ∧ keyIs q.1 u = true := by
    clear q hz hdat hg ha rel
    have : ∀ n, n ≤ prs.length → ∃ ws : List (Value × Value), ws.length = n ∧ ∀ (j : Nat) (q : Key × Value), j < n → prs[j]? = some q → ∃ (b : Addr) (u : Value), ps[j]? = some b ∧ ws[j]? = some (u, q.2) ∧ IsTup s.heap b #[u, q.2] ∧ keyIs q.1 u = true := by
      intro n
      induction n with
      | zero => intro _; exact ⟨[], rfl, fun j q hj => absurd hj (Nat.not_lt_zero _)⟩
      | succ n ih =>
        intro hn
        obtain ⟨ws, e1, e2⟩ := ih (Nat.le_of_succ_le hn)
        have hj : prs[n]? = some prs[n] := List.getElem?_eq_getElem hn
        obtain ⟨b, u, e3, e4, e5⟩ := hpr n _ hj
        refine ⟨ws ++ [(u, prs[n].2)], by simp [e1], fun j q hjn ej => ?_⟩
        by_cases z : j = n
        · subst z
          rw [hj] at ej
          cases ej
          exact ⟨b, u, e3, by rw [List.getElem?_append_right (by omega), e1]; simp, e4, e5⟩
        · obtain ⟨b', u', f1, f2, f3, f4⟩ := e2 j q (by omega) ej
          exact ⟨b', u', f1, by rw [List.getElem?_append_left (by omega)]; exact f2, f3, f4⟩
    obtain ⟨ws, e1, e2⟩ := this prs.length (Nat.le_refl _)
    exact ⟨ws, e1, fun j q ej => e2 j q (List.getElem?_eq_some_iff.mp ej).1 ej⟩
  obtain ⟨ws, w1, w2⟩ := ks
  refine PySem.call_dict_pairs (knd := mixKind X.prog X.w) (kvs := prs) (PairArg.tuple a (ps.map Value.ref).toArray (fun j => (ps[j]?).getD 0) ws) (I.ok.hd hc) ⟨⟨o, n, hg, hc', hd, hdat⟩, ?_, fun j k v e => ?_⟩ ⟨by rw [w1], fun i k v e => ?_⟩ (by rw [w1, hl]; exact hz) fun h' tk dd k => ?_
  · simp [w1, hl]
  · have hj : j < prs.length := by rw [← w1]; exact (List.getElem?_eq_some_iff.mp e).1
    obtain ⟨b, u, f1, f2, f3, f4⟩ := w2 j _ (List.getElem?_eq_getElem hj)
    rw [e] at f2
    cases f2
    obtain ⟨o3, g1, g2, g3, g4⟩ := f3
    exact ⟨by simp [f1], .inl ⟨o3, by simp [f1]; exact g1, g2, g3, g4⟩⟩
  · have e : ws[i]? = some (k, v) := e
    have hj : i < prs.length := by rw [← w1]; exact (List.getElem?_eq_some_iff.mp e).1
    obtain ⟨b, u, f1, f2, f3, f4⟩ := w2 i _ (List.getElem?_eq_getElem hj)
    rw [e] at f2
    cases f2
    exact ⟨prs[i].1, List.getElem?_eq_getElem hj, f4⟩
  · have hm : (s.heap.objs.size == sysModules) = false := beq_eq_false_iff_ne.mpr (Nat.ne_of_gt I.big)
    have hlen : (mergeK [] kvs).length ≤ sizeLine := by
      refine Nat.le_trans (length_mergeK kvs []) ?_
      rw [List.length_nil, Nat.zero_add, rel.length, hl]
      exact hz
    exact ⟨.ref s.heap.objs.size, upd H s.heap.objs.size (.dK (mergeK [] kvs)), I.laid (t' := tk) (fun b u e => k b u (by simp) e) (Nat.le_refl _) (show ObjOk X.prog X.w _ _ _ (.dK (mergeK [] kvs)) from ⟨hlen, hm, merged [] prs, KV.merge rel .nil, dd⟩), rfl, q _ (I.hok.fresh (Nat.le_refl _))⟩
end
/-- tuple(xs), fixed -/
def tupFC : C3 := fun ds G Q => match ds with
  | [.nod .lst xs] => Q (.nod .tuF xs) G
  | _ => False
def dictFC : C3 := fun ds G Q => ∃ kvs, ds = [.nod .tuF (pairsD kvs)] ∧ ∀ p, G p = none → Q (.ref p) (gset G p (.dK (merge [] kvs)))
section
variable {X : Cx} {Γ : Gm}
theorem sound_tupF : SoundN X.K Γ (rTupF X.K) tupFC := by
  intro xs vs H G Q3 Q R hl h k
  unfold tupFC at h
  split at h
  · obtain ⟨v, rfl, a, us, rfl, h1, l⟩ := datL_one hl
    refine ⟨a, us, rfl, SqL.of h1.2, fun p o hn hd => ?_⟩
    exact k (.nod .tuF _) _ G _ (Step.new hn) (R.new hn) ⟨p, us, rfl, ⟨own_none R hn, o, upd_same, hd⟩, l.mono (Step.new hn)⟩ h
  · exact h.elim
theorem sound_dictF : SoundN X.K Γ (rDictF X.K) dictFC := by
  intro xs vs H G Q3 Q R hl h k
  obtain ⟨kvs, rfl, q⟩ := h
  obtain ⟨v, rfl, a, us, rfl, ⟨_, o, h2, hd⟩, l⟩ := datL_one hl
  obtain ⟨ps, ws, rfl, h4, h5⟩ := datL_pairs l
  refine ⟨a, o, ps, ws, rfl, h2, hd, h4, fun p hp => ?_⟩
  have st : Step X.K H G (upd H p (.dK (mergeK [] ws))) (gset G p (.dK (merge [] kvs))) := Step.newG hp (own_none R hp)
  refine k (.ref p) _ _ _ st (R.newG (g := .dK (merge [] kvs)) hp ⟨_, upd_same, DatF.mono st (datF_merge h5 .nil)⟩) rfl ?_
  rw [vis_gset (by intro z; cases z)]
  exact q p (vis_none (own_none R hp))
end
section
variable {K : PySem.W.Frag} {Γ : Gm}
theorem walk_enumF {a : Addr} {ds : List D} : Walk3 K Γ (IteT K a) (fun H G => Dat K Γ H G (.nod .tuF ds) (.ref a)) (enumD ds) where
  keep := fun H G H' G' s h => h.mono0 s
  go := fun i H G hi h R => by
    obtain ⟨a', vs, e, ⟨_, o, h1, _⟩, l⟩ := h
    cases e
    have hi : i < ds.length := by simpa [enumD] using hi
    obtain ⟨d, hd⟩ := get_some hi
    obtain ⟨v, hv, _⟩ := l.get hd
    exact ⟨vs, v, .inl (.inr ⟨o, h1⟩), hv⟩
  yld := fun i H G x H' hi h R y => by
    obtain ⟨a', vs, e, ⟨_, o, h1, _⟩, l⟩ := h
    cases e
    obtain ⟨T, u, rfl, hT, rfl, y⟩ := y
    obtain ⟨d, hd, dd⟩ := l.get' (y vs (.inl (.inr ⟨o, h1⟩)))
    have st : Step K H G (upd H T (.tup [.int (i : Nat), u])) G := Step.new hT
    refine ⟨st, R.new hT, .tup [.int (i : Nat), d], ?_, T, _, rfl, upd_same, .cons rfl (.cons (dd.mono st) .nil)⟩
    unfold enumD
    rw [List.getElem?_mapIdx, hd] <;> rfl
  stop := fun H G h R => by
    obtain ⟨a', vs, e, ⟨_, o, h1, _⟩, l⟩ := h
    cases e
    exact ⟨vs, .inl (.inr ⟨o, h1⟩), by simp only [enumD, List.length_mapIdx]; rw [l.length]; exact Nat.le_refl _⟩
end
def IEnumF (t : TA3) : TI3 := fun δ G Q E => t δ G (fun ds G1 => match ds with | [.nod .tuF xs] => Q (enumD xs) G1 | _ => False) E
section
variable {X : Cx} {Γ : Gm} {W : WX} {a : Expr} {pos : Pos}
theorem pi3_enumF {t : TA3} {p tpos : Pos} {elts : List Expr} {kk : Nat} (hg : Gl X "enumerate") (hm : X.mg "enumerate" = none) (ha : PA3 X Γ W [a] t) (hs : starEach [a] X.env = [(false, eval a X.env)] := by rfl) : PI3 X Γ W (.Tuple elts kk tpos) (.Call (.Name "enumerate" p) [a] [] pos) (IEnumF t) :=
  pi_imp (pi_enumT hg hm ha hs) fun σ H R' hw => by
    obtain ⟨δ, G, Q3, E3, R, h1, k, ke⟩ := hw
    refine ⟨δ, G, _, E3, R, h1, fun ds vs G1 H1 s1 hp1 dl q => ?_, ke⟩
    split at q
    · obtain ⟨v, r, rfl, d1, rfl⟩ := dl
      have d0 := d1
      obtain ⟨p', vs, rfl, ⟨_, o, h2, _⟩, l⟩ := d1
      exact ⟨p', vs, rfl, .inl (.inr ⟨o, h2⟩), k _ _ _ G1 H1 s1 hp1 walk_enumF d0 q⟩
    · exact q.elim
theorem hu0 {k : Nat} {A : Around} (r : Room k A) : A.units < cLine := by have := r.un; omega
end
end L3
/-! L4m: a comprehension whose test calls a closure of the frame. -/
namespace L3
open PySem PySem.Spec PyProof.Rows L2
open LamX (CodeO Tabs TabB ExtN LamS lamCx lamEnv)
section
variable {X : Cx}
/-- where the block of a comprehension starts: the frame's state is known -/
def BlkAt (X : Cx) (scope : Scope) (P : List (Addr × Obj) → L2.St → Cx → Prop) : Prop := ∀ (pins : List (Addr × Obj)) (σ : L2.St) (s : Shared) (H : Hp) (C : Addr) (cl : List (Str × Addr)) (fp : List Addr), Inv X pins σ H s → (∀ b ∈ fp, FpOk X pins H b ∧ b < s.heap.objs.size) → P pins σ (X.blk s H scope (compEnvC scope cl C X.env) fp)
theorem pe_lcI {elt tg iter : Expr} {ifs : List Expr} {scope : Scope} {own : List (Str × Nat)} {pos : Pos} {wi : TI} {g : TG} {tt : L2.St → TT} {te : TE} (hc : X.calm = true) (hN : X.N.Nodup) (hi : PI X tg iter wi) (ok : BlkOk X.N X.env.scope scope own)
    (hg : ∀ (s : Shared) (H : Hp) (C : Addr) (cl : List (Str × Addr)) (fp : List Addr), PG (X.blk s H scope (compEnvC scope cl C X.env) fp) tg g) (ht : BlkAt X scope fun _ σ X' => PTs X' ifs (tt σ))
    (he : ∀ (s : Shared) (H : Hp) (C : Addr) (cl : List (Str × Addr)) (fp : List Addr), PE (X.blk s H scope (compEnvC scope cl C X.env) fp) elt te) (hs : ∀ x, foldedSetIterable iter X.env x = pure x := by intro _; rfl) :
    PE X (.ListComp elt [⟨tg, iter, ifs, 0⟩] scope pos) (fun σ H Q => tLc wi g (tt σ) te (own.map (·.2)) σ H Q) := by
  refine ⟨fun pins s σ H Q I h => ?_⟩
  rw [eval_ListComp]
  have hfree : ∀ y ∈ scope.names, y.2 = .free → ∃ c, X.env.cells.lookup y.1 = some c := fun y hy e => (ok.free y hy e).elim (fun k => I.ok.has _ (.inl k)) fun k => I.ok.has _ (.inr k)
  refine wpAny_comprehension_free rfl hs (closure_ok hfree) ok.kind (fun y hy e => by rw [ok.uniq y hy, e]) (thn (hi.run pins s σ H _ I h) fun xv s1 hx => thn hx fun itv s2 h2 => ?_)
  obtain ⟨it, fp, tn, J, H2, e, I2, T, st2, f2, q⟩ := h2
  subst e
  refine wpAny_newObj_type (newEnv_comp ?_) (by show 0 ≤ sizeLine; decide)
  generalize hD : s2.heap.objs.size = D
  have hDn : H2 D = none := I2.hok.fresh (Nat.le_of_eq hD)
  obtain ⟨W, ⟨m0, w0⟩, turn⟩ := q D hDn
  generalize hs3 : ({ s2 with heap := s2.heap.push { cls := .type "list", data := .seq ([] : List Value).toArray } } : Shared) = s3
  have I3 : Inv X pins σ (upd H2 D (.lst [])) s3 := by
    subst hs3
    exact I2.laid (t' := s2.toks) (fun b o e => Heap.get?_push_of_some _ e) (Nat.le_of_eq hD) ⟨Nat.zero_le _, [], 0, .nil, by rw [← hD]; exact Heap.get?_push_size _ rfl⟩
  have h3 : s3.heap = s2.heap.push { cls := .type "list", data := .seq ([] : List Value).toArray } := by rw [← hs3]
  have sz : ∀ b ∈ fp, b < s2.heap.objs.size := fun b hb => let ⟨o, e, _⟩ := T.obj _ _ st2 b hb; Heap.lt_size e
  have f3 : ∀ b ∈ fp, FpOk X pins (upd H2 D (.lst [])) b ∧ b < s3.heap.objs.size := fun b hb => by
    have hlt := sz b hb
    refine ⟨⟨?_, (f2 b hb).2⟩, by rw [h3, Heap.size_push]; exact Nat.lt_succ_of_lt hlt⟩
    rw [upd_ne (by rw [← hD]; exact Nat.ne_of_lt hlt)]
    exact (f2 b hb).1
  have st3 : tn 0 s3.heap := T.keep _ _ _ st2 fun b _ o e => by rw [h3]; exact Heap.get?_push_of_some _ e
  have I4 := block_start I3 ok hN f3
  have pg := hg s3 (upd H2 D (.lst [])) s3.heap.objs.size (cellsFrom (s3.heap.objs.size + 1) scope.names (cloFrom X.env.cells scope.names [])) fp
  have pt := ht pins σ s3 (upd H2 D (.lst [])) s3.heap.objs.size (cellsFrom (s3.heap.objs.size + 1) scope.names (cloFrom X.env.cells scope.names [])) fp I3 f3
  have pe := he s3 (upd H2 D (.lst [])) s3.heap.objs.size (cellsFrom (s3.heap.objs.size + 1) scope.names (cloFrom X.env.cells scope.names [])) fp
  have nfp : ∀ b ∈ fp, (upd H2 D (.lst [])) b = none := fun b hb => (f3 b hb).1.1
  have fin0 : ∀ D C s' m H', Inv X pins σ H' s' → Q (.ref D) H' → s'.heap.Ns C m → FpOk X pins H' C → compPost (model X.prog X.w) X.A X.xe none (L2.EP X pins σ Q) (.ref D) C (.ok .next) s' := fun D C s' m H' I' q hn f => ⟨m, hn, fun h'' sb => by
    obtain ⟨f0, f1, f2, f3, f4, f5⟩ := f
    exact ⟨.ref D, H', I'.turned (t' := s'.toks) (fun b o hb e => (sb.2 b hb).trans e) f0 f1 f3 f4 f5, rfl, q⟩⟩
  show codeAny _ _ (.compStart (.ListComp elt [⟨tg, iter, ifs, 0⟩] scope pos) 0 (.ref it) (.ref D) (compEnvC scope (cellsFrom (s3.heap.objs.size + 1) scope.names (cloFrom X.env.cells scope.names [])) s3.heap.objs.size X.env)) (compPost (model X.prog X.w) X.A X.xe none (L2.EP X pins σ Q) (.ref D) s3.heap.objs.size) { s3 with heap := pushCells (s3.heap.push { cls := .type "dict", data := .dict #[] }) scope.names }
  generalize hce : compEnvC scope (cellsFrom (s3.heap.objs.size + 1) scope.names (cloFrom X.env.cells scope.names [])) s3.heap.objs.size X.env = ce at I4 pg pt pe ⊢
  have cL : ce.locals = s3.heap.objs.size := by subst hce; rfl
  generalize hH3 : upd H2 D (.lst []) = H3 at I3 I4 pg pt pe w0 nfp f3
  generalize hs4 : ({ s3 with heap := pushCells (s3.heap.push { cls := .type "dict", data := .dict #[] }) scope.names } : Shared) = s4 at I4 ⊢
  have st4 : tn 0 s4.heap := T.keep _ _ _ st3 fun b _ o e => by rw [← hs4]; exact pushCells_keeps _ _ _ _ (Heap.get?_push_of_some _ e)
  have stat : ∀ {σ' : L2.St} {H' : Hp} {s' : Shared}, Inv (X.blk s3 H3 scope ce fp) [] σ' H' s' → (∀ b ∈ fp, H' b = none) → ∀ b ∈ fp, FpOk (X.blk s3 H3 scope ce fp) [] H' b := fun {σ' H' s'} I' hn b hb =>
    ⟨hn b hb, (I'.ok.exf b hb).1, I'.ok.exfs b hb, .inl hb, fun x c e => (I'.ok.exf b hb).2 x c e, fun p hp => absurd (show p ∈ ([] : List (Addr × Obj)) ++ [] from hp) (by simp)⟩
  have loop : codeAny (model X.prog X.w) X.A (.compLoop (.ListComp elt [⟨tg, iter, ifs, 0⟩] scope pos) 0 (.ref it) (.ref D) ce) (compPost (model X.prog X.w) X.A X.xe none (L2.EP X pins σ Q) (.ref D) s3.heap.objs.size) s4 := by
    refine compLoop_any (fun n s' => ∃ i H', Inv (X.blk s3 H3 scope ce fp) [] (wipe σ (own.map (·.2))) H' s' ∧ tn i s'.heap ∧ (∀ b ∈ fp, H' b = none) ∧ W i n H') ?_ m0 ⟨0, H3, I4, st4, nfp, w0⟩
    rintro n s5 ⟨i, H5, I5, st5, n5, w5⟩
    rcases turn i n H5 w5 with ⟨stop, qq⟩ | ⟨go, Nx, hNx, step⟩
    · refine thnF (T.done (X.blk s3 H3 scope ce fp) rfl rfl rfl hc i [] s5 _ H5 (fun _ _ => False) I5 (stat I5 n5) st5 stop) fun r s6 ⟨hr, I6⟩ => ?_
      subst hr
      have I7 : Inv X pins σ H5 s6 := I3.call' (ch := fp) I6.os I6.base I6.hok I6.bare fun b hb => ⟨(f3 b hb).1.2.2.2.1, (f3 b hb).1.2.1, (f3 b hb).1.2.2.2.2.1, (f3 b hb).1.2.2.2.2.2⟩
      have nC : H5 ce.locals = none := I6.free
      obtain ⟨m, hn, _⟩ := I6.loc
      have hn : s6.heap.Ns ce.locals m := hn
      rw [cL] at nC hn
      exact fin0 D s3.heap.objs.size s6 m H5 I7 qq hn (I3.fpOk (Nat.le_refl _) nC)
    · refine thnF (T.item (X.blk s3 H3 scope ce fp) rfl rfl rfl hc i [] s5 _ H5 (fun _ _ => False) I5 (stat I5 n5) st5 go) fun r s6 ⟨u, hr, h6⟩ => ?_
      subst hr
      refine thnF h6 fun _ s7 ⟨x, H7, I7, r7, y7, st7, n7⟩ => ?_
      have I7' := I7.pinned (stat I7 n7) (T.obj _ _ st7)
      refine thnF (pg.run _ s7 _ H7 x u _ I7' r7 (step x H7 y7)) fun _ s8 ⟨σ8, H8, I8, hw8, q8⟩ => ?_
      refine thnF (pt.run _ s8 σ8 H8 _ I8 q8) fun b s9 ⟨H9, I9, q9⟩ => ?_
      have fin : ∀ {s' : Shared} {H' : Hp}, Inv (X.blk s3 H3 scope ce fp) ([] ++ pinsAt fp s7.heap) σ8 H' s' → Nx H' → ∃ m, m < n ∧ ∃ i H', Inv (X.blk s3 H3 scope ce fp) [] (wipe σ (own.map (·.2))) H' s' ∧ tn i s'.heap ∧ (∀ b ∈ fp, H' b = none) ∧ W i m H' := fun {s' H'} I' nx => by
        obtain ⟨m', hm, w'⟩ := hNx H' nx
        have pin' : ∀ b ∈ fp, ∀ o, s7.heap.get? b = some o → s'.heap.get? b = some o ∧ H' b = none := fun b hb o e =>
          let z := I'.pin (b, o) (List.mem_append_right _ (List.mem_append_right _ (mem_pinsAt hb e)))
          ⟨z.1, z.2.1⟩
        have hl : (wipe σ (own.map (·.2))).length = σ8.length := by rw [← hw8, wipe_length]
        refine ⟨m', hm, i + 1, H', (I'.unpinned (pins := [])).weak hl (fun j v e => by rw [← hw8] at e; exact (wipe_some e).1), T.keep _ _ _ st7 fun b hb o e => (pin' b hb o e).1, fun b hb => ?_, w'⟩
        obtain ⟨o, e, _⟩ := T.obj _ _ st7 b hb
        exact (pin' b hb o e).2
      cases b with
      | false =>
        simp only [Bool.false_eq_true, if_false] at q9 ⊢
        exact fin I9 q9
      | true =>
        simp only [if_true] at q9 ⊢
        refine thnF (pe.run _ s9 σ8 H9 _ I9 q9) fun z s10 ⟨yv, H10, I10, r10, acc, hD10, hz10, nx⟩ => ?_
        exact app_ok (X := X.blk s3 H3 scope ce fp) I10 hD10 hz10 r10 fun s11 I11 => fin I11 nx
  exact codeAny_compStart_list loop (T.self X.A 0 _ _ _ st4 loop)
end
/-- told(v), v a name of the block that holds a closure of the frame -/
def TToldB (K : PySem.W.Frag) (CS : Addr) (rt : Str) (te : TE3) (vs : List Nat) (ts : List TE3) : TE3 := fun δ G Q E => te δ G (fun d G1 => match d with
  | .clo i => (match ts[i]? with
    | some t => t (wipe3 δ vs) G1 Q (fun cls G' => PySem.W.exmOne K cls (.ref CS) = some true ∧ Q (.str rt) G')
    | none => False)
  | _ => False) E
section
variable {X : Cx} {Γ : Gm} {pins0 : List (Addr × Obj)} {σ0 : L2.St} {H3 : Hp} {s3 : Shared}
theorem pe_toldB {bscope : Scope} {ce : Env} {fp : List Addr} {vs : List Nat} {x a : Str} {g CS : Addr} {k : Nat} {pg : Arguments} {bg : List Stmt} {sg : Scope} {dV kV doc pm cdv ct oc : Value} {an od : Option Addr} {osl : Array (Option Value)} {Ng : List Str} {e : Expr} {te : TE3} {ts : List TE3} {p pos : Pos} {rt : Str}
    (I3 : Inv X pins0 σ0 H3 s3) (f3 : ∀ b ∈ fp, FpOk X pins0 H3 b ∧ b < s3.heap.objs.size) (hg : Gl (X.blk s3 H3 bscope ce fp) x) (hm : X.mg x = some (.ref g)) (hk : PySem.W.keepIn X.K (.ref g) = true) (lk : X.K.lookup g = some ⟨oc, od, .func (PySem.W.fnOf x x pg bg sg dV kV doc pm an cdv ct), osl⟩) (hcg : PySem.W.codeIn X.K cdv x = true)
    (hb : L2.Binds X.K (PySem.W.fnOf x x pg bg sg dV kV doc pm an cdv ct) [a] []) (Sg : FnScope Ng [a] sg) (hNg : Ng[0]? = some a) (hva : Vis sg a) (hG : ∀ q, LamX.GivesTo X Ng x sg g cdv bg a q (LamX.TTold X.K CS rt)) (hr : Room (k + 2) X.A) (he : PE3 (X.blk s3 H3 bscope ce fp) Γ W0 e te)
    (hts : ∀ i t, ts[i]? = some t → ∃ l : LamI, Γ.isC X i l ∧ Γ.cq i = X.env.qual ++ "<lambda>" ∧ LamS X.env.scope l.scope ∧ (∀ (q : Str) (cl : List (Str × Addr)) (pm cv ctv : Value), bindArgs (PySem.W.kla_fn "<lambda>" q l.params l.body l.scope cl pm cv ctv) ⟨[], []⟩ = pure []) ∧
      ∀ (A : Around) (outer : List Env) (s : Shared) (H : Hp) (E : XK) (f c' : Addr), Room k (A.deeper (lamEnv X l.scope s.heap.objs.size f c')) → PE3 (lamCx X A outer s H E l.scope f c') Γ (WE3 E) l.body t)
    (hs : starEach [e] ce = [(false, eval e ce)]) (hdb : (x == ("__debug__" : Str)) = false) (hd : (a == ("__debug__" : Str)) = false := by decide) (hcd : (a == ("__classdict__" : Str)) = false := by decide) :
    PE (X.blk s3 H3 bscope ce fp) (.Call (.Name x p) [e] [] pos) (fun σ H Q => L2.wipe σ vs = L2.wipe σ0 vs ∧ lift X.K Γ W0 (TToldB X.K CS rt te vs ts) σ H Q) := by
  refine ⟨fun pins s σ H Q I ⟨hwp, hw⟩ => ?_⟩
  obtain ⟨δ, G, Q3, E3, R, h, k0, ke⟩ := hw
  refine wpAny_Call_Name_kw (ld_glob I hg hm ?_ hdb)
  refine PySem.W.callWith_K (h₀ := X.base) I.ok.mod.kin hk ?_ hs (by rfl)
  show wpAny _ _ (spliced (backTo pos (starEach [e] ce))) _ _ s
  rw [hs]
  refine Calls.spliced_cons (thn (he.run pins s σ H (fun v H1 => ∃ G1 i f c', v = V.ref f ∧ HpR X.K Γ H1 G1 ∧ Step X.K H G H1 G1 ∧ H1 f = some (Γ.clo i f c') ∧ H1 c' = some (CodeO c' (Γ.cq i)) ∧
    ∃ t, ts[i]? = some t ∧ t (wipe3 δ vs) (vis G1) Q3 (fun cls G' => PySem.W.exmOne X.K cls (.ref CS) = some true ∧ Q3 (.str rt) G')) I ⟨δ, G, _, E3, R, h, fun d v G1 H1 s1 hp1 dv q => ?_, ke⟩) fun u s1 ⟨v, H1, I1, rv, G1, i, f, c', ev, hp1, st1, hf, hc, t, ht, q⟩ => ?_)
  · split at q
    · split at q
      · rename_i ht
        obtain ⟨f, c', rfl, n1, n2, e1, e2, _⟩ := dv
        exact ⟨G1, _, f, c', rfl, hp1, s1, e1, e2, _, ht, q⟩
      · exact q.elim
    · exact q.elim
  subst ev
  obtain rfl : u = Value.ref f := rv
  refine Calls.spliced_nil ⟨I1.kIn, ?_⟩
  obtain ⟨l, is, eq, L, hbind, hbody⟩ := hts i t ht
  rw [is, eq] at hf
  rw [eq] at hc
  have Io : Inv X pins0 σ0 H1 s1 := I3.call' (ch := fp) I1.os I1.base I1.hok I1.bare fun b hb => ⟨(f3 b hb).1.2.2.2.1, (f3 b hb).1.2.1, (f3 b hb).1.2.2.2.2.1, (f3 b hb).1.2.2.2.2.2⟩
  have Iw : Inv X pins0 (L2.wipe σ0 vs) H1 s1 := Io.weak (L2.wipe_length ..) fun j v e => (L2.wipe_some e).1
  rw [← hwp] at Iw
  have rc : codeAny (model X.prog X.w) X.A (.call (.ref g) ⟨[.ref f], []⟩) (CR C8.CX0 X.stack X.prog X.w H1 s1 Q C8.E0) s1 := by
    refine LamX.run_ofS (N := Ng) (ps := [a]) (us := [.ref f]) (vs := [.ref f]) lk hcg Sg hr Io.env0 (hb s1 [.ref f] I1.kIn rfl) (.cons rfl .nil) rfl fun hr' => ?_
    obtain ⟨t', ht', hq'⟩ := hG (X.env.qual ++ "<lambda>") f c' s1 H1 Q (fun E H' Q' => H' f = some (LamOc (X.env.qual ++ "<lambda>") l.params l.body l.scope (cloFrom X.env.cells l.scope.names []) f c') ∧ lift X.K Γ (WE3 E) t (L2.wipe σ vs) H' Q')
      (fun W' pn xe E p1 p2 tk hW => pe_imp (pe_actC (i := 0) Iw L (hbind _ _) tk hW hr' (fun A outer s H hr2 => hbody A outer s H E f c' hr2) hNg hva hd hcd) fun σZ HZ Q' ⟨z1, z2, z3, z4⟩ => ⟨z1, z2, z3, z4⟩) hc
      ⟨hf, wipe3 δ vs, G1, Q3, _, (R.mono st1 hp1).wipe vs, q, fun d v G' H' s' => k0 d v G' H' (st1.trans s'), fun cls G' H' s' hp' ⟨e1, q⟩ => ⟨true, e1, fun _ => k0 (.str rt) _ G' H' (st1.trans s') hp' rfl q, fun z => nomatch z⟩⟩
    exact ⟨t', ht'.nox, hq'⟩
  refine wpAny_call (codeAny_mono rc fun r s2 hq => ?_)
  match r, hq with
  | .error e, hq => exact (show False from hq).elim
  | .ok (.ret u), hq => exact I1.after hq
  | .ok .next, hq => exact False.elim hq
  | .ok .brk, hq => exact False.elim hq
  | .ok .cont, hq => exact False.elim hq
end
section
variable {X : Cx} {Γ : Gm} {W : WX} {tg iter elt ev b : Expr} {x en : Str} {g0 CS : Addr} {d : FuncData} {st : Stmt} {rt : Str} {k : Nat} {op : CmpOp} {r : R2} {r3 : R3} {ti : TI3} {g : TG3} {te tv tb : TE3} {ts : List TE3} {scope : Scope} {own : List (Str × Nat)} {p pos1 cpos pos : Pos}
theorem lc_imp {wi : TI} {gg : TG3} {tt tt' : TT} {te' : TE} {vs : List Nat} {σ : L2.St} {H : Hp} {Q : VK} (f : ∀ σ2 H2 (R : Bool → Hp → Prop), L2.wipe σ2 vs = L2.wipe σ vs → tt σ2 H2 R → tt' σ2 H2 R) (hwi : ∀ σ H (R R' : It → Hp → Prop), (∀ J H, R J H → R' J H) → wi σ H R → wi σ H R')
    (h : tLc wi (liftW X.K Γ vs gg) tt te' vs σ H Q) : tLc wi (liftW X.K Γ vs gg) tt' te' vs σ H Q := by
  refine hwi σ H _ _ (fun J H1 h D hD => ?_) h
  obtain ⟨Wm, w0, turn⟩ := h D hD
  refine ⟨Wm, w0, fun i m H' w => (turn i m H' w).imp id fun ⟨go, Nx, hN, step⟩ => ⟨go, Nx, hN, fun v H2 y => ?_⟩⟩
  obtain ⟨d', δ', G', Q3', R', dd, hh, kk⟩ := step v H2 y
  exact ⟨d', δ', G', Q3', R', dd, hh, fun δ2 G2 σ2 H3 s' R2 ew q3 => let ⟨e1, e2⟩ := kk δ2 G2 σ2 H3 s' R2 ew q3; ⟨e1, f _ _ _ e1 e2⟩⟩
theorem pe3_lcB (F : ToldF X.K X.mg x g0 d st en CS rt) (hc : X.calm = true) (hN : X.N.Nodup) (hi : PI3 X Γ W tg iter ti) (ok : BlkOk X.N X.env.scope scope own)
    (hg : ∀ (s : Shared) (H : Hp) (C : Addr) (cl : List (Str × Addr)) (fp : List Addr), PW3g (X.blk s H scope (compEnvC scope cl C X.env) fp) Γ (own.map (·.2)) tg g)
    (hgl : ∀ (s : Shared) (H : Hp) (C : Addr) (cl : List (Str × Addr)) (fp : List Addr), Gl (X.blk s H scope (compEnvC scope cl C X.env) fp) x) (hdb : (x == ("__debug__" : Str)) = false) (hr : Room (k + 2) X.A)
    (hv : ∀ (s : Shared) (H : Hp) (C : Addr) (cl : List (Str × Addr)) (fp : List Addr), PE3 (X.blk s H scope (compEnvC scope cl C X.env) fp) Γ W0 ev tv) (hss : ∀ (C : Addr) (cl : List (Str × Addr)), starEach [ev] (compEnvC scope cl C X.env) = [(false, eval ev (compEnvC scope cl C X.env))])
    (hts : ∀ i t, ts[i]? = some t → ∃ l : LamI, Γ.isC X i l ∧ Γ.cq i = X.env.qual ++ "<lambda>" ∧ LamS X.env.scope l.scope ∧ (∀ (q : Str) (cl : List (Str × Addr)) (pm cv ctv : Value), bindArgs (PySem.W.kla_fn "<lambda>" q l.params l.body l.scope cl pm cv ctv) ⟨[], []⟩ = pure []) ∧
      ∀ (A : Around) (outer : List Env) (s : Shared) (H : Hp) (E : XK) (f c' : Addr), Room k (A.deeper (lamEnv X l.scope s.heap.objs.size f c')) → PE3 (lamCx X A outer s H E l.scope f c') Γ (WE3 E) l.body t)
    (ho : ∀ (s : Shared) (H : Hp) (C : Addr) (cl : List (Str × Addr)) (fp : List Addr), OpR (X.blk s H scope (compEnvC scope cl C X.env) fp) (compareOp op) r) (hso : Sound2 X.K Γ r r3) (hb : ∀ (s : Shared) (H : Hp) (C : Addr) (cl : List (Str × Addr)) (fp : List Addr), PE3 (X.blk s H scope (compEnvC scope cl C X.env) fp) Γ W0 b tb) (hm : behindInMarks op b = false)
    (he : ∀ (s : Shared) (H : Hp) (C : Addr) (cl : List (Str × Addr)) (fp : List Addr), PE3 (X.blk s H scope (compEnvC scope cl C X.env) fp) Γ W0 elt te) (hs : ∀ x, foldedSetIterable iter X.env x = pure x := by intro _; rfl) :
    PE3 X Γ W (.ListComp elt [⟨tg, iter, [.Compare (.Call (.Name x p) [ev] [] pos1) [op] [b] cpos], 0⟩] scope pos) (TLc ti g (TTest (TOp r3 (TToldB X.K CS rt tv (own.map (·.2)) ts) tb)) te (own.map (·.2))) := by
  obtain ⟨oc, od, kV, doc, pm, an, cdv, ct, osl, e1, lk, hcd⟩ := F.u.ex
  obtain ⟨j, p1, p2, p3, p4, p5, p6, p7, p8, eb⟩ := F.body
  have hbd := F.b
  rw [e1, eb] at lk
  rw [e1, eb] at hbd
  refine pe_imp (pe_lcI (te := lift X.K Γ W0 te) (g := liftW X.K Γ (own.map (·.2)) g) (tt := fun σ0 σ2 H Q => L2.wipe σ2 (own.map (·.2)) = L2.wipe σ0 (own.map (·.2)) ∧ liftT X.K Γ W0 (TTest (TOp r3 (TToldB X.K CS rt tv (own.map (·.2)) ts) tb)) σ2 H Q) hc hN hi ok hg (fun pins σ s H C cl fp I3 f3 => ?_) he hs) fun σ H Q hw => ?_
  · refine pts_one (pt_imp (pt_cmpR (ho s H C cl fp) (pe_toldB (vs := own.map (·.2)) (ce := compEnvC scope cl C X.env) (bscope := scope) I3 f3 (hgl s H C cl fp) F.gm F.u.kp lk hcd hbd F.sc rfl (.inl F.loc) (fun q => LamX.told_gives F.ge F.me F.de fun _ => rfl) hr (hv s H C cl fp) hts (hss C cl) hdb) (hb s H C cl fp) hm) fun σ2 H2 Q2 ⟨w1, h1⟩ => ?_)
    exact ⟨w1, op_sound (W := W0) hso (test_sound h1)⟩
  · refine lc_imp (fun σ2 H2 R w1 h1 => ⟨w1, h1⟩) (fun σ H R R' f h => ?_) (lc_sound hw)
    obtain ⟨δ, G, Q3, E3, R1, h1, k1, k2⟩ := h
    exact ⟨δ, G, Q3, E3, R1, h1, fun ds J P G1 H1 s1 hp1 wk p1 q1 => f _ _ (k1 ds J P G1 H1 s1 hp1 wk p1 q1), k2⟩
end
end L3
/-! L4n: tables in plain proofs. -/
namespace L3
open PySem PySem.Spec PyProof.Rows L2
abbrev endsOf (Q3 : K3) (E3 : X3) : Ends3 := { nx := fun _ G' => RetC Q3 .non G', rt := RetC Q3, ex := fun cls _ G' => ExC E3 cls G' }
theorem ExC.now {E3 : X3} {cls : Value} {G : Gp} (h : E3 cls G) : ExC E3 cls G := ⟨G, Sub.refl, h⟩
theorem filt_true {α : Type} (l : List α) : l.filter (fun _ => true) = l := List.filter_eq_self.mpr fun _ _ => rfl
section
variable {κ α β : Type} [DecidableEq κ]
theorem look_cons (p : κ × α) (kvs : List (κ × α)) (k : κ) : look (p :: kvs) k = if p.1 = k then some p.2 else look kvs k := by
  unfold look
  by_cases h : p.1 = k
  · rw [if_pos h, List.find?_cons_of_pos (by simp [h])] <;> rfl
  · rw [if_neg h, List.find?_cons_of_neg (by simp [h])]
@[simp] theorem look_nil (k : κ) : look ([] : List (κ × α)) k = none := rfl
theorem look_none {kvs : List (κ × α)} {k : κ} : look kvs k = none ↔ k ∉ kvs.map (·.1) := by
  induction kvs with
  | nil => simp [look]
  | cons p kvs ih =>
    rw [look_cons]
    by_cases h : p.1 = k
    · simp [h]
    · rw [if_neg h, ih]
      simp [Ne.symm h]
theorem look_mem' {kvs : List (κ × α)} {k : κ} {v : α} (hn : (kvs.map (·.1)).Nodup) (h : (k, v) ∈ kvs) : look kvs k = some v := by
  induction kvs with
  | nil => cases h
  | cons p kvs ih =>
    rw [List.map_cons, List.nodup_cons] at hn
    rw [look_cons]
    rcases List.mem_cons.mp h with rfl | h
    · simp
    · rw [if_neg (fun e => hn.1 (List.mem_map.mpr ⟨_, h, e.symm⟩))]
      exact ih hn.2 h
theorem look_some {kvs : List (κ × α)} {k : κ} {v : α} (h : look kvs k = some v) : (k, v) ∈ kvs := by
  induction kvs with
  | nil => simp [look] at h
  | cons p kvs ih =>
    rw [look_cons] at h
    by_cases e : p.1 = k
    · rw [if_pos e] at h
      cases h
      rw [← e]
      exact List.mem_cons_self ..
    · rw [if_neg e] at h
      exact List.mem_cons_of_mem _ (ih h)
theorem look_in {kvs : List (κ × α)} {k : κ} (h : k ∈ kvs.map (·.1)) : ∃ v, look kvs k = some v := by
  cases e : look kvs k with
  | none => exact absurd h (look_none.mp e)
  | some v => exact ⟨v, rfl⟩
theorem any_key {kvs : List (κ × α)} {k : κ} : (kvs.any fun kv => decide (kv.1 = k)) = (look kvs k).isSome := by
  induction kvs with
  | nil => rfl
  | cons p kvs ih =>
    rw [List.any_cons, look_cons, ih]
    by_cases h : p.1 = k <;> simp [h]
theorem look_app (l : List (κ × α)) (k : κ) (v : α) (x : κ) : look (l ++ [(k, v)]) x = (look l x).orElse fun _ => if x = k then some v else none := by
  induction l with
  | nil =>
    rw [List.nil_append, look_cons]
    by_cases e : k = x
    · subst e; simp [look]
    · rw [if_neg e, if_neg (Ne.symm e)]; rfl
  | cons p l ih =>
    rw [List.cons_append, look_cons, look_cons, ih]
    split <;> rfl
theorem look_repl (kvs : List (κ × α)) (k : κ) (v : α) (x : κ) : look (kvs.map fun kv => if kv.1 = k then (kv.1, v) else kv) x = if x = k then (look kvs x).map (fun _ => v) else look kvs x := by
  induction kvs with
  | nil => simp [look]
  | cons q kvs ih =>
    rw [List.map_cons, look_cons, look_cons, ih]
    by_cases e2 : q.1 = k
    · rw [if_pos e2]
      by_cases ex : x = k
      · subst ex; simp [e2]
      · simp only [e2]
        rw [if_neg (Ne.symm ex), if_neg (Ne.symm ex), if_neg ex]
    · rw [if_neg e2]
      by_cases ex : x = k
      · subst ex; simp [e2]
      · simp [ex]
theorem look_put (kvs : List (κ × α)) (k : κ) (v : α) (x : κ) : look (put kvs k v) x = if x = k then some v else look kvs x := by
  unfold put
  rw [any_key]
  by_cases h : (look kvs k).isSome = true
  · rw [if_pos h, look_repl]
    by_cases ex : x = k
    · subst ex
      obtain ⟨u, hu⟩ := Option.isSome_iff_exists.mp h
      simp [hu]
    · simp [ex]
  · rw [if_neg h, look_app]
    by_cases ex : x = k
    · subst ex
      cases hu : look kvs x with
      | none => simp
      | some u => rw [hu] at h; exact absurd rfl h
    · rw [if_neg ex, if_neg ex]
      cases look kvs x <;> rfl
theorem look_drop (kvs : List (κ × α)) (k : κ) (x : κ) : look (drop kvs k) x = if x = k then none else look kvs x := by
  unfold drop
  induction kvs with
  | nil => simp [look]
  | cons p kvs ih =>
    rw [look_cons]
    by_cases e : p.1 = k
    · rw [List.filter_cons_of_neg (by simp [e]), ih]
      by_cases ex : x = k
      · rw [if_pos ex, if_pos ex]
      · rw [if_neg ex, if_neg ex, if_neg (by rw [e]; exact Ne.symm ex)]
    · rw [List.filter_cons_of_pos (by simp [e]), look_cons, ih]
      by_cases ex : x = k
      · subst ex; simp [e]
      · simp [ex]
theorem put_len (kvs : List (κ × α)) (k : κ) (v : α) : (put kvs k v).length ≤ kvs.length + 1 := by
  unfold put
  split <;> simp
theorem drop_len (kvs : List (κ × α)) (k : κ) : (drop kvs k).length ≤ kvs.length := List.length_filter_le ..
theorem mem_put {kvs : List (κ × α)} {k : κ} {v : α} {p : κ × α} (h : p ∈ put kvs k v) : p = (k, v) ∨ (p ∈ kvs ∧ p.1 ≠ k) := by
  unfold put at h
  split at h
  · obtain ⟨q, hq, e⟩ := List.mem_map.mp h
    by_cases hk : q.1 = k
    · rw [if_pos hk] at e; rw [← e, hk]; exact .inl rfl
    · rw [if_neg hk] at e; rw [← e]; exact .inr ⟨hq, hk⟩
  · rename_i ha
    rcases List.mem_append.mp h with h | h
    · refine .inr ⟨h, fun e => ha (List.any_eq_true.mpr ⟨p, h, by simpa using e⟩)⟩
    · exact .inl (List.mem_singleton.mp h)
theorem put_keys (kvs : List (κ × α)) (k : κ) (v : α) : (put kvs k v).map (·.1) = if k ∈ kvs.map (·.1) then kvs.map (·.1) else kvs.map (·.1) ++ [k] := by
  unfold put
  rw [any_key]
  cases e : look kvs k with
  | none => simp [look_none.mp e, -List.mem_map]
  | some u =>
    have := List.mem_map_of_mem (f := (·.1)) (look_some e)
    simp only [Option.isSome_some, if_true]
    rw [if_pos this, List.map_map]
    exact List.map_congr_left fun p _ => by
      show (if p.1 = k then (p.1, v) else p).1 = p.1
      split <;> rfl
theorem put_nodup {kvs : List (κ × α)} {k : κ} {v : α} (h : (kvs.map (·.1)).Nodup) : ((put kvs k v).map (·.1)).Nodup := by
  rw [put_keys]
  split
  · exact h
  · rename_i hk
    refine List.nodup_append.mpr ⟨h, by simp, fun x hx y hy => ?_⟩
    rw [List.mem_singleton.mp hy]
    rintro rfl
    exact hk hx
theorem drop_nodup {kvs : List (κ × α)} {k : κ} (h : (kvs.map (·.1)).Nodup) : ((drop kvs k).map (·.1)).Nodup := by
  unfold drop
  exact (List.filter_sublist.map _).nodup h
theorem put_new {kvs : List (κ × α)} {k : κ} {v : α} (h : k ∉ kvs.map (·.1)) : put kvs k v = kvs ++ [(k, v)] := by
  unfold put
  rw [any_key, look_none.mpr h]
  simp
theorem put_old {kvs : List (κ × α)} {k : κ} {v : α} (h : k ∈ kvs.map (·.1)) : put kvs k v = kvs.map fun kv => if kv.1 = k then (kv.1, v) else kv := by
  unfold put
  rw [any_key]
  obtain ⟨u, hu⟩ := look_in h
  simp [hu]
theorem merge_app : ∀ (more kvs : List (κ × α)), ((kvs ++ more).map (·.1)).Nodup → merge kvs more = kvs ++ more
  | [], kvs, _ => by simp [merge]
  | (k, v) :: r, kvs, h => by
    have hk : k ∉ kvs.map (·.1) := by
      rw [List.map_append] at h
      exact fun z => (List.nodup_append.mp h).2.2 k z k (by simp) rfl
    rw [merge, put_new hk, merge_app r (kvs ++ [(k, v)]) (by simpa using h)]
    simp
theorem merge_nil {kvs : List (κ × α)} (h : (kvs.map (·.1)).Nodup) : merge [] kvs = kvs := by
  rw [merge_app kvs [] (by simpa using h)]
  rfl
theorem look_merge : ∀ (more kvs : List (κ × α)) (x : κ), look (merge kvs more) x = (look more.reverse x).orElse fun _ => look kvs x
  | [], kvs, x => rfl
  | (k, v) :: r, kvs, x => by
    rw [merge, look_merge r, look_put, List.reverse_cons, look_app]
    cases look r.reverse x with
    | some u => rfl
    | none => by_cases e : x = k <;> simp [e]
theorem merge_len : ∀ (more kvs : List (κ × α)), (merge kvs more).length ≤ kvs.length + more.length
  | [], kvs => by simp [merge]
  | (k, v) :: r, kvs => by
    have := merge_len r (put kvs k v)
    have := put_len kvs k v
    rw [merge]
    simp only [List.length_cons]
    omega
theorem look_map (f : α → β) (kvs : List (κ × α)) (k : κ) : look (kvs.map fun p => (p.1, f p.2)) k = (look kvs k).map f := by
  induction kvs with
  | nil => rfl
  | cons p kvs ih =>
    rw [List.map_cons, look_cons, look_cons, ih]
    split <;> rfl
theorem look_mapP (f : κ × α → β) (kvs : List (κ × α)) (k : κ) : look (kvs.map fun p => (p.1, f p)) k = (look kvs k).map fun v => f (k, v) := by
  induction kvs with
  | nil => rfl
  | cons p kvs ih =>
    rw [List.map_cons, look_cons, look_cons, ih]
    by_cases h : p.1 = k
    · subst h; simp
    · simp [h]
theorem put_map (f : α → β) (kvs : List (κ × α)) (k : κ) (v : α) : put (kvs.map fun p => (p.1, f p.2)) k (f v) = (put kvs k v).map fun p => (p.1, f p.2) := by
  unfold put
  rw [any_key, any_key, look_map]
  cases e : look kvs k with
  | none => simp
  | some u =>
    simp only [Option.map_some, Option.isSome_some, if_true, List.map_map]
    refine List.map_congr_left fun p _ => ?_
    show (if p.1 = k then _ else _) = ((if p.1 = k then (p.1, v) else p).1, f (if p.1 = k then (p.1, v) else p).2)
    split <;> rfl
end
/-! ### texts as keys -/
section
variable {α β : Type}
def sK (f : α → D) (kvs : List (Str × α)) : List (Key × D) := kvs.map fun p => (.inr p.1, f p.2)
theorem look_sK (f : α → D) (kvs : List (Str × α)) (x : Str) : look (sK f kvs) (.inr x) = (look kvs x).map f := by
  unfold sK
  induction kvs with
  | nil => rfl
  | cons p kvs ih =>
    rw [List.map_cons, look_cons, look_cons, ih]
    by_cases h : p.1 = x
    · simp [h]
    · rw [if_neg (fun z => h (Sum.inr.inj z)), if_neg h]
theorem keys_sK (f : α → D) (kvs : List (Str × α)) : (sK f kvs).map (·.1) = (kvs.map (·.1)).map Sum.inr := by
  simp [sK, List.map_map, Function.comp_def]
theorem put_sK (f : α → D) (kvs : List (Str × α)) (x : Str) (v : α) : put (sK f kvs) (.inr x) (f v) = sK f (put kvs x v) := by
  by_cases h : x ∈ kvs.map (·.1)
  · rw [put_old h, put_old (by rw [keys_sK]; exact List.mem_map_of_mem h)]
    unfold sK
    rw [List.map_map, List.map_map]
    refine List.map_congr_left fun p _ => ?_
    show (if Sum.inr p.1 = (Sum.inr x : Key) then _ else _) = (Sum.inr (if p.1 = x then (p.1, v) else p).1, f (if p.1 = x then (p.1, v) else p).2)
    by_cases e : p.1 = x
    · simp [e]
    · rw [if_neg (fun z => e (Sum.inr.inj z)), if_neg e]
  · rw [put_new h, put_new (by rw [keys_sK]; exact fun z => by obtain ⟨y, hy, e⟩ := List.mem_map.mp z; cases e; exact h hy)]
    simp [sK]
theorem len_sK (f : α → D) (kvs : List (Str × α)) : (sK f kvs).length = kvs.length := by simp [sK]
theorem nd_sK (f : α → D) {kvs : List (Str × α)} (h : (kvs.map (·.1)).Nodup) : ((sK f kvs).map (·.1)).Nodup := by
  rw [keys_sK]
  exact List.Pairwise.map _ (fun _ _ n e => n (Sum.inr.inj e)) h
/-- ints as keys -/
def iK (f : α → D) (kvs : List (Int × α)) : List (Key × D) := kvs.map fun p => (.inl p.1, f p.2)
theorem look_iK (f : α → D) (kvs : List (Int × α)) (x : Int) : look (iK f kvs) (.inl x) = (look kvs x).map f := by
  unfold iK
  induction kvs with
  | nil => rfl
  | cons p kvs ih =>
    rw [List.map_cons, look_cons, look_cons, ih]
    by_cases h : p.1 = x
    · simp [h]
    · rw [if_neg (fun z => h (Sum.inl.inj z)), if_neg h]
theorem keys_iK (f : α → D) (kvs : List (Int × α)) : (iK f kvs).map (·.1) = (kvs.map (·.1)).map Sum.inl := by
  simp [iK, List.map_map, Function.comp_def]
theorem put_iK (f : α → D) (kvs : List (Int × α)) (x : Int) (v : α) : put (iK f kvs) (.inl x) (f v) = iK f (put kvs x v) := by
  by_cases h : x ∈ kvs.map (·.1)
  · rw [put_old h, put_old (by rw [keys_iK]; exact List.mem_map_of_mem h)]
    unfold iK
    rw [List.map_map, List.map_map]
    refine List.map_congr_left fun p _ => ?_
    show (if Sum.inl p.1 = (Sum.inl x : Key) then _ else _) = (Sum.inl (if p.1 = x then (p.1, v) else p).1, f (if p.1 = x then (p.1, v) else p).2)
    by_cases e : p.1 = x
    · simp [e]
    · rw [if_neg (fun z => e (Sum.inl.inj z)), if_neg e]
  · rw [put_new h, put_new (by rw [keys_iK]; exact fun z => by obtain ⟨y, hy, e⟩ := List.mem_map.mp z; cases e; exact h hy)]
    simp [iK]
theorem len_iK (f : α → D) (kvs : List (Int × α)) : (iK f kvs).length = kvs.length := by simp [iK]
end
theorem any_ff {α : Type} (l : List α) : (l.any fun _ => false) = false := by induction l <;> simp_all
theorem all_tt {α : Type} (l : List α) : (l.all fun _ => true) = true := by induction l <;> simp_all
theorem Kp.none {as : List Addr} {G G' : Gp} (k : Kp as G G') {x : Addr} (h : G' x = Option.none) (n : x ∉ as) : G x = Option.none := by
  cases e : G x with
  | none => rfl
  | some g => rw [k x g e n] at h; cases h
theorem Kp.lock {as : List Addr} {G G' : Gp} {l : Addr} {o o' : GO} (k : Kp as (gset G l o') G') (h : G l = some o) : Kp as G (gset G' l o) := fun x g e n => by
  by_cases hx : x = l
  · subst hx
    rw [gset_same, ← h, e]
  · rw [gset_ne hx]
    exact k x g (by rw [gset_ne hx]; exact e) n
theorem nodup_inj {α β : Type} {g : α → β} : ∀ {l : List α}, (l.map g).Nodup → ∀ {x y : α}, x ∈ l → y ∈ l → g x = g y → x = y
  | [], _, _, _, h, _, _ => by cases h
  | z :: l, hn, x, y, hx, hy, e => by
    rw [List.map_cons, List.nodup_cons] at hn
    rcases List.mem_cons.mp hx with h1 | h1 <;> rcases List.mem_cons.mp hy with h2 | h2
    · exact h1.trans h2.symm
    · exact absurd (List.mem_map.mpr ⟨y, h2, by rw [← e, h1]⟩) hn.1
    · exact absurd (List.mem_map.mpr ⟨x, h1, by rw [e, h2]⟩) hn.1
    · exact nodup_inj hn.2 h1 h2 e
theorem put_same {κ α : Type} [DecidableEq κ] {kvs : List (κ × α)} {k : κ} {v : α} (hn : (kvs.map (·.1)).Nodup) (h : look kvs k = some v) : put kvs k v = kvs := by
  rw [put_old (List.mem_map_of_mem (f := (·.1)) (look_some h))]
  have : kvs.map (fun kv => if kv.1 = k then (kv.1, v) else kv) = kvs.map id := List.map_congr_left fun p hp => by
    by_cases e : p.1 = k
    · have h2 := look_mem' hn (show (p.1, p.2) ∈ kvs from hp)
      rw [e, h] at h2
      rw [if_pos e, Option.some.inj h2]
      rfl
    · rw [if_neg e]; rfl
  rw [this, List.map_id]
/-- a value that f takes alike -/
theorem put_alike {κ α β : Type} [DecidableEq κ] {kvs : List (κ × α)} {k : κ} {v w : α} (f : κ × α → β) (hn : (kvs.map (·.1)).Nodup) (h : look kvs k = some v) (e : f (k, w) = f (k, v)) : (put kvs k w).map f = kvs.map f := by
  rw [put_old (List.mem_map_of_mem (f := (·.1)) (look_some h)), List.map_map]
  refine List.map_congr_left fun p hp => ?_
  by_cases e2 : p.1 = k
  · have h2 := look_mem' hn (show (p.1, p.2) ∈ kvs from hp)
    rw [e2, h] at h2
    simp only [Function.comp_def, e2, if_true, e]
    rw [Option.some.inj h2, ← e2]
  · simp [Function.comp_def, e2]
/-! ### runs -/
/-- any(..) of what changes nothing -/
theorem gxAny {δ0 : St3} {g : TG3} {tt : TT3} {te : TE3} {G : Gp} {Q : K3} (b : D → Bool) : ∀ (xs ys : List D), (∀ x ∈ xs, LcStep δ0 g tt te G x true (.bl (b x))) → ys.length + xs.length ≤ sizeLine → Q (.bl (xs.any b)) G →
    GxRun δ0 g tt te (fun y => y = .bl false) (fun y G' => ∃ b, y = .bl b ∧ (b = true → Q (.bl true) G')) (fun _ G' => Q (.bl false) G') xs ys G
  | [], ys, _, _, h => h
  | x :: xs, ys, hs, hl, h => by
    have hl' : ys.length + xs.length + 1 ≤ sizeLine := by simpa [Nat.add_assoc] using hl
    refine hs x (List.mem_cons_self ..) _ _ (fun _ => ⟨by omega, ⟨b x, rfl, fun e => ?_⟩, fun e => ?_⟩) (fun z => by cases z)
    · rw [List.any_cons, e] at h
      exact h
    · have e' : b x = false := by simpa using e
      rw [List.any_cons, e'] at h
      exact gxAny b xs (ys ++ [_]) (fun y hy => hs y (List.mem_cons_of_mem _ hy)) (by simp; omega) (by simpa using h)
theorem gxAnyM {α : Type} {δ0 : St3} {g : TG3} {tt : TT3} {te : TE3} {G : Gp} {Q : K3} (f : α → D) (b : α → Bool) : ∀ (xs : List α) (ys : List D), (∀ x ∈ xs, LcStep δ0 g tt te G (f x) true (.bl (b x))) → ys.length + xs.length ≤ sizeLine → Q (.bl (xs.any b)) G →
    GxRun δ0 g tt te (fun y => y = .bl false) (fun y G' => ∃ b, y = .bl b ∧ (b = true → Q (.bl true) G')) (fun _ G' => Q (.bl false) G') (xs.map f) ys G
  | [], ys, _, _, h => h
  | x :: xs, ys, hs, hl, h => by
    have hl' : ys.length + xs.length + 1 ≤ sizeLine := by simpa [Nat.add_assoc] using hl
    refine hs x (List.mem_cons_self ..) _ _ (fun _ => ⟨by omega, ⟨b x, rfl, fun e => ?_⟩, fun e => ?_⟩) (fun z => by cases z)
    · rw [List.any_cons, e] at h
      exact h
    · have e' : b x = false := by simpa using e
      rw [List.any_cons, e'] at h
      exact gxAnyM f b xs (ys ++ [_]) (fun y hy => hs y (List.mem_cons_of_mem _ hy)) (by simp; omega) (by simpa using h)
theorem gxAllM {α : Type} {δ0 : St3} {g : TG3} {tt : TT3} {te : TE3} {G : Gp} {Q : K3} (f : α → D) (b : α → Bool) : ∀ (xs : List α) (ys : List D), (∀ x ∈ xs, LcStep δ0 g tt te G (f x) true (.bl (b x))) → ys.length + xs.length ≤ sizeLine → Q (.bl (xs.all b)) G →
    GxRun δ0 g tt te (fun y => y = .bl true) (fun y G' => ∃ b, y = .bl b ∧ (b = false → Q (.bl false) G')) (fun _ G' => Q (.bl true) G') (xs.map f) ys G
  | [], ys, _, _, h => h
  | x :: xs, ys, hs, hl, h => by
    have hl' : ys.length + xs.length + 1 ≤ sizeLine := by simpa [Nat.add_assoc] using hl
    refine hs x (List.mem_cons_self ..) _ _ (fun _ => ⟨by omega, ⟨b x, rfl, fun e => ?_⟩, fun e => ?_⟩) (fun z => by cases z)
    · rw [List.all_cons, e] at h
      exact h
    · have e' : b x = true := by simpa using e
      rw [List.all_cons, e'] at h
      exact gxAllM f b xs (ys ++ [_]) (fun y hy => hs y (List.mem_cons_of_mem _ hy)) (by simp; omega) (by simpa using h)
/-- any, all with an invariant of the heap: what the elements do keeps it -/
theorem gxAllI {α : Type} {δ0 : St3} {g : TG3} {tt : TT3} {te : TE3} {Q : K3} (f : α → D) (b : α → Bool) (I : Gp → Prop) : ∀ (xs : List α) (ys : List D) (G : Gp), I G →
    (∀ x ∈ xs, ∀ G, I G → ∀ (K1 : D → Gp → Prop) (K2 : Gp → Prop), (∀ G', I G' → K1 (.bl (b x)) G') → g (f x) δ0 G (fun δ2 G2 => tt δ2 G2 (fun b G3 => if b = true then te δ2 G3 K1 X0 else K2 G3) X0) X0) → ys.length + xs.length ≤ sizeLine → (∀ G', I G' → Q (.bl (xs.all b)) G') →
    GxRun δ0 g tt te (fun y => y = .bl true) (fun y G' => ∃ b, y = .bl b ∧ (b = false → Q (.bl false) G')) (fun _ G' => Q (.bl true) G') (xs.map f) ys G
  | [], ys, G, i, _, _, h => h G i
  | x :: xs, ys, G, i, hs, hl, h => by
    have hl' : ys.length + xs.length + 1 ≤ sizeLine := by simpa [Nat.add_assoc] using hl
    refine hs x (List.mem_cons_self ..) G i _ _ (fun G' i' => ⟨by omega, ⟨b x, rfl, fun e => ?_⟩, fun e => ?_⟩)
    · have h := h G' i'
      rw [List.all_cons, e] at h
      exact h
    · have e' : b x = true := by simpa using e
      refine gxAllI f b I xs (ys ++ [_]) G' i' (fun y hy => hs y (List.mem_cons_of_mem _ hy)) (by simp; omega) (fun G2 i2 => ?_)
      have h := h G2 i2
      rw [List.all_cons, e'] at h
      simpa using h
theorem anyM {α : Type} {δ0 : St3} {g : TG3} {tt : TT3} {te : TE3} {G : Gp} {Q : K3} (f : α → D) (b : α → Bool) (xs : List α) (hs : ∀ x ∈ xs, LcStep δ0 g tt te G (f x) true (.bl (b x))) (hl : xs.length ≤ sizeLine) (h : Q (.bl (xs.any b)) G) : AnyRun δ0 g tt te Q (xs.map f) G :=
  gxAnyM f b xs [] hs (by simpa using hl) h
theorem allM {α : Type} {δ0 : St3} {g : TG3} {tt : TT3} {te : TE3} {G : Gp} {Q : K3} (f : α → D) (b : α → Bool) (xs : List α) (hs : ∀ x ∈ xs, LcStep δ0 g tt te G (f x) true (.bl (b x))) (hl : xs.length ≤ sizeLine) (h : Q (.bl (xs.all b)) G) : AllRun δ0 g tt te Q (xs.map f) G :=
  gxAllM f b xs [] hs (by simpa using hl) h
theorem allI {α : Type} {δ0 : St3} {g : TG3} {tt : TT3} {te : TE3} {G : Gp} {Q : K3} (f : α → D) (b : α → Bool) (I : Gp → Prop) (xs : List α) (i : I G)
    (hs : ∀ x ∈ xs, ∀ G, I G → ∀ (K1 : D → Gp → Prop) (K2 : Gp → Prop), (∀ G', I G' → K1 (.bl (b x)) G') → g (f x) δ0 G (fun δ2 G2 => tt δ2 G2 (fun b G3 => if b = true then te δ2 G3 K1 X0 else K2 G3) X0) X0) (hl : xs.length ≤ sizeLine) (h : ∀ G', I G' → Q (.bl (xs.all b)) G') : AllRun δ0 g tt te Q (xs.map f) G :=
  gxAllI f b I xs [] G i hs (by simpa using hl) h
/-- a comprehension with an invariant of the heap and of what is made -/
theorem lcRunI {α : Type} {δ0 : St3} {g : TG3} {tt : TT3} {te : TE3} {k : List D → Gp → Prop} (f : α → D) (I : List α → List D → Gp → Prop) : ∀ (xs : List α) (acc : List D) (G : Gp), I xs acc G → acc.length + xs.length ≤ sizeLine →
    (∀ x r acc G, I (x :: r) acc G → ∀ (K1 : D → Gp → Prop) (K2 : Gp → Prop), (∀ y G', I r (acc ++ [y]) G' → K1 y G') → (∀ G', I r acc G' → K2 G') → g (f x) δ0 G (fun δ2 G2 => tt δ2 G2 (fun b G3 => if b = true then te δ2 G3 K1 X0 else K2 G3) X0) X0) →
    (∀ acc G, I [] acc G → k acc G) → LcRun δ0 g tt te (xs.map f) acc G k
  | [], acc, G, i, _, _, h => h acc G i
  | x :: xs, acc, G, i, hl, hs, h => by
    have hl' : acc.length + xs.length + 1 ≤ sizeLine := by simpa [Nat.add_assoc] using hl
    exact hs x xs acc G i _ _ (fun y G' i' => ⟨by omega, lcRunI f I xs _ _ i' (by simp; omega) hs h⟩) (fun G' i' => lcRunI f I xs _ _ i' (by omega) hs h)
theorem dcRunM {α : Type} {δ0 : St3} {g : TG3} {tt : TT3} {tk te : TE3} {G : Gp} {k : List (Key × D) → Gp → Prop} (f : α → D) (ky : α → Key) (z : α → D) : ∀ (xs : List α) (acc : List (Key × D)),
    (∀ x ∈ xs, ∀ (N1 : Key → D → Gp → Prop) (N2 : Gp → Prop), N1 (ky x) (z x) G → g (f x) δ0 G (fun δ2 G2 => tt δ2 G2 (fun b G3 => if b = true then tk δ2 G3 (fun y G4 => ∃ k, y = keyD k ∧ te δ2 G4 (fun z G5 => N1 k z G5) X0) X0 else N2 G3) X0) X0) →
    acc.length + xs.length ≤ sizeLine → k (merge acc (xs.map fun x => (ky x, z x))) G → DcRun δ0 g tt tk te (xs.map f) acc G k
  | [], acc, _, _, h => h
  | x :: xs, acc, hs, hl, h => by
    have hl' : acc.length + xs.length + 1 ≤ sizeLine := by simpa [Nat.add_assoc] using hl
    have := put_len acc (ky x) (z x)
    exact hs x (List.mem_cons_self ..) (fun k0 z0 G5 => acc.length < sizeLine ∧ DcRun δ0 g tt tk te (xs.map f) (put acc k0 z0) G5 k) _ ⟨by omega, dcRunM f ky z xs _ (fun y hy => hs y (List.mem_cons_of_mem _ hy)) (by omega) h⟩
end L3
/-! L4o: a if c else b, as a test. -/
namespace L3
open PySem PySem.Spec PyProof.Rows L2
@[simp] def TIfT (t ta tb : TT3) : TT3 := fun δ G Q E => t δ G (fun c G1 => if c = true then ta δ G1 Q E else tb δ G1 Q E) E
section
variable {X : Cx} {Γ : Gm} {W : WX} {c a b : Expr} {pos : Pos} {t ta tb : TT3}
theorem pt_ifExp {t ta tb : TT} (hc : PT X c t) (ha : PT X a ta) (hb : PT X b tb) : PT X (.IfExp c a b pos) (fun σ H Q => t σ H fun k H1 => if k = true then ta σ H1 Q else tb σ H1 Q) := by
  refine ⟨fun pins s σ H Q I h => ?_⟩
  refine isTrue_IfExp (thn (hc.run pins s σ H _ I h) fun d s1 ⟨H1, I1, q1⟩ => ?_)
  cases d with
  | true => exact ha.run pins s1 σ H1 Q I1 q1
  | false => exact hb.run pins s1 σ H1 Q I1 q1
theorem pt3_ifExp (hc : PT3 X Γ W c t) (ha : PT3 X Γ W a ta) (hb : PT3 X Γ W b tb) : PT3 X Γ W (.IfExp c a b pos) (TIfT t ta tb) := by
  refine pt_imp (pt_ifExp hc ha hb) fun σ H Q ⟨δ, G, Q3, E3, R, h1, k, ke⟩ => ?_
  refine ⟨δ, G, _, E3, R, h1, fun c G1 H1 s1 hp1 q1 => ?_, ke⟩
  cases c with
  | true => exact ⟨δ, G1, Q3, E3, R.mono s1 hp1, q1, fun b G' H' s' => k b G' H' (s1.trans s'), fun cls G' H' s' => ke cls G' H' (s1.trans s')⟩
  | false => exact ⟨δ, G1, Q3, E3, R.mono s1 hp1, q1, fun b G' H' s' => k b G' H' (s1.trans s'), fun cls G' H' s' => ke cls G' H' (s1.trans s')⟩
end
end L3
/-! L4p: frames whose names are known by their slots; == of a thing and itself. -/
namespace L3
open PySem PySem.Spec PyProof.Rows L2
theorem slot_bind : ∀ (δ : St3) (i : Nat), slot δ i = (δ[i]?).bind id
  | [], i => by simp
  | x :: xs, 0 => by simp
  | x :: xs, n + 1 => by simpa using slot_bind xs n
@[simp] theorem slot_same {δ : St3} {i : Nat} {x : Option D} (h : i < δ.length) : slot (δ.set i x) i = x := by
  rw [slot_bind]
  simp [h]
@[simp] theorem slot_other {δ : St3} {i j : Nat} {x : Option D} (h : i ≠ j) : slot (δ.set i x) j = slot δ j := by
  rw [slot_bind, slot_bind, List.getElem?_set_ne h]
@[simp] theorem wipe3_nil (δ : St3) : wipe3 δ [] = δ := rfl
@[simp] theorem wipe3_cons (δ : St3) (v : Nat) (vs : List Nat) : wipe3 δ (v :: vs) = (wipe3 δ vs).set v none := rfl
theorem wipe3_length (δ : St3) (vs : List Nat) : (wipe3 δ vs).length = δ.length := by
  induction vs with
  | nil => rfl
  | cons v vs ih => simp [ih]
theorem eq3_refl {d : D} (h : gd 60 d = true) : eq3 d d = true := PySem.SeqAt.eqv_refl (py d) (gd_py 60 d h).1
theorem eq3_like {d e : D} (h : gd 60 d = true) (e1 : py e = py d) : eq3 d e = true ∧ eq3 e d = true := by
  unfold eq3
  rw [e1]
  exact ⟨PySem.SeqAt.eqv_refl (py d) (gd_py 60 d h).1, PySem.SeqAt.eqv_refl (py d) (gd_py 60 d h).1⟩
theorem gd_all {n : Nat} {t : Tag} {xs : List D} (ht : t = .tup ∨ t = .tuF ∨ t = .lst) (h : ∀ x ∈ xs, gd n x = true) : gd (n + 1) (.nod t xs) = true := by
  have : xs.all (gd n) = true := List.all_eq_true.mpr h
  rcases ht with rfl | rfl | rfl <;> simpa [gd] using this
theorem tuK_of {K : PySem.W.Frag} {T : Addr} {its : Array Value} {n : Nat} {slt : Array (Option Value)} {vs : List V} {ds : List D} (l : K.lookup T = some ⟨.type "tuple", none, .seq its n, slt⟩) (hs : its.size ≤ sizeLine) (r : Vals vs its.toList) {Γ : Gm} {H : Hp} {G : Gp} (dl : DatL K Γ H G ds vs) : Dat K Γ H G (.nod .tuK ds) (.ref T) :=
  ⟨T, vs, rfl, ⟨.inr ⟨_, _, _, l, rfl, rfl, hs, r⟩, fun o e => by rw [l] at e; cases e; rfl⟩, dl⟩
/-- the law's rounds, one of them -/
def spRounds1 : Sp3 := fun ds G Q _ => ∃ ns : List Int, ds = [.nod .ro (ns.map .int), .int 1] ∧ ∀ (p : Addr) (G' : Gp), DiceAt G' p → G p = none → Kp [] G G' → Q (.lst [.ref p]) G'
end L3
namespace K10
open PySem PySem.Spec PyProof.Rows L2 L3
structure Ad where
  Registry : Addr
  RowError : Addr
  Schema : Addr
  Shape : Addr
  f_kind_of : Addr
  d_kind_of : FuncData
  f_Shape_init : Addr
  d_Shape_init : FuncData
  f_Shape_kinds : Addr
  d_Shape_kinds : FuncData
  f_Shape_check_row : Addr
  d_Shape_check_row : FuncData
  f_Schema_init : Addr
  d_Schema_init : FuncData
  f_Schema_reads : Addr
  d_Schema_reads : FuncData
  f_Schema_row_from : Addr
  d_Schema_row_from : FuncData
  f_Registry_init : Addr
  d_Registry_init : FuncData
  f_Registry_put_rule : Addr
  d_Registry_put_rule : FuncData
  f_Registry_fits : Addr
  d_Registry_fits : FuncData
  f_Registry_add : Addr
  d_Registry_add : FuncData
  f_Registry_read : Addr
  d_Registry_read : FuncData
  f_law_dice : Addr
  d_law_dice : FuncData
  f_law_roll : Addr
  d_law_roll : FuncData
  f_law_rounds : Addr
  d_law_rounds : FuncData
  f_law_told : Addr
  d_law_told : FuncData
  f_law_schema : Addr
  d_law_schema : FuncData
  f_law_reads : Addr
  d_law_reads : FuncData
  f_law_fits : Addr
  d_law_fits : FuncData
  f_law : Addr
  d_law : FuncData
/-! ### data and promises -/
def z_LETTERS : Str := "\n !\"#$&'()*+,-./0123456789:;<=>?@ABCDEFGHIJKLMNOPQRSTUVWXYZ[\\]^_`abcdefghijklmnopqrstuvwxyz{|}~"
def c_LETTERS : D := .str z_LETTERS
def c_KINDS : D := .nod .tuK [.str "int", .str "text"]
def c_MOST_COLUMNS : D := .int 20
/-- a text of the known signs -/
def StrL (x : Str) : Prop := ∀ c ∈ x.cps.toList, c ∈ z_LETTERS.cps.toList
def KeyL (k : Key) : Prop := ∀ x, k = .inr x → StrL x ∧ StrOk x ∧ x.cps.toList.length ≤ 100
def kD (b : Bool) : D := .str (if b then "int" else "text")
def kindK : Key → Bool
  | .inl _ => true
  | .inr _ => false
abbrev Cols := List (Str × Bool)
abbrev Lack := List (Str × Key)
def colD (c : Str × Bool) : D := .tup [.str c.1, kD c.2]
def colsD (cs : Cols) : List D := cs.map colD
def lackD (ls : Lack) : List (Key × D) := ls.map fun p => (.inr p.1, keyD p.2)
structure ColsOk (cs : Cols) : Prop where
  nd : (cs.map (·.1)).Nodup
  ne : ∀ c ∈ cs, c.1 ≠ "" ∧ StrOk c.1
  ln : cs.length ≤ 20
structure LackOk (ls : Lack) : Prop where
  nd : (ls.map (·.1)).Nodup
  vl : ∀ p ∈ ls, KeyL p.2
  ln : ls.length ≤ 20
def lackFits (cs : Cols) (ls : Lack) : Bool := ls.all fun p => decide (look cs p.1 = some (kindK p.2))
/-- a schema's object a -/
structure SchAt (C S : Addr) (G : Gp) (a : Addr) (cs : Cols) (ls : Lack) : Prop where
  ob : ∃ sh ld, G a = some (.ins C [("shape", .ref sh), ("lacking", .ref ld)]) ∧ G sh = some (.ins S [("columns", .nod .tuF (colsD cs))]) ∧ G ld = some (.dK (lackD ls))
  co : ColsOk cs
  lo : LackOk ls
/-- a schema's dict is not at x -/
def LdNe (G : Gp) (b x : Addr) : Prop := ∀ C sh ld, G b = some (.ins C [("shape", .ref sh), ("lacking", .ref ld)]) → ld ≠ x
/-- rows of the other can be read -/
def readsB (cs : Cols) (ls : Lack) (cs2 : Cols) : Bool := cs.all fun c => match look cs2 c.1 with
  | some k => decide (k = c.2)
  | none => (look ls c.1).isSome
def fitsRow (cs : Cols) (vs : List Key) : Bool := decide (vs.map kindK = cs.map (·.2))
/-- a row of cs2 as one of cs -/
def rowOf (cs : Cols) (ls : Lack) (cs2 : Cols) (vs : List Key) : List D := cs.map fun c => match look ((cs2.map (·.1)).zip vs) c.1 with
  | some v => keyD v
  | none => ((look ls c.1).map keyD).getD .non
def rowD (vs : List Key) : D := .tup (vs.map keyD)
def sp_kind_of (_ : PySem.W.Frag) (_ : Ad) : Sp3 := fun ds G Q _ => ∃ k : Key, ds = [keyD k] ∧ KeyL k ∧ Q (kD (kindK k)) G
def sp_Shape_init (_ : PySem.W.Frag) (a : Ad) : Sp3 := fun ds G Q _ => ∃ (b : Addr) (cs : Cols), ds = [.ref b, .lst (colsD cs)] ∧ G b = some (.ins a.Shape []) ∧ ColsOk cs ∧
  ∀ G', G' b = some (.ins a.Shape [("columns", .nod .tuF (colsD cs))]) → Kp [b] G G' → Q .non G'
def sp_Shape_kinds (_ : PySem.W.Frag) (a : Ad) : Sp3 := fun ds G Q _ => ∃ (b : Addr) (cs : Cols), ds = [.ref b] ∧ G b = some (.ins a.Shape [("columns", .nod .tuF (colsD cs))]) ∧ cs.length ≤ 20 ∧ Q (.nod .tuF (cs.map fun c => kD c.2)) G
def sp_Shape_check_row (_ : PySem.W.Frag) (a : Ad) : Sp3 := fun ds G Q E => ∃ (b : Addr) (cs : Cols) (vs : List Key), ds = [.ref b, rowD vs] ∧ G b = some (.ins a.Shape [("columns", .nod .tuF (colsD cs))]) ∧ cs.length ≤ 20 ∧ vs.length ≤ 20 ∧ (∀ k ∈ vs, KeyL k) ∧
  if fitsRow cs vs = true then Q (rowD vs) G else E (.ref a.RowError) G
def sp_Schema_init (_ : PySem.W.Frag) (a : Ad) : Sp3 := fun ds G Q E => ∃ (b : Addr) (cs : Cols) (x : D) (ls : Lack), ds = [.ref b, .lst (colsD cs), x] ∧ ((∃ l, x = .ref l ∧ G l = some (.dK (lackD ls)) ∧ l ≠ b) ∨ x = .nod .tuK [] ∧ ls = []) ∧ G b = some (.ins a.Schema []) ∧ ColsOk cs ∧ LackOk ls ∧
  ∀ G', Kp [b] G G' → if lackFits cs ls = true then SchAt a.Schema a.Shape G' b cs ls → (∀ u, G u ≠ none → LdNe G' b u) → Q .non G' else E (.ref a.RowError) G'
def sp_Schema_reads (_ : PySem.W.Frag) (a : Ad) : Sp3 := fun ds G Q _ => ∃ (b : Addr) (cs : Cols) (ls : Lack) (b2 : Addr) (cs2 : Cols) (ls2 : Lack), ds = [.ref b, .ref b2] ∧ SchAt a.Schema a.Shape G b cs ls ∧ SchAt a.Schema a.Shape G b2 cs2 ls2 ∧ ∀ G', Kp [] G G' → Q (.bl (readsB cs ls cs2)) G'
def sp_Schema_row_from (_ : PySem.W.Frag) (a : Ad) : Sp3 := fun ds G Q E => ∃ (b : Addr) (cs : Cols) (ls : Lack) (b2 : Addr) (cs2 : Cols) (ls2 : Lack) (vs : List Key), ds = [.ref b, .ref b2, rowD vs] ∧ SchAt a.Schema a.Shape G b cs ls ∧ SchAt a.Schema a.Shape G b2 cs2 ls2 ∧ vs.length ≤ 20 ∧ (∀ k ∈ vs, KeyL k) ∧
  ∀ G', Kp [] G G' → if (readsB cs ls cs2 && fitsRow cs2 vs) = true then Q (.nod .tuF (rowOf cs ls cs2 vs)) G' else E (.ref a.RowError) G'
/-- a schema that is kept: where it stands, what it is -/
abbrev Kept := Addr × Cols × Lack
/-- subjects: where each one's list stands, what is in it -/
abbrev Subj := List (Str × Addr × List Kept)
abbrev Rules := List (Str × Str)
structure RegAt (a : Ad) (G : Gp) (r s u : Addr) (tb : Subj) (ru : Rules) : Prop where
  ob : G r = some (.ins a.Registry [("schemas", .ref s), ("rules", .ref u)])
  os : G s = some (.dK (tb.map fun t => (.inr t.1, .ref t.2.1)))
  ou : G u = some (.dK (ru.map fun p => (.inr p.1, .str p.2)))
  ol : ∀ t ∈ tb, G t.2.1 = some (.lst (t.2.2.map fun k => .ref k.1))
  sc : ∀ t ∈ tb, ∀ k ∈ t.2.2, SchAt a.Schema a.Shape G k.1 k.2.1 k.2.2
  su : ∀ t ∈ tb, ∀ k ∈ t.2.2, LdNe G k.1 u ∧ LdNe G k.1 s
  nu : s ≠ u
  ns : (tb.map (·.1)).Nodup
  nl : (tb.map (·.2.1)).Nodup
  nr : (ru.map (·.1)).Nodup
  so : ∀ t ∈ tb, t.2.2 ≠ []
  rr : ∀ p ∈ ru, p.2 = "back" ∨ p.2 = "forth" ∨ p.2 = "both" ∨ p.2 = "all" ∨ p.2 = "free"
  ln : tb.length ≤ 100 ∧ (∀ t ∈ tb, t.2.2.length ≤ 100) ∧ ru.length ≤ 100
/-- what is kept of a subject -/
def keptOf (tb : Subj) (x : Str) : List Kept := ((look tb x).map (·.2)).getD []
def ruleOf (ru : Rules) (x : Str) : Str := (look ru x).getD "back"
/-- whether a schema may come next -/
def fitsB (rule : Str) (ks : List (Cols × Lack)) (cs : Cols) (ls : Lack) : Bool :=
  match ks.getLast? with
  | none => true
  | some l => if rule = "free" then true else if rule = "all" then ks.all fun k => readsB cs ls k.1
    else (decide (rule = "forth") || readsB cs ls l.1) && (decide (rule = "back") || readsB l.1 l.2 cs)
def sp_Registry_init (_ : PySem.W.Frag) (a : Ad) : Sp3 := fun ds G Q _ => ∃ b : Addr, ds = [.ref b] ∧ G b = some (.ins a.Registry []) ∧ ∀ G' s u, RegAt a G' b s u [] [] → G s = none → G u = none → Kp [b] G G' → Q .non G'
def RuleOk (x : Str) : Prop := x = "back" ∨ x = "forth" ∨ x = "both" ∨ x = "all" ∨ x = "free"
def sp_Registry_put_rule (_ : PySem.W.Frag) (a : Ad) : Sp3 := fun ds G Q E => ∃ (r s u : Addr) (tb : Subj) (ru : Rules) (x y : Str), ds = [.ref r, .str x, .str y] ∧ RegAt a G r s u tb ru ∧ ru.length ≤ 90 ∧ (RuleOk y ∨ y = "fly") ∧
  (RuleOk y → ∀ G' ru', RegAt a G' r s u tb ru' → (∀ z, look ru' z = if z = x then some y else look ru z) → ru'.length ≤ ru.length + 1 → Kp [u] G G' → Q .non G') ∧ (y = "fly" → E (.ref a.RowError) G)
def sp_Registry_fits (_ : PySem.W.Frag) (a : Ad) : Sp3 := fun ds G Q _ => ∃ (r s u : Addr) (tb : Subj) (ru : Rules) (x : Str) (c : Addr) (cs : Cols) (ls : Lack), ds = [.ref r, .str x, .ref c] ∧ RegAt a G r s u tb ru ∧ SchAt a.Schema a.Shape G c cs ls ∧
  ∀ G', Kp [] G G' → Q (.bl (fitsB (ruleOf ru x) ((keptOf tb x).map (·.2)) cs ls)) G'
def sp_Registry_add (_ : PySem.W.Frag) (a : Ad) : Sp3 := fun ds G Q E => ∃ (r s u : Addr) (tb : Subj) (ru : Rules) (x : Str) (c : Addr) (cs : Cols) (ls : Lack), ds = [.ref r, .str x, .ref c] ∧ RegAt a G r s u tb ru ∧ SchAt a.Schema a.Shape G c cs ls ∧ LdNe G c u ∧ LdNe G c s ∧ tb.length ≤ 90 ∧ (∀ t ∈ tb, t.2.2.length ≤ 90) ∧
  if fitsB (ruleOf ru x) ((keptOf tb x).map (·.2)) cs ls = true then
    ∀ G' tb', RegAt a G' r s u tb' ru → (∀ z, keptOf tb' z = if z = x then keptOf tb x ++ [(c, cs, ls)] else keptOf tb z) → tb'.length ≤ tb.length + 1 → Kp (s :: tb.map (·.2.1)) G G' → Q (.int (keptOf tb x).length) G'
  else ∀ G', Kp [] G G' → E (.ref a.RowError) G'
def sp_Registry_read (_ : PySem.W.Frag) (a : Ad) : Sp3 := fun ds G Q E => ∃ (r s u : Addr) (tb : Subj) (ru : Rules) (x : Str) (i : Int) (vs : List Key) (j : Int), ds = [.ref r, .str x, .int i, rowD vs, .int j] ∧ RegAt a G r s u tb ru ∧ vs.length ≤ 20 ∧ (∀ k ∈ vs, KeyL k) ∧
  ∀ G', Kp [] G G' → match (if 0 ≤ i then (keptOf tb x)[i.toNat]? else none), (if 0 ≤ j then (keptOf tb x)[j.toNat]? else none) with
    | some k, some w => if (readsB w.2.1 w.2.2 k.2.1 && fitsRow k.2.1 vs) = true then Q (.nod .tuF (rowOf w.2.1 w.2.2 k.2.1 vs)) G' else E (.ref a.RowError) G'
    | _, _ => E (.ref a.RowError) G'
def sp_law_dice (_ : PySem.W.Frag) (_ : Ad) : Sp3 := spDice
def sp_law_roll (_ : PySem.W.Frag) (_ : Ad) : Sp3 := spRoll
def sp_law_rounds (_ : PySem.W.Frag) (_ : Ad) : Sp3 := spRounds1
/-- the law's own schema: columns, stand-ins in the dict at d -/
abbrev Own := Cols × Lack × Addr
def ownD (o : Own) : D := .tup [.lst (colsD o.1), .ref o.2.2]
structure OwnAt (G : Gp) (o : Own) : Prop where
  at_ : G o.2.2 = some (.dK (lackD o.2.1))
  co : ColsOk o.1
  lo : LackOk o.2.1
  fi : lackFits o.1 o.2.1 = true
  sm : o.1.length ≤ 4
def sp_law_schema (_ : PySem.W.Frag) (_ : Ad) : Sp3 := fun ds G Q _ => ∃ p : Addr, ds = [.ref p] ∧ DiceAt G p ∧ ∀ o G', OwnAt G' o → G o.2.2 = none → DiceAt G' p → Kp [p] G G' → Q (ownD o) G'
def sp_law_reads (_ : PySem.W.Frag) (_ : Ad) : Sp3 := fun ds G Q _ => ∃ o o2 : Own, ds = [ownD o, ownD o2] ∧ OwnAt G o ∧ OwnAt G o2 ∧ ∀ G', Kp [] G G' → Q (.bl (readsB o.1 o.2.1 o2.1)) G'
def sp_law_fits (_ : PySem.W.Frag) (_ : Ad) : Sp3 := fun ds G Q _ => ∃ (rule : Str) (os : List Own) (o : Own), ds = [.str rule, .lst (os.map ownD), ownD o] ∧ (∀ p ∈ os, OwnAt G p) ∧ OwnAt G o ∧ os.length ≤ 100 ∧ ∀ G', Kp [] G G' → Q (.bl (fitsB rule (os.map fun p => (p.1, p.2.1)) o.1 o.2.1)) G'
def sp_law (_ : PySem.W.Frag) (_ : Ad) : Sp3 := fun ds G Q _ => ∃ ns : List Int, ds = [.nod .ro (ns.map .int)] ∧ ns.length ≤ 63 ∧ ∀ G', Q (.bl true) G'
abbrev N_kind_of : List Str := ["value", "sign"]
@[simp] def T_kind_of_r20 (K : PySem.W.Frag) (a : Ad) : TS3 :=
  (TRet (TC (.str "text")))
@[simp] def T_kind_of_r18 (K : PySem.W.Frag) (a : Ad) : TS3 :=
  (TSeq (TIfS (TOr (TNot (TTest (TIsi "str" (TVar 0)))) (TTest (TAnyG (IStr (TVar 0)) (GName 1) TYes (TOp (inC true) (TVar 1) (TC c_LETTERS)) [1]))) (TRaise a.RowError (TCons (TC (.str "no value")) TNil))
  TNext)
  (T_kind_of_r20 K a))
@[simp] def T_kind_of_r16 (K : PySem.W.Frag) (a : Ad) : TS3 :=
  (TSeq (TIfS (TTest (TIsi "int" (TVar 0))) (TRet (TC (.str "int")))
  TNext)
  (T_kind_of_r18 K a))
def T_kind_of (K : PySem.W.Frag) (a : Ad) : TS3 :=
  (TSeq (TIfS (TTest (TIsi "bool" (TVar 0))) (TRaise a.RowError (TCons (TC (.str "no value")) TNil))
  TNext)
  (T_kind_of_r16 K a))
abbrev N_Shape_init : List Str := ["self", "columns", "names", "name", "kind"]
@[simp] def T_Shape_init_r30 (K : PySem.W.Frag) (a : Ad) : TS3 :=
  (TSFld K "columns" (TVar 0) (TVar 1))
@[simp] def T_Shape_init_r28 (K : PySem.W.Frag) (a : Ad) : TS3 :=
  (TSeq (TIfS (TTest (TAnyG (ITup (TVar 1)) (GTup 2 (GCons (GName 3) (GCons (GName 4) GNil))) TYes (TOrV (TOp eqC (TVar 3) (TC (.str ""))) (TOp (inC true) (TVar 4) (TC c_KINDS))) [3, 4])) (TRaise a.RowError (TCons (TC (.str "no columns")) TNil))
  TNext)
  (T_Shape_init_r30 K a))
def T_Shape_init (K : PySem.W.Frag) (a : Ad) : TS3 :=
  (TSeq (TSet (TCB tupFC (TCons (TVar 1) TNil)) 1)
  (TSeq (TSet (TLc (ITup (TVar 1)) (GTup 2 (GCons (GName 3) (GCons (GName 4) GNil))) TYes (TVar 3) [3, 4]) 2)
  (TSeq (TIfS (TOr (TTest (TOp gtR (TCB lenC (TCons (TVar 1) TNil)) (TC c_MOST_COLUMNS))) (TTest (TOp neC (TCB lenC (TCons (TDc (ISeq (TVar 2)) (GName 3) TYes (TVar 3) (TC (.bl true)) [3]) TNil)) (TCB lenC (TCons (TVar 2) TNil))))) (TRaise a.RowError (TCons (TC (.str "no columns")) TNil))
  TNext)
  (T_Shape_init_r28 K a))))
abbrev N_Shape_kinds : List Str := ["self", "name", "kind"]
def T_Shape_kinds (K : PySem.W.Frag) (a : Ad) : TS3 :=
  (TRet (TTupG (ITup (TFld K "columns" (TVar 0))) (GTup 2 (GCons (GName 1) (GCons (GName 2) GNil))) TYes (TVar 2) [1, 2]))
abbrev N_Shape_check_row : List Str := ["self", "row", "value"]
@[simp] def T_Shape_check_row_r41 (K : PySem.W.Frag) (a : Ad) : TS3 :=
  (TRet (TVar 1))
def T_Shape_check_row (K : PySem.W.Frag) (a : Ad) : TS3 :=
  (TSeq (TIfS (TOr (TNot (TTest (TIsi "tuple" (TVar 1)))) (TTest (TOp neC (TTupG (ITup (TVar 1)) (GName 2) TYes (TCall (sp_kind_of K a) [] (TCons (TVar 2) TNil)) [2]) (TMeth a.Shape "kinds" (sp_Shape_kinds K a) [] (TVar 0) TNil)))) (TRaise a.RowError (TCons (TC (.str "no row of these columns")) TNil))
  TNext)
  (T_Shape_check_row_r41 K a))
abbrev N_Schema_init : List Str := ["self", "columns", "lacking", "kinds", "name"]
def T_Schema_init (K : PySem.W.Frag) (a : Ad) : TS3 :=
  (TSeq (TSFld K "shape" (TVar 0) (TMake a.Shape (sp_Shape_init K a) [] (TCons (TVar 1) TNil)))
  (TSeq (TSFld K "lacking" (TVar 0) (TCB dictC2 (TCons (TVar 2) TNil)))
  (TSeq (TSet (TCB dictFC (TCons (TFld K "columns" (TFld K "shape" (TVar 0))) TNil)) 3)
  (TIfS (TTest (TLkE (pthF 0 "lacking") (TAnyG (IKeys (TFld K "lacking" (TVar 0))) (GName 4) TYes (TOrV (TOp (inC true) (TVar 4) (TVar 3)) (TOp neC (TCall (sp_kind_of K a) [] (TCons (TOp subC (TFld K "lacking" (TVar 0)) (TVar 4)) TNil)) (TOp subC (TVar 3) (TVar 4)))) [4]))) (TRaise a.RowError (TCons (TC (.str "it stands for nothing")) TNil))
  TNext))))
abbrev N_Schema_reads : List Str := ["self", "other", "kinds", "name", "kind"]
def T_Schema_reads (K : PySem.W.Frag) (a : Ad) : TS3 :=
  (TSeq (TSet (TCB dictFC (TCons (TFld K "columns" (TFld K "shape" (TVar 1))) TNil)) 2)
  (TRet (TAllG (ITup (TFld K "columns" (TFld K "shape" (TVar 0)))) (GTup 2 (GCons (GName 3) (GCons (GName 4) GNil))) TYes (TIf (TTest (TOp (inC false) (TVar 3) (TVar 2))) (TOp eqC (TOp subC (TVar 2) (TVar 3)) (TVar 4)) (TOp (inC false) (TVar 3) (TFld K "lacking" (TVar 0)))) [3, 4])))
abbrev N_Schema_row_from : List Str := ["self", "other", "row", "values", "place", "column", "name", "kind"]
@[simp] def T_Schema_row_from_r59 (K : PySem.W.Frag) (a : Ad) : TS3 :=
  (TSeq (TDrop (TMeth a.Shape "check_row" (sp_Shape_check_row K a) [] (TFld K "shape" (TVar 1)) (TCons (TVar 2) TNil)))
  (TSeq (TSet (TDc (IEnumF (TCons (TFld K "columns" (TFld K "shape" (TVar 1))) TNil)) (GTup 2 (GCons (GName 4) (GCons (GName 5) GNil))) TYes (TOp subC (TVar 5) (TC (.int 0))) (TOp subC (TVar 2) (TVar 4)) [4, 5]) 3)
  (TRet (TTupG (ITup (TFld K "columns" (TFld K "shape" (TVar 0)))) (GTup 2 (GCons (GName 6) (GCons (GName 7) GNil))) TYes (TGet2C (TVar 3) (TVar 6) (TGet1C (TFld K "lacking" (TVar 0)) (TVar 6))) [6, 7]))))
def T_Schema_row_from (K : PySem.W.Frag) (a : Ad) : TS3 :=
  (TSeq (TIfS (TNot (TTest (TMeth a.Schema "reads" (sp_Schema_reads K a) [] (TVar 0) (TCons (TVar 1) TNil)))) (TRaise a.RowError (TCons (TC (.str "it cannot be read")) TNil))
  TNext)
  (T_Schema_row_from_r59 K a))
abbrev N_Registry_init : List Str := ["self"]
def T_Registry_init (K : PySem.W.Frag) (a : Ad) : TS3 :=
  (TSeq (TSFld K "schemas" (TVar 0) TDNewK)
  (TSFld K "rules" (TVar 0) TDNewK))
abbrev N_Registry_put_rule : List Str := ["self", "subject", "rule"]
@[simp] def T_Registry_put_rule_r71 (K : PySem.W.Frag) (a : Ad) : TS3 :=
  (TAsg (TVar 2) (GSubC (TFld K "rules" (TVar 0)) (TVar 1)))
def T_Registry_put_rule (K : PySem.W.Frag) (a : Ad) : TS3 :=
  (TSeq (TIfS (TTest (TOp (inC true) (TVar 2) (TTup (TCons (TC (.str "back")) (TCons (TC (.str "forth")) (TCons (TC (.str "both")) (TCons (TC (.str "all")) (TCons (TC (.str "free")) TNil)))))))) (TRaise a.RowError (TCons (TC (.str "no rule")) TNil))
  TNext)
  (T_Registry_put_rule_r71 K a))
abbrev N_Registry_fits : List Str := ["self", "subject", "schema", "rule", "rows", "good", "one"]
@[simp] def T_Registry_fits_r79 (K : PySem.W.Frag) (a : Ad) : TS3 :=
  (TSeq (TSet (TOrV (TOp eqC (TVar 3) (TC (.str "forth"))) (TMeth a.Schema "reads" (sp_Schema_reads K a) [] (TVar 2) (TCons (TOp subC (TVar 4) (TUn negR (TC (.int 1)))) TNil))) 5)
  (TRet (TAndV (TVar 5) (TOrV (TOp eqC (TVar 3) (TC (.str "back"))) (TMeth a.Schema "reads" (sp_Schema_reads K a) [] (TOp subC (TVar 4) (TUn negR (TC (.int 1)))) (TCons (TVar 2) TNil))))))
@[simp] def T_Registry_fits_r77 (K : PySem.W.Frag) (a : Ad) : TS3 :=
  (TSeq (TIfS (TTest (TOp eqC (TVar 3) (TC (.str "all")))) (TRet (TLkE (pthV 4) (TAllG (ILk (TVar 4)) (GName 6) TYes (TMeth a.Schema "reads" (sp_Schema_reads K a) [] (TVar 2) (TCons (TVar 6) TNil)) [6])))
  TNext)
  (T_Registry_fits_r79 K a))
def T_Registry_fits (K : PySem.W.Frag) (a : Ad) : TS3 :=
  (TSeq (TPar 3 4 (TCons (TGet2C (TFld K "rules" (TVar 0)) (TVar 1) (TC (.str "back"))) (TCons (TGet2C (TFld K "schemas" (TVar 0)) (TVar 1) (TLst TNil)) TNil)))
  (TSeq (TIfS (TOr (TTest (TOp eqNilR (TVar 4) (TLst TNil))) (TTest (TOp eqC (TVar 3) (TC (.str "free"))))) (TRet (TC (.bl true)))
  TNext)
  (T_Registry_fits_r77 K a)))
abbrev N_Registry_add : List Str := ["self", "subject", "schema"]
@[simp] def T_Registry_add_r85 (K : PySem.W.Frag) (a : Ad) : TS3 :=
  (TSeq (TDrop (TApp (TSetd (TFld K "schemas" (TVar 0)) (TVar 1) (TLstM TNil)) (TCons (TVar 2) TNil)))
  (TRet (TOp subR (TCB lenC (TCons (TOp subC (TFld K "schemas" (TVar 0)) (TVar 1)) TNil)) (TC (.int 1)))))
def T_Registry_add (K : PySem.W.Frag) (a : Ad) : TS3 :=
  (TSeq (TIfS (TNot (TTest (TMeth a.Registry "fits" (sp_Registry_fits K a) [] (TVar 0) (TCons (TVar 1) (TCons (TVar 2) TNil))))) (TRaise a.RowError (TCons (TC (.str "it does not fit")) TNil))
  TNext)
  (T_Registry_add_r85 K a))
abbrev N_Registry_read : List Str := ["self", "subject", "number", "row", "wanted", "rows"]
@[simp] def T_Registry_read_r92 (K : PySem.W.Frag) (a : Ad) : TS3 :=
  (TRet (TMeth a.Schema "row_from" (sp_Schema_row_from K a) [] (TOp subC (TVar 5) (TVar 4)) (TCons (TOp subC (TVar 5) (TVar 2)) (TCons (TVar 3) TNil))))
def T_Registry_read (K : PySem.W.Frag) (a : Ad) : TS3 :=
  (TSeq (TSet (TGet2C (TFld K "schemas" (TVar 0)) (TVar 1) (TLst TNil)) 5)
  (TSeq (TIfS (TOr (TNot (TTest (TChain leR ltR (TC (.int 0)) (TVar 2) (TCB lenC (TCons (TVar 5) TNil))))) (TNot (TTest (TChain leR ltR (TC (.int 0)) (TVar 4) (TCB lenC (TCons (TVar 5) TNil)))))) (TRaise a.RowError (TCons (TC (.str "no such schema")) TNil))
  TNext)
  (T_Registry_read_r92 K a)))
abbrev N_law_dice : List Str := ["cell"]
@[simp] def T_law_dice_r97 (K : PySem.W.Frag) (a : Ad) : TS3 :=
  (TRet (TLstM (TCons (TVar 0) (TCons (TOp addR (TC (.int 1)) (TOp modR (TCB intR (TCons (TVar 0) TNil)) (TC (.int 1009)))) (TCons (TCB intR (TCons (TOp geR (TVar 0) (TOp powR (TC (.int 10)) (TC (.int 18)))) TNil)) TNil)))))
def T_law_dice (K : PySem.W.Frag) (a : Ad) : TS3 :=
  (TSeq (TIfS (TTest (TChain ltR ltR (TOp subR (TC (.int 0)) (TC (.int 10))) (TVar 0) (TC (.int 10)))) (TRet (TLstM (TCons (TCB absR (TCons (TVar 0) TNil)) (TCons (TC (.int 0)) (TCons (TC (.int 2)) TNil)))))
  TNext)
  (T_law_dice_r97 K a))
abbrev N_law_roll : List Str := ["dice", "many", "found"]
@[simp] def T_law_roll_r106 (K : PySem.W.Frag) (a : Ad) : TS3 :=
  (TSeq (TAsg (TOp modR (TCB intR (TCons (TOp addR (TOp addR (TOp mulR (TOp subC (TVar 0) (TC (.int 0))) (TC (.int 48271))) (TOp mulR (TOp subC (TVar 0) (TC (.int 1))) (TC (.int 69621)))) (TC (.int 11))) TNil)) (TC (.int 2147483647))) (GSubC (TVar 0) (TC (.int 0))))
  (TSeq (TAsg (TOp addR (TOp subC (TVar 0) (TC (.int 1))) (TC (.int 1))) (GSubC (TVar 0) (TC (.int 1))))
  (TRet (TOp modR (TCB intR (TCons (TOp fdivR (TOp subC (TVar 0) (TC (.int 0))) (TC (.int 7))) TNil)) (TVar 1)))))
@[simp] def T_law_roll_r103 (K : PySem.W.Frag) (a : Ad) : TS3 :=
  (TSeq (TAsg (TC (.int 0)) (GSubC (TVar 0) (TC (.int 2))))
  (TSeq (TIfS (TTest (TOp gtR (TVar 1) (TC (.int 100000000)))) TDead
  TNext)
  (T_law_roll_r106 K a)))
def T_law_roll (K : PySem.W.Frag) (a : Ad) : TS3 :=
  (TSeq (TIfS (TOr (TTest (TOp eqC (TOp subC (TVar 0) (TC (.int 2))) (TC (.int 2)))) (TAnd (TTest (TOp eqC (TOp subC (TVar 0) (TC (.int 2))) (TC (.int 1)))) (TTest (TOp gtR (TOp subC (TVar 0) (TC (.int 0))) (TC (.int 0)))))) (TSeq (TSet (TOp modR (TCB intR (TCons (TOp subC (TVar 0) (TC (.int 0))) TNil)) (TVar 1)) 2)
  (TSeq (TAsg (TOp fdivR (TOp subC (TVar 0) (TC (.int 0))) (TVar 1)) (GSubC (TVar 0) (TC (.int 0))))
  (TRet (TVar 2))))
  TNext)
  (T_law_roll_r103 K a))
abbrev N_law_rounds : List Str := ["script", "most", "cells", "cell"]
@[simp] def T_law_rounds_r113 (K : PySem.W.Frag) (a : Ad) : TS3 :=
  (TRet (TLc (ISeq (TVar 2)) (GName 3) TYes (TCall (sp_law_dice K a) [] (TCons (TVar 3) TNil)) [3]))
def T_law_rounds (K : PySem.W.Frag) (a : Ad) : TS3 :=
  (TSeq (TSet (TSl (TVar 0) TNoPart (TPart (TVar 1))) 2)
  (TSeq (TIfS (TTest (TOp eqC (TVar 2) (TLst TNil))) (TSet (TLst (TCons (TC (.int 0)) TNil)) 2)
  TNext)
  (T_law_rounds_r113 K a)))
abbrev N_law_told : List Str := ["what"]
abbrev N_law_schema : List Str := ["dice", "cols", "name", "kind"]
def T_law_schema (K : PySem.W.Frag) (a : Ad) : TS3 :=
  (TSeq (TSet (TLc (IStr (TC (.str "abcd"))) (GName 2) (TTest (TOp eqC (TCall (sp_law_roll K a) [] (TCons (TVar 0) (TCons (TC (.int 2)) TNil))) (TC (.int 0)))) (TTup (TCons (TVar 2) (TCons (TOp subC (TLst (TCons (TC (.str "int")) (TCons (TC (.str "text")) TNil))) (TCB intR (TCons (TOp eqC (TCall (sp_law_roll K a) [] (TCons (TVar 0) (TCons (TC (.int 5)) TNil))) (TC (.int 0))) TNil))) TNil))) [2]) 1)
  (TRet (TTup (TCons (TVar 1) (TCons (TCB dictR (TCons (TLc (ISeq (TVar 1)) (GTup 2 (GCons (GName 2) (GCons (GName 3) GNil))) (TTest (TOp gtR (TCall (sp_law_roll K a) [] (TCons (TVar 0) (TCons (TC (.int 3)) TNil))) (TC (.int 0)))) (TTup (TCons (TVar 2) (TCons (TIf (TTest (TOp eqC (TVar 3) (TC (.str "int")))) (TC (.int 7)) (TC (.str "none"))) TNil))) [2, 3]) TNil)) TNil)))))
abbrev N_law_reads : List Str := ["one", "other", "name", "kind"]
def T_law_reads (K : PySem.W.Frag) (a : Ad) : TS3 :=
  (TRet (TOp eqNilR (TLc (ISeq (TOp subC (TVar 0) (TC (.int 0)))) (GTup 2 (GCons (GName 2) (GCons (GName 3) GNil))) (TIfT (TTest (TOp (inC false) (TVar 2) (TCB dictR (TCons (TOp subC (TVar 1) (TC (.int 0))) TNil)))) (TTest (TOp neC (TOp subC (TCB dictR (TCons (TOp subC (TVar 1) (TC (.int 0))) TNil)) (TVar 2)) (TVar 3))) (TTest (TOp (inC true) (TVar 2) (TOp subC (TVar 0) (TC (.int 1)))))) (TVar 2) [2, 3]) (TLst TNil)))
abbrev N_law_fits : List Str := ["rule", "rows", "fresh", "last", "one"]
@[simp] def T_law_fits_r130 (K : PySem.W.Frag) (a : Ad) : TS3 :=
  (TRet (TAndV (TOrV (TOp eqC (TVar 0) (TC (.str "forth"))) (TCall (sp_law_reads K a) [] (TCons (TVar 2) (TCons (TVar 3) TNil)))) (TOrV (TOp eqC (TVar 0) (TC (.str "back"))) (TCall (sp_law_reads K a) [] (TCons (TVar 3) (TCons (TVar 2) TNil))))))
@[simp] def T_law_fits_r127 (K : PySem.W.Frag) (a : Ad) : TS3 :=
  (TSeq (TSet (TOp subC (TVar 1) (TOp subR (TCB lenC (TCons (TVar 1) TNil)) (TC (.int 1)))) 3)
  (TSeq (TIfS (TTest (TOp eqC (TVar 0) (TC (.str "all")))) (TRet (TOp eqNilR (TLc (ISeq (TVar 1)) (GName 4) (TNot (TTest (TCall (sp_law_reads K a) [] (TCons (TVar 2) (TCons (TVar 4) TNil))))) (TVar 4) [4]) (TLst TNil)))
  TNext)
  (T_law_fits_r130 K a)))
def T_law_fits (K : PySem.W.Frag) (a : Ad) : TS3 :=
  (TSeq (TIfS (TOr (TTest (TOp eqNilR (TVar 1) (TLst TNil))) (TTest (TOp eqC (TVar 0) (TC (.str "free"))))) (TRet (TC (.bl true)))
  TNext)
  (T_law_fits_r127 K a))
abbrev N_law : List Str := ["script", "dice", "registry", "rules", "own", "step", "subject", "fresh", "schema", "fits", "rows", "k", "row", "values", "j", "good", "due", "one", "other", "two", "bad", "name", "kind", "f"]
def lams_law (K : PySem.W.Frag) (a : Ad) : List TE3 := [(TMake a.Schema (sp_Schema_init K a) [] (TCons (TLst (TCons (TTup (TCons (TC (.str "a")) (TCons (TC (.str "int")) TNil))) TNil)) (TCons (TDisp [(.inr "b", (TC (.int 1)))]) TNil))), (TMake a.Schema (sp_Schema_init K a) [] (TCons (TLst (TCons (TTup (TCons (TC (.str "a")) (TCons (TC (.str "int")) TNil))) TNil)) (TCons (TDisp [(.inr "a", (TC (.str "x")))]) TNil))), (TMeth a.Registry "put_rule" (sp_Registry_put_rule K a) [] (TVar 19) (TCons (TC (.str "x")) (TCons (TC (.str "fly")) TNil))), (TMeth a.Registry "read" (sp_Registry_read K a) [] (TVar 19) (TCons (TC (.str "x")) (TCons (TC (.int 0)) (TCons (TTup (TCons (TC (.int 1)) TNil)) (TCons (TC (.int 1)) TNil))))), (TMeth a.Registry "read" (sp_Registry_read K a) [] (TVar 19) (TCons (TC (.str "y")) (TCons (TC (.int 0)) (TCons (TTup (TCons (TC (.int 1)) TNil)) (TCons (TC (.int 0)) TNil))))), (TMeth a.Registry "read" (sp_Registry_read K a) [] (TVar 19) (TCons (TC (.str "x")) (TCons (TUn negR (TC (.int 1))) (TCons (TTup (TCons (TC (.int 1)) TNil)) (TCons (TC (.int 0)) TNil))))), (TMeth a.Registry "read" (sp_Registry_read K a) [] (TVar 19) (TCons (TC (.str "x")) (TCons (TC (.int 0)) (TCons (TTup (TCons (TC (.str "z")) TNil)) (TCons (TC (.int 0)) TNil))))), (TMeth a.Registry "add" (sp_Registry_add K a) [] (TVar 19) (TCons (TC (.str "x")) (TCons (TMake a.Schema (sp_Schema_init K a) [.nod .tuK []] (TCons (TLst (TCons (TTup (TCons (TC (.str "b")) (TCons (TC (.str "int")) TNil))) TNil)) TNil)) TNil)))]
def T_law_r147 (K : PySem.W.Frag) (a : Ad) : TS3 :=
  (TAsg (TOp addR (TOp subC (TVar 4) (TVar 6)) (TOp mulR (TLst (TCons (TVar 7) TNil)) (TCB intR (TCons (TVar 9) TNil)))) (GSubC (TVar 4) (TVar 6)))
def T_law_r141 (K : PySem.W.Frag) (a : Ad) : TS3 :=
  (TSeq (TSet (TCall (sp_law_schema K a) [] (TCons (TVar 1) TNil)) 7)
  (TSeq (TSet (TMake a.Schema (sp_Schema_init K a) [] (TCons (TOp subC (TVar 7) (TC (.int 0))) (TCons (TOp subC (TVar 7) (TC (.int 1))) TNil))) 8)
  (TSeq (TSet (TCall (sp_law_fits K a) [] (TCons (TGet2C (TVar 3) (TVar 6) (TC (.str "back"))) (TCons (TOp subC (TVar 4) (TVar 6)) (TCons (TVar 7) TNil)))) 9)
  (TSeq (TIfS (TOr (TTest (TOp neC (TMeth a.Registry "fits" (sp_Registry_fits K a) [] (TVar 2) (TCons (TVar 6) (TCons (TVar 8) TNil))) (TVar 9))) (TTest (TOp neC (TTold3 K a.RowError "RowError" (TMeth a.Registry "add" (sp_Registry_add K a) [] (TVar 2) (TCons (TVar 6) (TCons (TVar 8) TNil)))) (TIf (TTest (TVar 9)) (TCB lenC (TCons (TOp subC (TVar 4) (TVar 6)) TNil)) (TC (.str "RowError")))))) (TRet (TC (.bl false)))
  TNext)
  (T_law_r147 K a)))))
def T_law_134 (K : PySem.W.Frag) (a : Ad) : TS3 :=
  (TSeq (TSet (TOp subC (TC (.str "pq")) (TCall (sp_law_roll K a) [] (TCons (TVar 1) (TCons (TC (.int 2)) TNil)))) 6)
  (TSeq (TIfS (TTest (TOp eqC (TCall (sp_law_roll K a) [] (TCons (TVar 1) (TCons (TC (.int 6)) TNil))) (TC (.int 0)))) (TSeq (TAsg (TOp subC (TLst (TCons (TC (.str "back")) (TCons (TC (.str "forth")) (TCons (TC (.str "both")) (TCons (TC (.str "all")) (TCons (TC (.str "free")) TNil)))))) (TCall (sp_law_roll K a) [] (TCons (TVar 1) (TCons (TC (.int 5)) TNil)))) (GSubC (TVar 3) (TVar 6)))
  (TSeq (TDrop (TMeth a.Registry "put_rule" (sp_Registry_put_rule K a) [] (TVar 2) (TCons (TVar 6) (TCons (TOp subC (TVar 3) (TVar 6)) TNil))))
  (TSeq (TAsg (TOp subC (TVar 4) (TVar 6)) (GSubC (TVar 4) (TVar 6)))
  TCnt)))
  TNext)
  (T_law_r141 K a)))
def T_law_r157 (K : PySem.W.Frag) (a : Ad) : TS3 :=
  (TIfS (TOr (TTest (TOp neC (TMeth a.Schema "reads" (sp_Schema_reads K a) [] (TVar 17) (TCons (TVar 18) TNil)) (TVar 15))) (TOr (TTest (TOp neC (TTold3 K a.RowError "RowError" (TMeth a.Schema "row_from" (sp_Schema_row_from K a) [] (TVar 17) (TCons (TVar 18) (TCons (TVar 12) TNil)))) (TVar 16))) (TTest (TOp neC (TTold3 K a.RowError "RowError" (TMeth a.Registry "read" (sp_Registry_read K a) [] (TVar 2) (TCons (TVar 6) (TCons (TVar 11) (TCons (TVar 12) (TCons (TVar 14) TNil)))))) (TVar 16))))) (TRet (TC (.bl false)))
  TNext)
def T_law_r156 (K : PySem.W.Frag) (a : Ad) : TS3 :=
  (TSeq (TAsg (TTup (TCons (TMake a.Schema (sp_Schema_init K a) [] (TCons (TOp subC (TOp subC (TVar 10) (TVar 14)) (TC (.int 0))) (TCons (TOp subC (TOp subC (TVar 10) (TVar 14)) (TC (.int 1))) TNil))) (TCons (TMake a.Schema (sp_Schema_init K a) [] (TCons (TOp subC (TOp subC (TVar 10) (TVar 11)) (TC (.int 0))) (TCons (TOp subC (TOp subC (TVar 10) (TVar 11)) (TC (.int 1))) TNil))) TNil))) (GI (GTup 2 (GC2 (GName 17) (GC2 (GName 18) GNil)))))
  (T_law_r157 K a))
def T_law_r155 (K : PySem.W.Frag) (a : Ad) : TS3 :=
  (TSeq (TSet (TIf (TTest (TVar 15)) (TCB tupR (TCons (TLc (ISeq (TOp subC (TOp subC (TVar 10) (TVar 14)) (TC (.int 0)))) (GTup 2 (GCons (GName 21) (GCons (GName 22) GNil))) TYes (TGet2C (TVar 13) (TVar 21) (TGet1C (TOp subC (TOp subC (TVar 10) (TVar 14)) (TC (.int 1))) (TVar 21))) [21, 22]) TNil)) (TC (.str "RowError"))) 16)
  (T_law_r156 K a))
def T_law_153 (K : PySem.W.Frag) (a : Ad) : TS3 :=
  (TSeq (TSet (TCall (sp_law_reads K a) [] (TCons (TOp subC (TVar 10) (TVar 14)) (TCons (TOp subC (TVar 10) (TVar 11)) TNil))) 15)
  (T_law_r155 K a))
def T_law_r153 (K : PySem.W.Frag) (a : Ad) : TS3 :=
  (TFor (IRng1 (TCons (TCB lenC (TCons (TVar 10) TNil)) TNil)) (GName 14)
  (T_law_153 K a))
def T_law_r152 (K : PySem.W.Frag) (a : Ad) : TS3 :=
  (TSeq (TSet (TDictZip (TCons (TLc (ISeq (TOp subC (TOp subC (TVar 10) (TVar 11)) (TC (.int 0)))) (GTup 2 (GCons (GName 21) (GCons (GName 22) GNil))) TYes (TVar 21) [21, 22]) (TCons (TVar 12) TNil))) 13)
  (T_law_r153 K a))
def T_law_150 (K : PySem.W.Frag) (a : Ad) : TS3 :=
  (TSeq (TSet (TCB tupR (TCons (TLc (ISeq (TOp subC (TOp subC (TVar 10) (TVar 11)) (TC (.int 0)))) (GTup 2 (GCons (GName 21) (GCons (GName 22) GNil))) TYes (TIf (TTest (TOp eqC (TVar 22) (TC (.str "int")))) (TCall (sp_law_roll K a) [] (TCons (TVar 1) (TCons (TC (.int 9)) TNil))) (TOp addR (TC (.str "t")) (TCB strR (TCons (TCall (sp_law_roll K a) [] (TCons (TVar 1) (TCons (TC (.int 3)) TNil))) TNil)))) [21, 22]) TNil)) 12)
  (T_law_r152 K a))
def T_law_148 (K : PySem.W.Frag) (a : Ad) : TS3 :=
  (TSeq (TSet (TOp subC (TVar 4) (TVar 6)) 10)
  (TFor (IRng1 (TCons (TCB lenC (TCons (TVar 10) TNil)) TNil)) (GName 11)
  (T_law_150 K a)))
def T_law_r148 (K : PySem.W.Frag) (a : Ad) : TS3 :=
  (TLkS (pthV 4) (TFor (IKeys (TVar 4)) (GName 6)
  (T_law_148 K a)))
def T_law_132 (K : PySem.W.Frag) (a : Ad) : TS3 :=
  (TSeq (TAsg (TTup (TCons (TMake a.Registry (sp_Registry_init K a) [] TNil) (TCons TDNewK (TCons (TDisp [(.inr "p", (TLst TNil)), (.inr "q", (TLst TNil))]) TNil)))) (GI (GTup 3 (GC2 (GName 2) (GC2 (GName 3) (GC2 (GName 4) GNil))))))
  (TSeq (TFor (IRng1 (TCons (TCall (sp_law_roll K a) [] (TCons (TVar 1) (TCons (TC (.int 25)) TNil))) TNil)) (GName 5)
  (T_law_134 K a))
  (T_law_r148 K a)))
def T_law_r175 (K : PySem.W.Frag) (a : Ad) : TS3 :=
  (TRet (TAndV (TOp eqC (TLc (ISeq (TVar 20)) (GName 23) (TTest (TOp neC (TToldB K a.RowError "RowError" (TVar 23) [23] (lams_law K a)) (TC (.str "RowError")))) (TC (.int 1)) [23]) (TLst TNil)) (TAndV (TOp eqC (TMeth a.Registry "add" (sp_Registry_add K a) [] (TVar 19) (TCons (TC (.str "x")) (TCons (TMake a.Schema (sp_Schema_init K a) [] (TCons (TLst (TCons (TTup (TCons (TC (.str "a")) (TCons (TC (.str "int")) TNil))) (TCons (TTup (TCons (TC (.str "b")) (TCons (TC (.str "text")) TNil))) TNil))) (TCons (TDisp [(.inr "b", (TC (.str "")))]) TNil))) TNil))) (TC (.int 1))) (TAndV (TOp eqC (TMeth a.Registry "read" (sp_Registry_read K a) [] (TVar 19) (TCons (TC (.str "x")) (TCons (TC (.int 0)) (TCons (TTup (TCons (TC (.int 4)) TNil)) (TCons (TC (.int 1)) TNil))))) (TTup (TCons (TC (.int 4)) (TCons (TC (.str "")) TNil)))) (TOp eqC (TMeth a.Registry "read" (sp_Registry_read K a) [] (TVar 19) (TCons (TC (.str "x")) (TCons (TC (.int 1)) (TCons (TTup (TCons (TC (.int 4)) (TCons (TC (.str "z")) TNil))) (TCons (TC (.int 0)) TNil))))) (TTup (TCons (TC (.int 4)) TNil)))))))
def T_law_r163 (K : PySem.W.Frag) (a : Ad) : TS3 :=
  (TSeq (TSet (TLst (TCons (TClo 0) (TCons (TClo 1) TNil))) 20)
  (TSeq (TSet (TOp addR (TVar 20) (TLst (TCons (TClo 2) (TCons (TClo 3) TNil)))) 20)
  (TSeq (TSet (TOp addR (TVar 20) (TLst (TCons (TClo 4) (TCons (TClo 5) TNil)))) 20)
  (TSeq (TSet (TOp addR (TVar 20) (TLst (TCons (TClo 6) (TCons (TClo 7) TNil)))) 20)
  (T_law_r175 K a)))))
def T_law_r161 (K : PySem.W.Frag) (a : Ad) : TS3 :=
  (TSeq (TSet (TMake a.Registry (sp_Registry_init K a) [] TNil) 19)
  (TSeq (TDrop (TMeth a.Registry "add" (sp_Registry_add K a) [] (TVar 19) (TCons (TC (.str "x")) (TCons (TMake a.Schema (sp_Schema_init K a) [.nod .tuK []] (TCons (TLst (TCons (TTup (TCons (TC (.str "a")) (TCons (TC (.str "int")) TNil))) TNil)) TNil)) TNil))))
  (T_law_r163 K a)))
def T_law (K : PySem.W.Frag) (a : Ad) : TS3 :=
  (TSeq (TFor (ISeq (TCall (sp_law_rounds K a) [] (TCons (TVar 0) (TCons (TC (.int 1)) TNil)))) (GName 1)
  (T_law_132 K a))
  (T_law_r161 K a))
@[simp] theorem sne_0_1 : (("add" : Str) == "check_row") = false := by decide +kernel
@[simp] theorem sne_0_1e : (("add" : Str) = "check_row") = False := eq_false (by decide +kernel)
@[simp] theorem sne_0_2 : (("add" : Str) == "columns") = false := by decide +kernel
@[simp] theorem sne_0_2e : (("add" : Str) = "columns") = False := eq_false (by decide +kernel)
@[simp] theorem sne_0_3 : (("add" : Str) == "fits") = false := by decide +kernel
@[simp] theorem sne_0_3e : (("add" : Str) = "fits") = False := eq_false (by decide +kernel)
@[simp] theorem sne_0_4 : (("add" : Str) == "kinds") = false := by decide +kernel
@[simp] theorem sne_0_4e : (("add" : Str) = "kinds") = False := eq_false (by decide +kernel)
@[simp] theorem sne_0_5 : (("add" : Str) == "lacking") = false := by decide +kernel
@[simp] theorem sne_0_5e : (("add" : Str) = "lacking") = False := eq_false (by decide +kernel)
@[simp] theorem sne_0_6 : (("add" : Str) == "place_of") = false := by decide +kernel
@[simp] theorem sne_0_6e : (("add" : Str) = "place_of") = False := eq_false (by decide +kernel)
@[simp] theorem sne_0_7 : (("add" : Str) == "put_rule") = false := by decide +kernel
@[simp] theorem sne_0_7e : (("add" : Str) = "put_rule") = False := eq_false (by decide +kernel)
@[simp] theorem sne_0_8 : (("add" : Str) == "read") = false := by decide +kernel
@[simp] theorem sne_0_8e : (("add" : Str) = "read") = False := eq_false (by decide +kernel)
@[simp] theorem sne_0_9 : (("add" : Str) == "reads") = false := by decide +kernel
@[simp] theorem sne_0_9e : (("add" : Str) = "reads") = False := eq_false (by decide +kernel)
@[simp] theorem sne_0_10 : (("add" : Str) == "row_from") = false := by decide +kernel
@[simp] theorem sne_0_10e : (("add" : Str) = "row_from") = False := eq_false (by decide +kernel)
@[simp] theorem sne_0_11 : (("add" : Str) == "rules") = false := by decide +kernel
@[simp] theorem sne_0_11e : (("add" : Str) = "rules") = False := eq_false (by decide +kernel)
@[simp] theorem sne_0_12 : (("add" : Str) == "schemas") = false := by decide +kernel
@[simp] theorem sne_0_12e : (("add" : Str) = "schemas") = False := eq_false (by decide +kernel)
@[simp] theorem sne_0_13 : (("add" : Str) == "shape") = false := by decide +kernel
@[simp] theorem sne_0_13e : (("add" : Str) = "shape") = False := eq_false (by decide +kernel)
@[simp] theorem sne_1_0 : (("check_row" : Str) == "add") = false := by decide +kernel
@[simp] theorem sne_1_0e : (("check_row" : Str) = "add") = False := eq_false (by decide +kernel)
@[simp] theorem sne_1_2 : (("check_row" : Str) == "columns") = false := by decide +kernel
@[simp] theorem sne_1_2e : (("check_row" : Str) = "columns") = False := eq_false (by decide +kernel)
@[simp] theorem sne_1_3 : (("check_row" : Str) == "fits") = false := by decide +kernel
@[simp] theorem sne_1_3e : (("check_row" : Str) = "fits") = False := eq_false (by decide +kernel)
@[simp] theorem sne_1_4 : (("check_row" : Str) == "kinds") = false := by decide +kernel
@[simp] theorem sne_1_4e : (("check_row" : Str) = "kinds") = False := eq_false (by decide +kernel)
@[simp] theorem sne_1_5 : (("check_row" : Str) == "lacking") = false := by decide +kernel
@[simp] theorem sne_1_5e : (("check_row" : Str) = "lacking") = False := eq_false (by decide +kernel)
@[simp] theorem sne_1_6 : (("check_row" : Str) == "place_of") = false := by decide +kernel
@[simp] theorem sne_1_6e : (("check_row" : Str) = "place_of") = False := eq_false (by decide +kernel)
@[simp] theorem sne_1_7 : (("check_row" : Str) == "put_rule") = false := by decide +kernel
@[simp] theorem sne_1_7e : (("check_row" : Str) = "put_rule") = False := eq_false (by decide +kernel)
@[simp] theorem sne_1_8 : (("check_row" : Str) == "read") = false := by decide +kernel
@[simp] theorem sne_1_8e : (("check_row" : Str) = "read") = False := eq_false (by decide +kernel)
@[simp] theorem sne_1_9 : (("check_row" : Str) == "reads") = false := by decide +kernel
@[simp] theorem sne_1_9e : (("check_row" : Str) = "reads") = False := eq_false (by decide +kernel)
@[simp] theorem sne_1_10 : (("check_row" : Str) == "row_from") = false := by decide +kernel
@[simp] theorem sne_1_10e : (("check_row" : Str) = "row_from") = False := eq_false (by decide +kernel)
@[simp] theorem sne_1_11 : (("check_row" : Str) == "rules") = false := by decide +kernel
@[simp] theorem sne_1_11e : (("check_row" : Str) = "rules") = False := eq_false (by decide +kernel)
@[simp] theorem sne_1_12 : (("check_row" : Str) == "schemas") = false := by decide +kernel
@[simp] theorem sne_1_12e : (("check_row" : Str) = "schemas") = False := eq_false (by decide +kernel)
@[simp] theorem sne_1_13 : (("check_row" : Str) == "shape") = false := by decide +kernel
@[simp] theorem sne_1_13e : (("check_row" : Str) = "shape") = False := eq_false (by decide +kernel)
@[simp] theorem sne_2_0 : (("columns" : Str) == "add") = false := by decide +kernel
@[simp] theorem sne_2_0e : (("columns" : Str) = "add") = False := eq_false (by decide +kernel)
@[simp] theorem sne_2_1 : (("columns" : Str) == "check_row") = false := by decide +kernel
@[simp] theorem sne_2_1e : (("columns" : Str) = "check_row") = False := eq_false (by decide +kernel)
@[simp] theorem sne_2_3 : (("columns" : Str) == "fits") = false := by decide +kernel
@[simp] theorem sne_2_3e : (("columns" : Str) = "fits") = False := eq_false (by decide +kernel)
@[simp] theorem sne_2_4 : (("columns" : Str) == "kinds") = false := by decide +kernel
@[simp] theorem sne_2_4e : (("columns" : Str) = "kinds") = False := eq_false (by decide +kernel)
@[simp] theorem sne_2_5 : (("columns" : Str) == "lacking") = false := by decide +kernel
@[simp] theorem sne_2_5e : (("columns" : Str) = "lacking") = False := eq_false (by decide +kernel)
@[simp] theorem sne_2_6 : (("columns" : Str) == "place_of") = false := by decide +kernel
@[simp] theorem sne_2_6e : (("columns" : Str) = "place_of") = False := eq_false (by decide +kernel)
@[simp] theorem sne_2_7 : (("columns" : Str) == "put_rule") = false := by decide +kernel
@[simp] theorem sne_2_7e : (("columns" : Str) = "put_rule") = False := eq_false (by decide +kernel)
@[simp] theorem sne_2_8 : (("columns" : Str) == "read") = false := by decide +kernel
@[simp] theorem sne_2_8e : (("columns" : Str) = "read") = False := eq_false (by decide +kernel)
@[simp] theorem sne_2_9 : (("columns" : Str) == "reads") = false := by decide +kernel
@[simp] theorem sne_2_9e : (("columns" : Str) = "reads") = False := eq_false (by decide +kernel)
@[simp] theorem sne_2_10 : (("columns" : Str) == "row_from") = false := by decide +kernel
@[simp] theorem sne_2_10e : (("columns" : Str) = "row_from") = False := eq_false (by decide +kernel)
@[simp] theorem sne_2_11 : (("columns" : Str) == "rules") = false := by decide +kernel
@[simp] theorem sne_2_11e : (("columns" : Str) = "rules") = False := eq_false (by decide +kernel)
@[simp] theorem sne_2_12 : (("columns" : Str) == "schemas") = false := by decide +kernel
@[simp] theorem sne_2_12e : (("columns" : Str) = "schemas") = False := eq_false (by decide +kernel)
@[simp] theorem sne_2_13 : (("columns" : Str) == "shape") = false := by decide +kernel
@[simp] theorem sne_2_13e : (("columns" : Str) = "shape") = False := eq_false (by decide +kernel)
@[simp] theorem sne_3_0 : (("fits" : Str) == "add") = false := by decide +kernel
@[simp] theorem sne_3_0e : (("fits" : Str) = "add") = False := eq_false (by decide +kernel)
@[simp] theorem sne_3_1 : (("fits" : Str) == "check_row") = false := by decide +kernel
@[simp] theorem sne_3_1e : (("fits" : Str) = "check_row") = False := eq_false (by decide +kernel)
@[simp] theorem sne_3_2 : (("fits" : Str) == "columns") = false := by decide +kernel
@[simp] theorem sne_3_2e : (("fits" : Str) = "columns") = False := eq_false (by decide +kernel)
@[simp] theorem sne_3_4 : (("fits" : Str) == "kinds") = false := by decide +kernel
@[simp] theorem sne_3_4e : (("fits" : Str) = "kinds") = False := eq_false (by decide +kernel)
@[simp] theorem sne_3_5 : (("fits" : Str) == "lacking") = false := by decide +kernel
@[simp] theorem sne_3_5e : (("fits" : Str) = "lacking") = False := eq_false (by decide +kernel)
@[simp] theorem sne_3_6 : (("fits" : Str) == "place_of") = false := by decide +kernel
@[simp] theorem sne_3_6e : (("fits" : Str) = "place_of") = False := eq_false (by decide +kernel)
@[simp] theorem sne_3_7 : (("fits" : Str) == "put_rule") = false := by decide +kernel
@[simp] theorem sne_3_7e : (("fits" : Str) = "put_rule") = False := eq_false (by decide +kernel)
@[simp] theorem sne_3_8 : (("fits" : Str) == "read") = false := by decide +kernel
@[simp] theorem sne_3_8e : (("fits" : Str) = "read") = False := eq_false (by decide +kernel)
@[simp] theorem sne_3_9 : (("fits" : Str) == "reads") = false := by decide +kernel
@[simp] theorem sne_3_9e : (("fits" : Str) = "reads") = False := eq_false (by decide +kernel)
@[simp] theorem sne_3_10 : (("fits" : Str) == "row_from") = false := by decide +kernel
@[simp] theorem sne_3_10e : (("fits" : Str) = "row_from") = False := eq_false (by decide +kernel)
@[simp] theorem sne_3_11 : (("fits" : Str) == "rules") = false := by decide +kernel
@[simp] theorem sne_3_11e : (("fits" : Str) = "rules") = False := eq_false (by decide +kernel)
@[simp] theorem sne_3_12 : (("fits" : Str) == "schemas") = false := by decide +kernel
@[simp] theorem sne_3_12e : (("fits" : Str) = "schemas") = False := eq_false (by decide +kernel)
@[simp] theorem sne_3_13 : (("fits" : Str) == "shape") = false := by decide +kernel
@[simp] theorem sne_3_13e : (("fits" : Str) = "shape") = False := eq_false (by decide +kernel)
@[simp] theorem sne_4_0 : (("kinds" : Str) == "add") = false := by decide +kernel
@[simp] theorem sne_4_0e : (("kinds" : Str) = "add") = False := eq_false (by decide +kernel)
@[simp] theorem sne_4_1 : (("kinds" : Str) == "check_row") = false := by decide +kernel
@[simp] theorem sne_4_1e : (("kinds" : Str) = "check_row") = False := eq_false (by decide +kernel)
@[simp] theorem sne_4_2 : (("kinds" : Str) == "columns") = false := by decide +kernel
@[simp] theorem sne_4_2e : (("kinds" : Str) = "columns") = False := eq_false (by decide +kernel)
@[simp] theorem sne_4_3 : (("kinds" : Str) == "fits") = false := by decide +kernel
@[simp] theorem sne_4_3e : (("kinds" : Str) = "fits") = False := eq_false (by decide +kernel)
@[simp] theorem sne_4_5 : (("kinds" : Str) == "lacking") = false := by decide +kernel
@[simp] theorem sne_4_5e : (("kinds" : Str) = "lacking") = False := eq_false (by decide +kernel)
@[simp] theorem sne_4_6 : (("kinds" : Str) == "place_of") = false := by decide +kernel
@[simp] theorem sne_4_6e : (("kinds" : Str) = "place_of") = False := eq_false (by decide +kernel)
@[simp] theorem sne_4_7 : (("kinds" : Str) == "put_rule") = false := by decide +kernel
@[simp] theorem sne_4_7e : (("kinds" : Str) = "put_rule") = False := eq_false (by decide +kernel)
@[simp] theorem sne_4_8 : (("kinds" : Str) == "read") = false := by decide +kernel
@[simp] theorem sne_4_8e : (("kinds" : Str) = "read") = False := eq_false (by decide +kernel)
@[simp] theorem sne_4_9 : (("kinds" : Str) == "reads") = false := by decide +kernel
@[simp] theorem sne_4_9e : (("kinds" : Str) = "reads") = False := eq_false (by decide +kernel)
@[simp] theorem sne_4_10 : (("kinds" : Str) == "row_from") = false := by decide +kernel
@[simp] theorem sne_4_10e : (("kinds" : Str) = "row_from") = False := eq_false (by decide +kernel)
@[simp] theorem sne_4_11 : (("kinds" : Str) == "rules") = false := by decide +kernel
@[simp] theorem sne_4_11e : (("kinds" : Str) = "rules") = False := eq_false (by decide +kernel)
@[simp] theorem sne_4_12 : (("kinds" : Str) == "schemas") = false := by decide +kernel
@[simp] theorem sne_4_12e : (("kinds" : Str) = "schemas") = False := eq_false (by decide +kernel)
@[simp] theorem sne_4_13 : (("kinds" : Str) == "shape") = false := by decide +kernel
@[simp] theorem sne_4_13e : (("kinds" : Str) = "shape") = False := eq_false (by decide +kernel)
@[simp] theorem sne_5_0 : (("lacking" : Str) == "add") = false := by decide +kernel
@[simp] theorem sne_5_0e : (("lacking" : Str) = "add") = False := eq_false (by decide +kernel)
@[simp] theorem sne_5_1 : (("lacking" : Str) == "check_row") = false := by decide +kernel
@[simp] theorem sne_5_1e : (("lacking" : Str) = "check_row") = False := eq_false (by decide +kernel)
@[simp] theorem sne_5_2 : (("lacking" : Str) == "columns") = false := by decide +kernel
@[simp] theorem sne_5_2e : (("lacking" : Str) = "columns") = False := eq_false (by decide +kernel)
@[simp] theorem sne_5_3 : (("lacking" : Str) == "fits") = false := by decide +kernel
@[simp] theorem sne_5_3e : (("lacking" : Str) = "fits") = False := eq_false (by decide +kernel)
@[simp] theorem sne_5_4 : (("lacking" : Str) == "kinds") = false := by decide +kernel
@[simp] theorem sne_5_4e : (("lacking" : Str) = "kinds") = False := eq_false (by decide +kernel)
@[simp] theorem sne_5_6 : (("lacking" : Str) == "place_of") = false := by decide +kernel
@[simp] theorem sne_5_6e : (("lacking" : Str) = "place_of") = False := eq_false (by decide +kernel)
@[simp] theorem sne_5_7 : (("lacking" : Str) == "put_rule") = false := by decide +kernel
@[simp] theorem sne_5_7e : (("lacking" : Str) = "put_rule") = False := eq_false (by decide +kernel)
@[simp] theorem sne_5_8 : (("lacking" : Str) == "read") = false := by decide +kernel
@[simp] theorem sne_5_8e : (("lacking" : Str) = "read") = False := eq_false (by decide +kernel)
@[simp] theorem sne_5_9 : (("lacking" : Str) == "reads") = false := by decide +kernel
@[simp] theorem sne_5_9e : (("lacking" : Str) = "reads") = False := eq_false (by decide +kernel)
@[simp] theorem sne_5_10 : (("lacking" : Str) == "row_from") = false := by decide +kernel
@[simp] theorem sne_5_10e : (("lacking" : Str) = "row_from") = False := eq_false (by decide +kernel)
@[simp] theorem sne_5_11 : (("lacking" : Str) == "rules") = false := by decide +kernel
@[simp] theorem sne_5_11e : (("lacking" : Str) = "rules") = False := eq_false (by decide +kernel)
@[simp] theorem sne_5_12 : (("lacking" : Str) == "schemas") = false := by decide +kernel
@[simp] theorem sne_5_12e : (("lacking" : Str) = "schemas") = False := eq_false (by decide +kernel)
@[simp] theorem sne_5_13 : (("lacking" : Str) == "shape") = false := by decide +kernel
@[simp] theorem sne_5_13e : (("lacking" : Str) = "shape") = False := eq_false (by decide +kernel)
@[simp] theorem sne_6_0 : (("place_of" : Str) == "add") = false := by decide +kernel
@[simp] theorem sne_6_0e : (("place_of" : Str) = "add") = False := eq_false (by decide +kernel)
@[simp] theorem sne_6_1 : (("place_of" : Str) == "check_row") = false := by decide +kernel
@[simp] theorem sne_6_1e : (("place_of" : Str) = "check_row") = False := eq_false (by decide +kernel)
@[simp] theorem sne_6_2 : (("place_of" : Str) == "columns") = false := by decide +kernel
@[simp] theorem sne_6_2e : (("place_of" : Str) = "columns") = False := eq_false (by decide +kernel)
@[simp] theorem sne_6_3 : (("place_of" : Str) == "fits") = false := by decide +kernel
@[simp] theorem sne_6_3e : (("place_of" : Str) = "fits") = False := eq_false (by decide +kernel)
@[simp] theorem sne_6_4 : (("place_of" : Str) == "kinds") = false := by decide +kernel
@[simp] theorem sne_6_4e : (("place_of" : Str) = "kinds") = False := eq_false (by decide +kernel)
@[simp] theorem sne_6_5 : (("place_of" : Str) == "lacking") = false := by decide +kernel
@[simp] theorem sne_6_5e : (("place_of" : Str) = "lacking") = False := eq_false (by decide +kernel)
@[simp] theorem sne_6_7 : (("place_of" : Str) == "put_rule") = false := by decide +kernel
@[simp] theorem sne_6_7e : (("place_of" : Str) = "put_rule") = False := eq_false (by decide +kernel)
@[simp] theorem sne_6_8 : (("place_of" : Str) == "read") = false := by decide +kernel
@[simp] theorem sne_6_8e : (("place_of" : Str) = "read") = False := eq_false (by decide +kernel)
@[simp] theorem sne_6_9 : (("place_of" : Str) == "reads") = false := by decide +kernel
@[simp] theorem sne_6_9e : (("place_of" : Str) = "reads") = False := eq_false (by decide +kernel)
@[simp] theorem sne_6_10 : (("place_of" : Str) == "row_from") = false := by decide +kernel
@[simp] theorem sne_6_10e : (("place_of" : Str) = "row_from") = False := eq_false (by decide +kernel)
@[simp] theorem sne_6_11 : (("place_of" : Str) == "rules") = false := by decide +kernel
@[simp] theorem sne_6_11e : (("place_of" : Str) = "rules") = False := eq_false (by decide +kernel)
@[simp] theorem sne_6_12 : (("place_of" : Str) == "schemas") = false := by decide +kernel
@[simp] theorem sne_6_12e : (("place_of" : Str) = "schemas") = False := eq_false (by decide +kernel)
@[simp] theorem sne_6_13 : (("place_of" : Str) == "shape") = false := by decide +kernel
@[simp] theorem sne_6_13e : (("place_of" : Str) = "shape") = False := eq_false (by decide +kernel)
@[simp] theorem sne_7_0 : (("put_rule" : Str) == "add") = false := by decide +kernel
@[simp] theorem sne_7_0e : (("put_rule" : Str) = "add") = False := eq_false (by decide +kernel)
@[simp] theorem sne_7_1 : (("put_rule" : Str) == "check_row") = false := by decide +kernel
@[simp] theorem sne_7_1e : (("put_rule" : Str) = "check_row") = False := eq_false (by decide +kernel)
@[simp] theorem sne_7_2 : (("put_rule" : Str) == "columns") = false := by decide +kernel
@[simp] theorem sne_7_2e : (("put_rule" : Str) = "columns") = False := eq_false (by decide +kernel)
@[simp] theorem sne_7_3 : (("put_rule" : Str) == "fits") = false := by decide +kernel
@[simp] theorem sne_7_3e : (("put_rule" : Str) = "fits") = False := eq_false (by decide +kernel)
@[simp] theorem sne_7_4 : (("put_rule" : Str) == "kinds") = false := by decide +kernel
@[simp] theorem sne_7_4e : (("put_rule" : Str) = "kinds") = False := eq_false (by decide +kernel)
@[simp] theorem sne_7_5 : (("put_rule" : Str) == "lacking") = false := by decide +kernel
@[simp] theorem sne_7_5e : (("put_rule" : Str) = "lacking") = False := eq_false (by decide +kernel)
@[simp] theorem sne_7_6 : (("put_rule" : Str) == "place_of") = false := by decide +kernel
@[simp] theorem sne_7_6e : (("put_rule" : Str) = "place_of") = False := eq_false (by decide +kernel)
@[simp] theorem sne_7_8 : (("put_rule" : Str) == "read") = false := by decide +kernel
@[simp] theorem sne_7_8e : (("put_rule" : Str) = "read") = False := eq_false (by decide +kernel)
@[simp] theorem sne_7_9 : (("put_rule" : Str) == "reads") = false := by decide +kernel
@[simp] theorem sne_7_9e : (("put_rule" : Str) = "reads") = False := eq_false (by decide +kernel)
@[simp] theorem sne_7_10 : (("put_rule" : Str) == "row_from") = false := by decide +kernel
@[simp] theorem sne_7_10e : (("put_rule" : Str) = "row_from") = False := eq_false (by decide +kernel)
@[simp] theorem sne_7_11 : (("put_rule" : Str) == "rules") = false := by decide +kernel
@[simp] theorem sne_7_11e : (("put_rule" : Str) = "rules") = False := eq_false (by decide +kernel)
@[simp] theorem sne_7_12 : (("put_rule" : Str) == "schemas") = false := by decide +kernel
@[simp] theorem sne_7_12e : (("put_rule" : Str) = "schemas") = False := eq_false (by decide +kernel)
@[simp] theorem sne_7_13 : (("put_rule" : Str) == "shape") = false := by decide +kernel
@[simp] theorem sne_7_13e : (("put_rule" : Str) = "shape") = False := eq_false (by decide +kernel)
@[simp] theorem sne_8_0 : (("read" : Str) == "add") = false := by decide +kernel
@[simp] theorem sne_8_0e : (("read" : Str) = "add") = False := eq_false (by decide +kernel)
@[simp] theorem sne_8_1 : (("read" : Str) == "check_row") = false := by decide +kernel
@[simp] theorem sne_8_1e : (("read" : Str) = "check_row") = False := eq_false (by decide +kernel)
@[simp] theorem sne_8_2 : (("read" : Str) == "columns") = false := by decide +kernel
@[simp] theorem sne_8_2e : (("read" : Str) = "columns") = False := eq_false (by decide +kernel)
@[simp] theorem sne_8_3 : (("read" : Str) == "fits") = false := by decide +kernel
@[simp] theorem sne_8_3e : (("read" : Str) = "fits") = False := eq_false (by decide +kernel)
@[simp] theorem sne_8_4 : (("read" : Str) == "kinds") = false := by decide +kernel
@[simp] theorem sne_8_4e : (("read" : Str) = "kinds") = False := eq_false (by decide +kernel)
@[simp] theorem sne_8_5 : (("read" : Str) == "lacking") = false := by decide +kernel
@[simp] theorem sne_8_5e : (("read" : Str) = "lacking") = False := eq_false (by decide +kernel)
@[simp] theorem sne_8_6 : (("read" : Str) == "place_of") = false := by decide +kernel
@[simp] theorem sne_8_6e : (("read" : Str) = "place_of") = False := eq_false (by decide +kernel)
@[simp] theorem sne_8_7 : (("read" : Str) == "put_rule") = false := by decide +kernel
@[simp] theorem sne_8_7e : (("read" : Str) = "put_rule") = False := eq_false (by decide +kernel)
@[simp] theorem sne_8_9 : (("read" : Str) == "reads") = false := by decide +kernel
@[simp] theorem sne_8_9e : (("read" : Str) = "reads") = False := eq_false (by decide +kernel)
@[simp] theorem sne_8_10 : (("read" : Str) == "row_from") = false := by decide +kernel
@[simp] theorem sne_8_10e : (("read" : Str) = "row_from") = False := eq_false (by decide +kernel)
@[simp] theorem sne_8_11 : (("read" : Str) == "rules") = false := by decide +kernel
@[simp] theorem sne_8_11e : (("read" : Str) = "rules") = False := eq_false (by decide +kernel)
@[simp] theorem sne_8_12 : (("read" : Str) == "schemas") = false := by decide +kernel
@[simp] theorem sne_8_12e : (("read" : Str) = "schemas") = False := eq_false (by decide +kernel)
@[simp] theorem sne_8_13 : (("read" : Str) == "shape") = false := by decide +kernel
@[simp] theorem sne_8_13e : (("read" : Str) = "shape") = False := eq_false (by decide +kernel)
@[simp] theorem sne_9_0 : (("reads" : Str) == "add") = false := by decide +kernel
@[simp] theorem sne_9_0e : (("reads" : Str) = "add") = False := eq_false (by decide +kernel)
@[simp] theorem sne_9_1 : (("reads" : Str) == "check_row") = false := by decide +kernel
@[simp] theorem sne_9_1e : (("reads" : Str) = "check_row") = False := eq_false (by decide +kernel)
@[simp] theorem sne_9_2 : (("reads" : Str) == "columns") = false := by decide +kernel
@[simp] theorem sne_9_2e : (("reads" : Str) = "columns") = False := eq_false (by decide +kernel)
@[simp] theorem sne_9_3 : (("reads" : Str) == "fits") = false := by decide +kernel
@[simp] theorem sne_9_3e : (("reads" : Str) = "fits") = False := eq_false (by decide +kernel)
@[simp] theorem sne_9_4 : (("reads" : Str) == "kinds") = false := by decide +kernel
@[simp] theorem sne_9_4e : (("reads" : Str) = "kinds") = False := eq_false (by decide +kernel)
@[simp] theorem sne_9_5 : (("reads" : Str) == "lacking") = false := by decide +kernel
@[simp] theorem sne_9_5e : (("reads" : Str) = "lacking") = False := eq_false (by decide +kernel)
@[simp] theorem sne_9_6 : (("reads" : Str) == "place_of") = false := by decide +kernel
@[simp] theorem sne_9_6e : (("reads" : Str) = "place_of") = False := eq_false (by decide +kernel)
@[simp] theorem sne_9_7 : (("reads" : Str) == "put_rule") = false := by decide +kernel
@[simp] theorem sne_9_7e : (("reads" : Str) = "put_rule") = False := eq_false (by decide +kernel)
@[simp] theorem sne_9_8 : (("reads" : Str) == "read") = false := by decide +kernel
@[simp] theorem sne_9_8e : (("reads" : Str) = "read") = False := eq_false (by decide +kernel)
@[simp] theorem sne_9_10 : (("reads" : Str) == "row_from") = false := by decide +kernel
@[simp] theorem sne_9_10e : (("reads" : Str) = "row_from") = False := eq_false (by decide +kernel)
@[simp] theorem sne_9_11 : (("reads" : Str) == "rules") = false := by decide +kernel
@[simp] theorem sne_9_11e : (("reads" : Str) = "rules") = False := eq_false (by decide +kernel)
@[simp] theorem sne_9_12 : (("reads" : Str) == "schemas") = false := by decide +kernel
@[simp] theorem sne_9_12e : (("reads" : Str) = "schemas") = False := eq_false (by decide +kernel)
@[simp] theorem sne_9_13 : (("reads" : Str) == "shape") = false := by decide +kernel
@[simp] theorem sne_9_13e : (("reads" : Str) = "shape") = False := eq_false (by decide +kernel)
@[simp] theorem sne_10_0 : (("row_from" : Str) == "add") = false := by decide +kernel
@[simp] theorem sne_10_0e : (("row_from" : Str) = "add") = False := eq_false (by decide +kernel)
@[simp] theorem sne_10_1 : (("row_from" : Str) == "check_row") = false := by decide +kernel
@[simp] theorem sne_10_1e : (("row_from" : Str) = "check_row") = False := eq_false (by decide +kernel)
@[simp] theorem sne_10_2 : (("row_from" : Str) == "columns") = false := by decide +kernel
@[simp] theorem sne_10_2e : (("row_from" : Str) = "columns") = False := eq_false (by decide +kernel)
@[simp] theorem sne_10_3 : (("row_from" : Str) == "fits") = false := by decide +kernel
@[simp] theorem sne_10_3e : (("row_from" : Str) = "fits") = False := eq_false (by decide +kernel)
@[simp] theorem sne_10_4 : (("row_from" : Str) == "kinds") = false := by decide +kernel
@[simp] theorem sne_10_4e : (("row_from" : Str) = "kinds") = False := eq_false (by decide +kernel)
@[simp] theorem sne_10_5 : (("row_from" : Str) == "lacking") = false := by decide +kernel
@[simp] theorem sne_10_5e : (("row_from" : Str) = "lacking") = False := eq_false (by decide +kernel)
@[simp] theorem sne_10_6 : (("row_from" : Str) == "place_of") = false := by decide +kernel
@[simp] theorem sne_10_6e : (("row_from" : Str) = "place_of") = False := eq_false (by decide +kernel)
@[simp] theorem sne_10_7 : (("row_from" : Str) == "put_rule") = false := by decide +kernel
@[simp] theorem sne_10_7e : (("row_from" : Str) = "put_rule") = False := eq_false (by decide +kernel)
@[simp] theorem sne_10_8 : (("row_from" : Str) == "read") = false := by decide +kernel
@[simp] theorem sne_10_8e : (("row_from" : Str) = "read") = False := eq_false (by decide +kernel)
@[simp] theorem sne_10_9 : (("row_from" : Str) == "reads") = false := by decide +kernel
@[simp] theorem sne_10_9e : (("row_from" : Str) = "reads") = False := eq_false (by decide +kernel)
@[simp] theorem sne_10_11 : (("row_from" : Str) == "rules") = false := by decide +kernel
@[simp] theorem sne_10_11e : (("row_from" : Str) = "rules") = False := eq_false (by decide +kernel)
@[simp] theorem sne_10_12 : (("row_from" : Str) == "schemas") = false := by decide +kernel
@[simp] theorem sne_10_12e : (("row_from" : Str) = "schemas") = False := eq_false (by decide +kernel)
@[simp] theorem sne_10_13 : (("row_from" : Str) == "shape") = false := by decide +kernel
@[simp] theorem sne_10_13e : (("row_from" : Str) = "shape") = False := eq_false (by decide +kernel)
@[simp] theorem sne_11_0 : (("rules" : Str) == "add") = false := by decide +kernel
@[simp] theorem sne_11_0e : (("rules" : Str) = "add") = False := eq_false (by decide +kernel)
@[simp] theorem sne_11_1 : (("rules" : Str) == "check_row") = false := by decide +kernel
@[simp] theorem sne_11_1e : (("rules" : Str) = "check_row") = False := eq_false (by decide +kernel)
@[simp] theorem sne_11_2 : (("rules" : Str) == "columns") = false := by decide +kernel
@[simp] theorem sne_11_2e : (("rules" : Str) = "columns") = False := eq_false (by decide +kernel)
@[simp] theorem sne_11_3 : (("rules" : Str) == "fits") = false := by decide +kernel
@[simp] theorem sne_11_3e : (("rules" : Str) = "fits") = False := eq_false (by decide +kernel)
@[simp] theorem sne_11_4 : (("rules" : Str) == "kinds") = false := by decide +kernel
@[simp] theorem sne_11_4e : (("rules" : Str) = "kinds") = False := eq_false (by decide +kernel)
@[simp] theorem sne_11_5 : (("rules" : Str) == "lacking") = false := by decide +kernel
@[simp] theorem sne_11_5e : (("rules" : Str) = "lacking") = False := eq_false (by decide +kernel)
@[simp] theorem sne_11_6 : (("rules" : Str) == "place_of") = false := by decide +kernel
@[simp] theorem sne_11_6e : (("rules" : Str) = "place_of") = False := eq_false (by decide +kernel)
@[simp] theorem sne_11_7 : (("rules" : Str) == "put_rule") = false := by decide +kernel
@[simp] theorem sne_11_7e : (("rules" : Str) = "put_rule") = False := eq_false (by decide +kernel)
@[simp] theorem sne_11_8 : (("rules" : Str) == "read") = false := by decide +kernel
@[simp] theorem sne_11_8e : (("rules" : Str) = "read") = False := eq_false (by decide +kernel)
@[simp] theorem sne_11_9 : (("rules" : Str) == "reads") = false := by decide +kernel
@[simp] theorem sne_11_9e : (("rules" : Str) = "reads") = False := eq_false (by decide +kernel)
@[simp] theorem sne_11_10 : (("rules" : Str) == "row_from") = false := by decide +kernel
@[simp] theorem sne_11_10e : (("rules" : Str) = "row_from") = False := eq_false (by decide +kernel)
@[simp] theorem sne_11_12 : (("rules" : Str) == "schemas") = false := by decide +kernel
@[simp] theorem sne_11_12e : (("rules" : Str) = "schemas") = False := eq_false (by decide +kernel)
@[simp] theorem sne_11_13 : (("rules" : Str) == "shape") = false := by decide +kernel
@[simp] theorem sne_11_13e : (("rules" : Str) = "shape") = False := eq_false (by decide +kernel)
@[simp] theorem sne_12_0 : (("schemas" : Str) == "add") = false := by decide +kernel
@[simp] theorem sne_12_0e : (("schemas" : Str) = "add") = False := eq_false (by decide +kernel)
@[simp] theorem sne_12_1 : (("schemas" : Str) == "check_row") = false := by decide +kernel
@[simp] theorem sne_12_1e : (("schemas" : Str) = "check_row") = False := eq_false (by decide +kernel)
@[simp] theorem sne_12_2 : (("schemas" : Str) == "columns") = false := by decide +kernel
@[simp] theorem sne_12_2e : (("schemas" : Str) = "columns") = False := eq_false (by decide +kernel)
@[simp] theorem sne_12_3 : (("schemas" : Str) == "fits") = false := by decide +kernel
@[simp] theorem sne_12_3e : (("schemas" : Str) = "fits") = False := eq_false (by decide +kernel)
@[simp] theorem sne_12_4 : (("schemas" : Str) == "kinds") = false := by decide +kernel
@[simp] theorem sne_12_4e : (("schemas" : Str) = "kinds") = False := eq_false (by decide +kernel)
@[simp] theorem sne_12_5 : (("schemas" : Str) == "lacking") = false := by decide +kernel
@[simp] theorem sne_12_5e : (("schemas" : Str) = "lacking") = False := eq_false (by decide +kernel)
@[simp] theorem sne_12_6 : (("schemas" : Str) == "place_of") = false := by decide +kernel
@[simp] theorem sne_12_6e : (("schemas" : Str) = "place_of") = False := eq_false (by decide +kernel)
@[simp] theorem sne_12_7 : (("schemas" : Str) == "put_rule") = false := by decide +kernel
@[simp] theorem sne_12_7e : (("schemas" : Str) = "put_rule") = False := eq_false (by decide +kernel)
@[simp] theorem sne_12_8 : (("schemas" : Str) == "read") = false := by decide +kernel
@[simp] theorem sne_12_8e : (("schemas" : Str) = "read") = False := eq_false (by decide +kernel)
@[simp] theorem sne_12_9 : (("schemas" : Str) == "reads") = false := by decide +kernel
@[simp] theorem sne_12_9e : (("schemas" : Str) = "reads") = False := eq_false (by decide +kernel)
@[simp] theorem sne_12_10 : (("schemas" : Str) == "row_from") = false := by decide +kernel
@[simp] theorem sne_12_10e : (("schemas" : Str) = "row_from") = False := eq_false (by decide +kernel)
@[simp] theorem sne_12_11 : (("schemas" : Str) == "rules") = false := by decide +kernel
@[simp] theorem sne_12_11e : (("schemas" : Str) = "rules") = False := eq_false (by decide +kernel)
@[simp] theorem sne_12_13 : (("schemas" : Str) == "shape") = false := by decide +kernel
@[simp] theorem sne_12_13e : (("schemas" : Str) = "shape") = False := eq_false (by decide +kernel)
@[simp] theorem sne_13_0 : (("shape" : Str) == "add") = false := by decide +kernel
@[simp] theorem sne_13_0e : (("shape" : Str) = "add") = False := eq_false (by decide +kernel)
@[simp] theorem sne_13_1 : (("shape" : Str) == "check_row") = false := by decide +kernel
@[simp] theorem sne_13_1e : (("shape" : Str) = "check_row") = False := eq_false (by decide +kernel)
@[simp] theorem sne_13_2 : (("shape" : Str) == "columns") = false := by decide +kernel
@[simp] theorem sne_13_2e : (("shape" : Str) = "columns") = False := eq_false (by decide +kernel)
@[simp] theorem sne_13_3 : (("shape" : Str) == "fits") = false := by decide +kernel
@[simp] theorem sne_13_3e : (("shape" : Str) = "fits") = False := eq_false (by decide +kernel)
@[simp] theorem sne_13_4 : (("shape" : Str) == "kinds") = false := by decide +kernel
@[simp] theorem sne_13_4e : (("shape" : Str) = "kinds") = False := eq_false (by decide +kernel)
@[simp] theorem sne_13_5 : (("shape" : Str) == "lacking") = false := by decide +kernel
@[simp] theorem sne_13_5e : (("shape" : Str) = "lacking") = False := eq_false (by decide +kernel)
@[simp] theorem sne_13_6 : (("shape" : Str) == "place_of") = false := by decide +kernel
@[simp] theorem sne_13_6e : (("shape" : Str) = "place_of") = False := eq_false (by decide +kernel)
@[simp] theorem sne_13_7 : (("shape" : Str) == "put_rule") = false := by decide +kernel
@[simp] theorem sne_13_7e : (("shape" : Str) = "put_rule") = False := eq_false (by decide +kernel)
@[simp] theorem sne_13_8 : (("shape" : Str) == "read") = false := by decide +kernel
@[simp] theorem sne_13_8e : (("shape" : Str) = "read") = False := eq_false (by decide +kernel)
@[simp] theorem sne_13_9 : (("shape" : Str) == "reads") = false := by decide +kernel
@[simp] theorem sne_13_9e : (("shape" : Str) = "reads") = False := eq_false (by decide +kernel)
@[simp] theorem sne_13_10 : (("shape" : Str) == "row_from") = false := by decide +kernel
@[simp] theorem sne_13_10e : (("shape" : Str) = "row_from") = False := eq_false (by decide +kernel)
@[simp] theorem sne_13_11 : (("shape" : Str) == "rules") = false := by decide +kernel
@[simp] theorem sne_13_11e : (("shape" : Str) = "rules") = False := eq_false (by decide +kernel)
@[simp] theorem sne_13_12 : (("shape" : Str) == "schemas") = false := by decide +kernel
@[simp] theorem sne_13_12e : (("shape" : Str) = "schemas") = False := eq_false (by decide +kernel)
end K10
namespace K10
open PySem PySem.Spec PyProof.Rows L2 L3
def top (i : Nat) : Stmt := PySem.Challenge.pw_streamstack_k10_rows_of_other_shapes.main.body.getD i (.Pass ⟨0, 0, 0, 0⟩)
theorem bt_abs : bootBuiltins "abs" = some (.builtin "abs") := by decide +kernel
theorem bt_all : bootBuiltins "all" = some (.builtin "all") := by decide +kernel
theorem bt_any : bootBuiltins "any" = some (.builtin "any") := by decide +kernel
theorem bt_bool : bootBuiltins "bool" = some (.type "bool") := by decide +kernel
theorem bt_dict : bootBuiltins "dict" = some (.type "dict") := by decide +kernel
theorem bt_int : bootBuiltins "int" = some (.type "int") := by decide +kernel
theorem bt_isinstance : bootBuiltins "isinstance" = some (.builtin "isinstance") := by decide +kernel
theorem bt_len : bootBuiltins "len" = some (.builtin "len") := by decide +kernel
theorem bt_str : bootBuiltins "str" = some (.type "str") := by decide +kernel
theorem bt_tuple : bootBuiltins "tuple" = some (.type "tuple") := by decide +kernel
abbrev s_kind_of : Stmt := top 8
abbrev s_Shape_init : Stmt := inClass (top 9) 0
abbrev s_Shape_kinds : Stmt := inClass (top 9) 2
abbrev s_Shape_check_row : Stmt := inClass (top 9) 3
abbrev s_Schema_init : Stmt := inClass (top 11) 0
abbrev s_Schema_reads : Stmt := inClass (top 11) 1
abbrev s_Schema_row_from : Stmt := inClass (top 11) 2
abbrev s_Registry_init : Stmt := inClass (top 12) 0
abbrev s_Registry_put_rule : Stmt := inClass (top 12) 1
abbrev s_Registry_fits : Stmt := inClass (top 12) 2
abbrev s_Registry_add : Stmt := inClass (top 12) 3
abbrev s_Registry_read : Stmt := inClass (top 12) 4
abbrev s_law_dice : Stmt := top 14
abbrev s_law_roll : Stmt := top 15
abbrev s_law_rounds : Stmt := top 16
abbrev s_law_told : Stmt := top 17
abbrev s_law_schema : Stmt := top 18
abbrev s_law_reads : Stmt := top 19
abbrev s_law_fits : Stmt := top 20
abbrev s_law : Stmt := top 21
structure Tx (K : PySem.W.Frag) (mg : Str → Option Value) (a : Ad) : Prop where
  n_abs : mg "abs" = none
  n_all : mg "all" = none
  n_any : mg "any" = none
  n_bool : mg "bool" = none
  n_dict : mg "dict" = none
  n_enumerate : mg "enumerate" = none
  n_int : mg "int" = none
  n_isinstance : mg "isinstance" = none
  n_len : mg "len" = none
  n_range : mg "range" = none
  n_str : mg "str" = none
  n_tuple : mg "tuple" = none
  n_zip : mg "zip" = none
  cg_KINDS : GlobD K mg "KINDS" c_KINDS
  cg_LETTERS : GlobD K mg "LETTERS" c_LETTERS
  cg_MOST_COLUMNS : GlobD K mg "MOST_COLUMNS" c_MOST_COLUMNS
  g_Registry : mg "Registry" = some (.ref a.Registry)
  c_Registry : Cls K a.Registry
  mk_Registry : Mk K a.Registry a.f_Registry_init
  na_Registry_schemas : NoAttr K a.Registry "schemas"
  na_Registry_rules : NoAttr K a.Registry "rules"
  m_Registry_put_rule : Meth K a.Registry "put_rule" a.f_Registry_put_rule
  m_Registry_fits : Meth K a.Registry "fits" a.f_Registry_fits
  m_Registry_add : Meth K a.Registry "add" a.f_Registry_add
  m_Registry_read : Meth K a.Registry "read" a.f_Registry_read
  g_RowError : mg "RowError" = some (.ref a.RowError)
  x_RowError : PySem.W.excIn K a.RowError [.type "ValueError", .type "Exception", .type "BaseException", .type "object"] "ValueError.__new__" = true
  kc_RowError : PySem.W.keepIn K (.ref a.RowError) = true
  xb_RowError : PySem.W.subIn K (.ref a.RowError) (.type "BaseException") = some true
  xt_RowError : PySem.W.typeIn K (.ref a.RowError) = some (.type "type")
  xm_RowError : PySem.W.exmOne K (.ref a.RowError) (.ref a.RowError) = some true
  g_Schema : mg "Schema" = some (.ref a.Schema)
  c_Schema : Cls K a.Schema
  mk_Schema : Mk K a.Schema a.f_Schema_init
  na_Schema_shape : NoAttr K a.Schema "shape"
  na_Schema_lacking : NoAttr K a.Schema "lacking"
  m_Schema_reads : Meth K a.Schema "reads" a.f_Schema_reads
  m_Schema_row_from : Meth K a.Schema "row_from" a.f_Schema_row_from
  g_Shape : mg "Shape" = some (.ref a.Shape)
  c_Shape : Cls K a.Shape
  mk_Shape : Mk K a.Shape a.f_Shape_init
  na_Shape_columns : NoAttr K a.Shape "columns"
  m_Shape_kinds : Meth K a.Shape "kinds" a.f_Shape_kinds
  m_Shape_check_row : Meth K a.Shape "check_row" a.f_Shape_check_row
  b_kind_of : Binds K a.d_kind_of ["value"] []
  g_kind_of : mg "kind_of" = some (.ref a.f_kind_of)
  k_kind_of : PySem.W.keepIn K (.ref a.f_kind_of) = true
  u_kind_of : Fun K "kind_of" "kind_of" s_kind_of a.f_kind_of a.d_kind_of
  b_Shape_init : Binds K a.d_Shape_init ["self", "columns"] []
  u_Shape_init : Fun K "__init__" "Shape.__init__" s_Shape_init a.f_Shape_init a.d_Shape_init
  b_Shape_kinds : Binds K a.d_Shape_kinds ["self"] []
  u_Shape_kinds : Fun K "kinds" "Shape.kinds" s_Shape_kinds a.f_Shape_kinds a.d_Shape_kinds
  b_Shape_check_row : Binds K a.d_Shape_check_row ["self", "row"] []
  u_Shape_check_row : Fun K "check_row" "Shape.check_row" s_Shape_check_row a.f_Shape_check_row a.d_Shape_check_row
  b_Schema_init : Binds K a.d_Schema_init ["self", "columns", "lacking"] []
  dd_Schema_init_1 : ∃ dvs ds, Dflt3 K [.nod .tuK []] dvs ∧ Vals dvs ds ∧ Binds K a.d_Schema_init ["self", "columns", "lacking"] ds
  u_Schema_init : FunA K "__init__" "Schema.__init__" s_Schema_init a.f_Schema_init a.d_Schema_init
  b_Schema_reads : Binds K a.d_Schema_reads ["self", "other"] []
  u_Schema_reads : Fun K "reads" "Schema.reads" s_Schema_reads a.f_Schema_reads a.d_Schema_reads
  b_Schema_row_from : Binds K a.d_Schema_row_from ["self", "other", "row"] []
  u_Schema_row_from : Fun K "row_from" "Schema.row_from" s_Schema_row_from a.f_Schema_row_from a.d_Schema_row_from
  b_Registry_init : Binds K a.d_Registry_init ["self"] []
  u_Registry_init : Fun K "__init__" "Registry.__init__" s_Registry_init a.f_Registry_init a.d_Registry_init
  b_Registry_put_rule : Binds K a.d_Registry_put_rule ["self", "subject", "rule"] []
  u_Registry_put_rule : Fun K "put_rule" "Registry.put_rule" s_Registry_put_rule a.f_Registry_put_rule a.d_Registry_put_rule
  b_Registry_fits : Binds K a.d_Registry_fits ["self", "subject", "schema"] []
  u_Registry_fits : Fun K "fits" "Registry.fits" s_Registry_fits a.f_Registry_fits a.d_Registry_fits
  b_Registry_add : Binds K a.d_Registry_add ["self", "subject", "schema"] []
  u_Registry_add : Fun K "add" "Registry.add" s_Registry_add a.f_Registry_add a.d_Registry_add
  b_Registry_read : Binds K a.d_Registry_read ["self", "subject", "number", "row", "wanted"] []
  u_Registry_read : Fun K "read" "Registry.read" s_Registry_read a.f_Registry_read a.d_Registry_read
  b_law_dice : Binds K a.d_law_dice ["cell"] []
  g_law_dice : mg "_law_dice" = some (.ref a.f_law_dice)
  k_law_dice : PySem.W.keepIn K (.ref a.f_law_dice) = true
  u_law_dice : Fun K "_law_dice" "_law_dice" s_law_dice a.f_law_dice a.d_law_dice
  b_law_roll : Binds K a.d_law_roll ["dice", "many"] []
  g_law_roll : mg "_law_roll" = some (.ref a.f_law_roll)
  k_law_roll : PySem.W.keepIn K (.ref a.f_law_roll) = true
  u_law_roll : Fun K "_law_roll" "_law_roll" s_law_roll a.f_law_roll a.d_law_roll
  b_law_rounds : Binds K a.d_law_rounds ["script", "most"] []
  g_law_rounds : mg "_law_rounds" = some (.ref a.f_law_rounds)
  k_law_rounds : PySem.W.keepIn K (.ref a.f_law_rounds) = true
  u_law_rounds : Fun K "_law_rounds" "_law_rounds" s_law_rounds a.f_law_rounds a.d_law_rounds
  b_law_told : Binds K a.d_law_told ["what"] []
  g_law_told : mg "_law_told" = some (.ref a.f_law_told)
  k_law_told : PySem.W.keepIn K (.ref a.f_law_told) = true
  u_law_told : Fun K "_law_told" "_law_told" s_law_told a.f_law_told a.d_law_told
  b_law_schema : Binds K a.d_law_schema ["dice"] []
  g_law_schema : mg "_law_schema" = some (.ref a.f_law_schema)
  k_law_schema : PySem.W.keepIn K (.ref a.f_law_schema) = true
  u_law_schema : Fun K "_law_schema" "_law_schema" s_law_schema a.f_law_schema a.d_law_schema
  b_law_reads : Binds K a.d_law_reads ["one", "other"] []
  g_law_reads : mg "_law_reads" = some (.ref a.f_law_reads)
  k_law_reads : PySem.W.keepIn K (.ref a.f_law_reads) = true
  u_law_reads : Fun K "_law_reads" "_law_reads" s_law_reads a.f_law_reads a.d_law_reads
  b_law_fits : Binds K a.d_law_fits ["rule", "rows", "fresh"] []
  g_law_fits : mg "_law_fits" = some (.ref a.f_law_fits)
  k_law_fits : PySem.W.keepIn K (.ref a.f_law_fits) = true
  u_law_fits : Fun K "_law_fits" "_law_fits" s_law_fits a.f_law_fits a.d_law_fits
  b_law : Binds K a.d_law ["script"] []
  u_law : Fun K "law" "law" s_law a.f_law a.d_law
section
variable {P : Program} {w : World} {K : PySem.W.Frag} {mg : Str → Option Value} {base : Heap} {a : Ad}
theorem sc_law_told : FnScope N_law_told ["what"] (defScope s_law_told) := ⟨rfl, rfl, rfl, by decide +kernel, rfl, by decide +kernel, by decide +kernel⟩
theorem told_ok (T : Tx K mg a) : ToldF K mg "_law_told" a.f_law_told a.d_law_told s_law_told "RowError" a.RowError "RowError" := ⟨T.u_law_told, T.g_law_told, T.b_law_told, sc_law_told, ⟨_, _, _, _, _, _, _, _, _, rfl⟩, rfl, by decide, T.g_RowError, rfl⟩
theorem sc_kind_of : FnScope N_kind_of ["value"] (defScope s_kind_of) := ⟨rfl, rfl, rfl, by decide +kernel, rfl, by decide +kernel, by decide +kernel⟩
abbrev lq_kind_of : Str := (envOfC "kind_of" (defScope s_kind_of) 0 0 .none).qual ++ "<genexpr>"
theorem w_kind_of (T : Tx K mg a) {Γ : Gm} {P0 c0 : Addr} (TB : LamX.TabB base mg c0 P0) (hT : (P0, lq_kind_of) ∈ Γ.T) (hU : ∀ p ∈ Γ.T, p.1 = P0 → p.2 = lq_kind_of) (cdv : Value) (hcode : cdv = .ref c0) (A : Around) (outer : List Env) (s : Shared) (H : Hp) (E : XK) (hr : Room 2 (A.deeper (envOfC "kind_of" (defScope s_kind_of) s.heap.objs.size a.f_kind_of cdv))) :
    PSs3 (cxOf (L2.CX P w) P w K mg base N_kind_of "kind_of" (defScope s_kind_of) a.f_kind_of cdv A outer s H E) Γ (WE3 E) (defBody s_kind_of) (T_kind_of K a) := by
  have tk : Takes (cxOf (L2.CX P w) P w K mg base N_kind_of "kind_of" (defScope s_kind_of) a.f_kind_of cdv A outer s H E) (WE3 E) := takes_of rfl rfl rfl rfl
  exact (pss3_cons (ps3_if (pt3_val (pe3_isi (n := "bool") (by simp [kTy]) (by rfl) T.n_isinstance (by rfl) T.n_bool bt_bool bt_isinstance (pe3_var (i := 0)))) (pss3_one (ps3_raise rfl tk F.excBase_ValueError T.x_RowError T.g_RowError T.kc_RowError (raises_own T.xb_RowError T.xt_RowError) rfl (pa3_cons pe3_str pa3_nil)))
  pss3_nil)
  (pss3_cons (ps3_if (pt3_val (pe3_isi (n := "int") (by simp [kTy]) (by rfl) T.n_isinstance (by rfl) T.n_int bt_int bt_isinstance (pe3_var (i := 0)))) (pss3_one (ps3_ret pe3_str))
  pss3_nil)
  (pss3_cons (ps3_if (PW3.pt (pw3_or (pt3_not (pt3_val (pe3_isi (n := "str") (by simp [kTy]) (by rfl) T.n_isinstance (by rfl) T.n_str bt_str bt_isinstance (pe3_var (i := 0))))) (pw3_or1 (pt3_val (pe3_anyG (k := 0) (own := [("sign", 1)]) { hr := hr.mono (by decide), TB := TB, code := hcode, tab := hT, one := hU, nd := sc_kind_of.nd, it := (pi3_str (pe3_var (i := 0))), ok := ⟨blkOk_by (own := [("sign", 1)]) (N := N_kind_of ++ []) (sc := defScope s_kind_of) (by decide +kernel), by decide +kernel, rfl, rfl⟩, tgt := fun _ _ _ _ _ _ _ _ _ hrg => (pw3_name (i := 1) (by decide) sc_kind_of.nd rfl (by first | exact Or.inl rfl | exact Or.inr rfl)), tst := fun _ _ _ _ _ _ _ _ _ hrg => pts3_nil, elt := fun _ _ _ _ _ _ _ _ _ hrg => (pe3_cmp (op_notIn4 (hu65 hrg)) sound_notInC (pe3_var (i := 1)) (pe3_globD T.cg_LETTERS (by rfl)) (by with_unfolding_all rfl)) } (by rfl) T.n_any bt_any))))) (pss3_one (ps3_raise rfl tk F.excBase_ValueError T.x_RowError T.g_RowError T.kc_RowError (raises_own T.xb_RowError T.xt_RowError) rfl (pa3_cons pe3_str pa3_nil)))
  pss3_nil)
  (pss3_one (ps3_ret pe3_str)))))
theorem ok_kind_of (T : Tx K mg a) {Γ : Gm} {P0 c0 : Addr} (TB : LamX.TabB base mg c0 P0) (hT : (P0, lq_kind_of) ∈ Γ.T) (hU : ∀ p ∈ Γ.T, p.1 = P0 → p.2 = lq_kind_of) (hc : a.d_kind_of.code = .ref c0) (len : ∀ ds G Q E, sp_kind_of K a ds G Q E → ds.length = 1)
    (pl : ∀ ds G Q3 E3, sp_kind_of K a ds G Q3 E3 → T_kind_of K a { nx := fun _ G' => RetC Q3 .non G', rt := RetC Q3, ex := fun cls _ G' => ExC E3 cls G' } (start3 N_kind_of ds) G) :
    Fn3 Γ P w K mg base 3 a.f_kind_of a.d_kind_of ["value"] (sp_kind_of K a) := fn3 Γ T.u_kind_of.a sc_kind_of len fun cdv A outer s H E hcd hr => ⟨_, w_kind_of T  TB hT hU cdv (hcd.symm.trans hc) A outer s H E hr, pl⟩
theorem sc_Shape_init : FnScope N_Shape_init ["self", "columns"] (defScope s_Shape_init) := ⟨rfl, rfl, rfl, by decide +kernel, rfl, by decide +kernel, by decide +kernel⟩
abbrev lq_Shape_init : Str := (envOfC "Shape.__init__" (defScope s_Shape_init) 0 0 .none).qual ++ "<genexpr>"
theorem w_Shape_init (T : Tx K mg a) {Γ : Gm} {P0 c0 : Addr} (TB : LamX.TabB base mg c0 P0) (hT : (P0, lq_Shape_init) ∈ Γ.T) (hU : ∀ p ∈ Γ.T, p.1 = P0 → p.2 = lq_Shape_init) (cdv : Value) (hcode : cdv = .ref c0) (A : Around) (outer : List Env) (s : Shared) (H : Hp) (E : XK) (hr : Room 2 (A.deeper (envOfC "Shape.__init__" (defScope s_Shape_init) s.heap.objs.size a.f_Shape_init cdv))) :
    PSs3 (cxOf (L2.CX P w) P w K mg base N_Shape_init "Shape.__init__" (defScope s_Shape_init) a.f_Shape_init cdv A outer s H E) Γ (WE3 E) (defBody s_Shape_init) (T_Shape_init K a) := by
  have tk : Takes (cxOf (L2.CX P w) P w K mg base N_Shape_init "Shape.__init__" (defScope s_Shape_init) a.f_Shape_init cdv A outer s H E) (WE3 E) := takes_of rfl rfl rfl rfl
  exact (pss3_cons (ps3_set (i := 1) sc_Shape_init.nd rfl (by first | exact Or.inl rfl | exact Or.inr rfl) (pe3_callTy call_tupF sound_tupF (by rfl) T.n_tuple bt_tuple (pa3_cons (pe3_var (i := 1)) pa3_nil)))
  (pss3_cons (ps3_setLc (i := 2) (own := [("name", 3), ("kind", 4)]) rfl sc_Shape_init.nd rfl rfl (sw_true rfl rfl rfl (by decide +kernel)) (pi3_tup (pe3_var (i := 1))) (blkOk_by (own := [("name", 3), ("kind", 4)]) (N := N_Shape_init) (sc := defScope s_Shape_init) (by decide +kernel)) (fun _ _ _ _ _ => (pw3_tup (n := 2) rfl (pw3s_cons (pw3_name (i := 3) (by decide) sc_Shape_init.nd rfl (by first | exact Or.inl rfl | exact Or.inr rfl)) (pw3s_cons (pw3_name (i := 4) (by decide) sc_Shape_init.nd rfl (by first | exact Or.inl rfl | exact Or.inr rfl)) pw3s_nil)))) (fun _ _ _ _ _ => pts3_nil) (fun _ _ _ _ _ => (pe3_var (i := 3))))
  (pss3_cons (ps3_if (PW3.pt (pw3_or (pt3_cmp op_gt sound_gt (pe3_callB cr_len4 sound_lenC (by rfl) T.n_len bt_len (pa3_cons (pe3_var (i := 1)) pa3_nil)) (pe3_globD T.cg_MOST_COLUMNS (by rfl)) (nomark _)) (pw3_or1 (pt3_cmp (op_ne.or (op_neD (hu64 hr))) sound_neC (pe3_callB cr_len4 sound_lenC (by rfl) T.n_len bt_len (pa3_cons (pe3_dc (own := [("name", 3)]) rfl sc_Shape_init.nd (pi3_list (pe3_var (i := 2))) (blkOk_by (own := [("name", 3)]) (N := N_Shape_init) (sc := defScope s_Shape_init) (by decide +kernel)) (fun _ _ _ _ _ => (pw3_name (i := 3) (by decide) sc_Shape_init.nd rfl (by first | exact Or.inl rfl | exact Or.inr rfl))) (fun _ _ _ _ _ => pts3_nil) (fun _ _ _ _ _ => (pe3_var (i := 3))) (fun _ _ _ _ _ => pe3_bl)) pa3_nil)) (pe3_callB cr_len4 sound_lenC (by rfl) T.n_len bt_len (pa3_cons (pe3_var (i := 2)) pa3_nil)) (nomark _))))) (pss3_one (ps3_raise rfl tk F.excBase_ValueError T.x_RowError T.g_RowError T.kc_RowError (raises_own T.xb_RowError T.xt_RowError) rfl (pa3_cons pe3_str pa3_nil)))
  pss3_nil)
  (pss3_cons (ps3_if (pt3_val (pe3_anyG (k := 0) (own := [("name", 3), ("kind", 4)]) { hr := hr.mono (by decide), TB := TB, code := hcode, tab := hT, one := hU, nd := sc_Shape_init.nd, it := (pi3_tup (pe3_var (i := 1))), ok := ⟨blkOk_by (own := [("name", 3), ("kind", 4)]) (N := N_Shape_init ++ []) (sc := defScope s_Shape_init) (by decide +kernel), by decide +kernel, rfl, rfl⟩, tgt := fun _ _ _ _ _ _ _ _ _ hrg => (pw3_tup (n := 2) rfl (pw3s_cons (pw3_name (i := 3) (by decide) sc_Shape_init.nd rfl (by first | exact Or.inl rfl | exact Or.inr rfl)) (pw3s_cons (pw3_name (i := 4) (by decide) sc_Shape_init.nd rfl (by first | exact Or.inl rfl | exact Or.inr rfl)) pw3s_nil))), tst := fun _ _ _ _ _ _ _ _ _ hrg => pts3_nil, elt := fun _ _ _ _ _ _ _ _ _ hrg => (pe3_or (pe3_cmp (op_eq.or (op_eqD (hu64 hrg))) sound_eqC (pe3_var (i := 3)) pe3_str (nomark _)) (pe3_one (pe3_cmp (op_notIn4 (hu65 hrg)) sound_notInC (pe3_var (i := 4)) (pe3_globD T.cg_KINDS (by rfl)) (by with_unfolding_all rfl)))) } (by rfl) T.n_any bt_any)) (pss3_one (ps3_raise rfl tk F.excBase_ValueError T.x_RowError T.g_RowError T.kc_RowError (raises_own T.xb_RowError T.xt_RowError) rfl (pa3_cons pe3_str pa3_nil)))
  pss3_nil)
  (pss3_one (ps3_fld (pe3_var (i := 0)) (pe3_var (i := 1)) rfl))))))
theorem ok_Shape_init (T : Tx K mg a) {Γ : Gm} {P0 c0 : Addr} (TB : LamX.TabB base mg c0 P0) (hT : (P0, lq_Shape_init) ∈ Γ.T) (hU : ∀ p ∈ Γ.T, p.1 = P0 → p.2 = lq_Shape_init) (hc : a.d_Shape_init.code = .ref c0) (len : ∀ ds G Q E, sp_Shape_init K a ds G Q E → ds.length = 2)
    (pl : ∀ ds G Q3 E3, sp_Shape_init K a ds G Q3 E3 → T_Shape_init K a { nx := fun _ G' => RetC Q3 .non G', rt := RetC Q3, ex := fun cls _ G' => ExC E3 cls G' } (start3 N_Shape_init ds) G) :
    Fn3 Γ P w K mg base 3 a.f_Shape_init a.d_Shape_init ["self", "columns"] (sp_Shape_init K a) := fn3 Γ T.u_Shape_init.a sc_Shape_init len fun cdv A outer s H E hcd hr => ⟨_, w_Shape_init T  TB hT hU cdv (hcd.symm.trans hc) A outer s H E hr, pl⟩
theorem sc_Shape_kinds : FnScope N_Shape_kinds ["self"] (defScope s_Shape_kinds) := ⟨rfl, rfl, rfl, by decide +kernel, rfl, by decide +kernel, by decide +kernel⟩
abbrev lq_Shape_kinds : Str := (envOfC "Shape.kinds" (defScope s_Shape_kinds) 0 0 .none).qual ++ "<genexpr>"
theorem w_Shape_kinds (T : Tx K mg a) {Γ : Gm} {P0 c0 : Addr} (TB : LamX.TabB base mg c0 P0) (hT : (P0, lq_Shape_kinds) ∈ Γ.T) (hU : ∀ p ∈ Γ.T, p.1 = P0 → p.2 = lq_Shape_kinds) (cdv : Value) (hcode : cdv = .ref c0) (A : Around) (outer : List Env) (s : Shared) (H : Hp) (E : XK) (hr : Room 2 (A.deeper (envOfC "Shape.kinds" (defScope s_Shape_kinds) s.heap.objs.size a.f_Shape_kinds cdv))) :
    PSs3 (cxOf (L2.CX P w) P w K mg base N_Shape_kinds "Shape.kinds" (defScope s_Shape_kinds) a.f_Shape_kinds cdv A outer s H E) Γ (WE3 E) (defBody s_Shape_kinds) (T_Shape_kinds K a) := by
  have tk : Takes (cxOf (L2.CX P w) P w K mg base N_Shape_kinds "Shape.kinds" (defScope s_Shape_kinds) a.f_Shape_kinds cdv A outer s H E) (WE3 E) := takes_of rfl rfl rfl rfl
  exact (pss3_one (ps3_ret (pe3_tupG (k := 0) (own := [("name", 1), ("kind", 2)]) { hr := hr.mono (by decide), TB := TB, code := hcode, tab := hT, one := hU, nd := sc_Shape_kinds.nd, it := (pi3_tup (pe3_fld (pe3_var (i := 0)) rfl)), ok := ⟨blkOk_by (own := [("name", 1), ("kind", 2)]) (N := N_Shape_kinds ++ []) (sc := defScope s_Shape_kinds) (by decide +kernel), by decide +kernel, rfl, rfl⟩, tgt := fun _ _ _ _ _ _ _ _ _ hrg => (pw3_tup (n := 2) rfl (pw3s_cons (pw3_name (i := 1) (by decide) sc_Shape_kinds.nd rfl (by first | exact Or.inl rfl | exact Or.inr rfl)) (pw3s_cons (pw3_name (i := 2) (by decide) sc_Shape_kinds.nd rfl (by first | exact Or.inl rfl | exact Or.inr rfl)) pw3s_nil))), tst := fun _ _ _ _ _ _ _ _ _ hrg => pts3_nil, elt := fun _ _ _ _ _ _ _ _ _ hrg => (pe3_var (i := 2)) } (by rfl) T.n_tuple bt_tuple)))
theorem ok_Shape_kinds (T : Tx K mg a) {Γ : Gm} {P0 c0 : Addr} (TB : LamX.TabB base mg c0 P0) (hT : (P0, lq_Shape_kinds) ∈ Γ.T) (hU : ∀ p ∈ Γ.T, p.1 = P0 → p.2 = lq_Shape_kinds) (hc : a.d_Shape_kinds.code = .ref c0) (len : ∀ ds G Q E, sp_Shape_kinds K a ds G Q E → ds.length = 1)
    (pl : ∀ ds G Q3 E3, sp_Shape_kinds K a ds G Q3 E3 → T_Shape_kinds K a { nx := fun _ G' => RetC Q3 .non G', rt := RetC Q3, ex := fun cls _ G' => ExC E3 cls G' } (start3 N_Shape_kinds ds) G) :
    Fn3 Γ P w K mg base 3 a.f_Shape_kinds a.d_Shape_kinds ["self"] (sp_Shape_kinds K a) := fn3 Γ T.u_Shape_kinds.a sc_Shape_kinds len fun cdv A outer s H E hcd hr => ⟨_, w_Shape_kinds T  TB hT hU cdv (hcd.symm.trans hc) A outer s H E hr, pl⟩
theorem sc_Shape_check_row : FnScope N_Shape_check_row ["self", "row"] (defScope s_Shape_check_row) := ⟨rfl, rfl, rfl, by decide +kernel, rfl, by decide +kernel, by decide +kernel⟩
abbrev lq_Shape_check_row : Str := (envOfC "Shape.check_row" (defScope s_Shape_check_row) 0 0 .none).qual ++ "<genexpr>"
theorem w_Shape_check_row (T : Tx K mg a) {Γ : Gm} (F_kind_of : Fn3 Γ P w K mg base 3 a.f_kind_of a.d_kind_of ["value"] (sp_kind_of K a)) (F_Shape_kinds : Fn3 Γ P w K mg base 3 a.f_Shape_kinds a.d_Shape_kinds ["self"] (sp_Shape_kinds K a)) {P0 c0 : Addr} (TB : LamX.TabB base mg c0 P0) (hT : (P0, lq_Shape_check_row) ∈ Γ.T) (hU : ∀ p ∈ Γ.T, p.1 = P0 → p.2 = lq_Shape_check_row) (cdv : Value) (hcode : cdv = .ref c0) (A : Around) (outer : List Env) (s : Shared) (H : Hp) (E : XK) (hr : Room 5 (A.deeper (envOfC "Shape.check_row" (defScope s_Shape_check_row) s.heap.objs.size a.f_Shape_check_row cdv))) :
    PSs3 (cxOf (L2.CX P w) P w K mg base N_Shape_check_row "Shape.check_row" (defScope s_Shape_check_row) a.f_Shape_check_row cdv A outer s H E) Γ (WE3 E) (defBody s_Shape_check_row) (T_Shape_check_row K a) := by
  have tk : Takes (cxOf (L2.CX P w) P w K mg base N_Shape_check_row "Shape.check_row" (defScope s_Shape_check_row) a.f_Shape_check_row cdv A outer s H E) (WE3 E) := takes_of rfl rfl rfl rfl
  exact (pss3_cons (ps3_if (PW3.pt (pw3_or (pt3_not (pt3_val (pe3_isi (n := "tuple") (by simp [kTy]) (by rfl) T.n_isinstance (by rfl) T.n_tuple bt_tuple bt_isinstance (pe3_var (i := 1))))) (pw3_or1 (pt3_cmp (op_ne.or (op_neD (hu64 hr))) sound_neC (pe3_tupG (k := 3) (own := [("value", 2)]) { hr := hr.mono (by decide), TB := TB, code := hcode, tab := hT, one := hU, nd := sc_Shape_check_row.nd, it := (pi3_tup (pe3_var (i := 1))), ok := ⟨blkOk_by (own := [("value", 2)]) (N := N_Shape_check_row ++ []) (sc := defScope s_Shape_check_row) (by decide +kernel), by decide +kernel, rfl, rfl⟩, tgt := fun _ _ _ _ _ _ _ _ _ hrg => (pw3_name (i := 2) (by decide) sc_Shape_check_row.nd rfl (by first | exact Or.inl rfl | exact Or.inr rfl)), tst := fun _ _ _ _ _ _ _ _ _ hrg => pts3_nil, elt := fun _ _ _ _ _ _ _ _ _ hrg => (pe3_call F_kind_of (hrg.mono (by decide)) (by rfl) T.g_kind_of T.k_kind_of T.b_kind_of .nil dflt_nil takes0 (pa3_cons (pe3_var (i := 2)) pa3_nil)) } (by rfl) T.n_tuple bt_tuple) (pe3_meth0 (pe3_var (i := 0)) T.c_Shape T.m_Shape_kinds F_Shape_kinds (hr.mono (by decide)) T.b_Shape_kinds .nil dflt_nil tk) (nomark _))))) (pss3_one (ps3_raise rfl tk F.excBase_ValueError T.x_RowError T.g_RowError T.kc_RowError (raises_own T.xb_RowError T.xt_RowError) rfl (pa3_cons pe3_str pa3_nil)))
  pss3_nil)
  (pss3_one (ps3_ret (pe3_var (i := 1)))))
theorem ok_Shape_check_row (T : Tx K mg a) {Γ : Gm} (F_kind_of : Fn3 Γ P w K mg base 3 a.f_kind_of a.d_kind_of ["value"] (sp_kind_of K a)) (F_Shape_kinds : Fn3 Γ P w K mg base 3 a.f_Shape_kinds a.d_Shape_kinds ["self"] (sp_Shape_kinds K a)) {P0 c0 : Addr} (TB : LamX.TabB base mg c0 P0) (hT : (P0, lq_Shape_check_row) ∈ Γ.T) (hU : ∀ p ∈ Γ.T, p.1 = P0 → p.2 = lq_Shape_check_row) (hc : a.d_Shape_check_row.code = .ref c0) (len : ∀ ds G Q E, sp_Shape_check_row K a ds G Q E → ds.length = 2)
    (pl : ∀ ds G Q3 E3, sp_Shape_check_row K a ds G Q3 E3 → T_Shape_check_row K a { nx := fun _ G' => RetC Q3 .non G', rt := RetC Q3, ex := fun cls _ G' => ExC E3 cls G' } (start3 N_Shape_check_row ds) G) :
    Fn3 Γ P w K mg base 6 a.f_Shape_check_row a.d_Shape_check_row ["self", "row"] (sp_Shape_check_row K a) := fn3 Γ T.u_Shape_check_row.a sc_Shape_check_row len fun cdv A outer s H E hcd hr => ⟨_, w_Shape_check_row T F_kind_of F_Shape_kinds TB hT hU cdv (hcd.symm.trans hc) A outer s H E hr, pl⟩
theorem sc_Schema_init : FnScope N_Schema_init ["self", "columns", "lacking"] (defScope s_Schema_init) := ⟨rfl, rfl, rfl, by decide +kernel, rfl, by decide +kernel, by decide +kernel⟩
abbrev lq_Schema_init : Str := (envOfC "Schema.__init__" (defScope s_Schema_init) 0 0 .none).qual ++ "<genexpr>"
theorem w_Schema_init (T : Tx K mg a) {Γ : Gm} (F_Shape_init : Fn3 Γ P w K mg base 3 a.f_Shape_init a.d_Shape_init ["self", "columns"] (sp_Shape_init K a)) (F_kind_of : Fn3 Γ P w K mg base 3 a.f_kind_of a.d_kind_of ["value"] (sp_kind_of K a)) {P0 c0 : Addr} (TB : LamX.TabB base mg c0 P0) (hT : (P0, lq_Schema_init) ∈ Γ.T) (hU : ∀ p ∈ Γ.T, p.1 = P0 → p.2 = lq_Schema_init) (cdv : Value) (hcode : cdv = .ref c0) (A : Around) (outer : List Env) (s : Shared) (H : Hp) (E : XK) (hr : Room 5 (A.deeper (envOfC "Schema.__init__" (defScope s_Schema_init) s.heap.objs.size a.f_Schema_init cdv))) :
    PSs3 (cxOf (L2.CX P w) P w K mg base N_Schema_init "Schema.__init__" (defScope s_Schema_init) a.f_Schema_init cdv A outer s H E) Γ (WE3 E) (defBody s_Schema_init) (T_Schema_init K a) := by
  have tk : Takes (cxOf (L2.CX P w) P w K mg base N_Schema_init "Schema.__init__" (defScope s_Schema_init) a.f_Schema_init cdv A outer s H E) (WE3 E) := takes_of rfl rfl rfl rfl
  exact (pss3_cons (ps3_fld (pe3_var (i := 0)) (pe3_make T.mk_Shape F_Shape_init (hr.mono (by decide)) (by rfl) T.g_Shape T.b_Shape_init .nil dflt_nil tk (pa3_cons (pe3_var (i := 1)) pa3_nil)) rfl)
  (pss3_cons (ps3_fld (pe3_var (i := 0)) (pe3_callTy (call_dictC rfl) sound_dictC2 (by rfl) T.n_dict bt_dict (pa3_cons (pe3_var (i := 2)) pa3_nil)) rfl)
  (pss3_cons (ps3_set (i := 3) sc_Schema_init.nd rfl (by first | exact Or.inl rfl | exact Or.inr rfl) (pe3_callTy (call_dictF rfl) sound_dictF (by rfl) T.n_dict bt_dict (pa3_cons (pe3_fld (pe3_fld (pe3_var (i := 0)) rfl) rfl) pa3_nil)))
  (pss3_one (ps3_if (pt3_val (pe3_lock (p := (pthF 0 "lacking")) (pe3_anyG (k := 3) (own := [("name", 4)]) { hr := hr.mono (by decide), TB := TB, code := hcode, tab := hT, one := hU, nd := sc_Schema_init.nd, it := (pi3_keys (pe3_fld (pe3_var (i := 0)) rfl)), ok := ⟨blkOk_by (own := [("name", 4)]) (N := N_Schema_init ++ []) (sc := defScope s_Schema_init) (by decide +kernel), by decide +kernel, rfl, rfl⟩, tgt := fun _ _ _ _ _ _ _ _ _ hrg => (pw3_name (i := 4) (by decide) sc_Schema_init.nd rfl (by first | exact Or.inl rfl | exact Or.inr rfl)), tst := fun _ _ _ _ _ _ _ _ _ hrg => pts3_nil, elt := fun _ _ _ _ _ _ _ _ _ hrg => (pe3_or (pe3_cmp (op_notIn4 (hu65 hrg)) sound_notInC (pe3_var (i := 4)) (pe3_var (i := 3)) (by with_unfolding_all rfl)) (pe3_one (pe3_cmp (op_ne.or (op_neD (hu64 hrg))) sound_neC (pe3_call F_kind_of (hrg.mono (by decide)) (by rfl) T.g_kind_of T.k_kind_of T.b_kind_of .nil dflt_nil takes0 (pa3_cons (pe3_subC (hu1 hrg) (pe3_fld (pe3_var (i := 0)) rfl) (pe3_var (i := 4)) (fun _ _ => rfl)) pa3_nil)) (pe3_subC (hu1 hrg) (pe3_var (i := 3)) (pe3_var (i := 4)) (fun _ _ => rfl)) (nomark _)))) } (by rfl) T.n_any bt_any))) (pss3_one (ps3_raise rfl tk F.excBase_ValueError T.x_RowError T.g_RowError T.kc_RowError (raises_own T.xb_RowError T.xt_RowError) rfl (pa3_cons pe3_str pa3_nil)))
  pss3_nil)))))
theorem ok_Schema_init (T : Tx K mg a) {Γ : Gm} (F_Shape_init : Fn3 Γ P w K mg base 3 a.f_Shape_init a.d_Shape_init ["self", "columns"] (sp_Shape_init K a)) (F_kind_of : Fn3 Γ P w K mg base 3 a.f_kind_of a.d_kind_of ["value"] (sp_kind_of K a)) {P0 c0 : Addr} (TB : LamX.TabB base mg c0 P0) (hT : (P0, lq_Schema_init) ∈ Γ.T) (hU : ∀ p ∈ Γ.T, p.1 = P0 → p.2 = lq_Schema_init) (hc : a.d_Schema_init.code = .ref c0) (len : ∀ ds G Q E, sp_Schema_init K a ds G Q E → ds.length = 3)
    (pl : ∀ ds G Q3 E3, sp_Schema_init K a ds G Q3 E3 → T_Schema_init K a { nx := fun _ G' => RetC Q3 .non G', rt := RetC Q3, ex := fun cls _ G' => ExC E3 cls G' } (start3 N_Schema_init ds) G) :
    Fn3 Γ P w K mg base 6 a.f_Schema_init a.d_Schema_init ["self", "columns", "lacking"] (sp_Schema_init K a) := fn3 Γ T.u_Schema_init sc_Schema_init len fun cdv A outer s H E hcd hr => ⟨_, w_Schema_init T F_Shape_init F_kind_of TB hT hU cdv (hcd.symm.trans hc) A outer s H E hr, pl⟩
theorem sc_Schema_reads : FnScope N_Schema_reads ["self", "other"] (defScope s_Schema_reads) := ⟨rfl, rfl, rfl, by decide +kernel, rfl, by decide +kernel, by decide +kernel⟩
abbrev lq_Schema_reads : Str := (envOfC "Schema.reads" (defScope s_Schema_reads) 0 0 .none).qual ++ "<genexpr>"
theorem w_Schema_reads (T : Tx K mg a) {Γ : Gm} {P0 c0 : Addr} (TB : LamX.TabB base mg c0 P0) (hT : (P0, lq_Schema_reads) ∈ Γ.T) (hU : ∀ p ∈ Γ.T, p.1 = P0 → p.2 = lq_Schema_reads) (cdv : Value) (hcode : cdv = .ref c0) (A : Around) (outer : List Env) (s : Shared) (H : Hp) (E : XK) (hr : Room 2 (A.deeper (envOfC "Schema.reads" (defScope s_Schema_reads) s.heap.objs.size a.f_Schema_reads cdv))) :
    PSs3 (cxOf (L2.CX P w) P w K mg base N_Schema_reads "Schema.reads" (defScope s_Schema_reads) a.f_Schema_reads cdv A outer s H E) Γ (WE3 E) (defBody s_Schema_reads) (T_Schema_reads K a) := by
  have tk : Takes (cxOf (L2.CX P w) P w K mg base N_Schema_reads "Schema.reads" (defScope s_Schema_reads) a.f_Schema_reads cdv A outer s H E) (WE3 E) := takes_of rfl rfl rfl rfl
  exact (pss3_cons (ps3_set (i := 2) sc_Schema_reads.nd rfl (by first | exact Or.inl rfl | exact Or.inr rfl) (pe3_callTy (call_dictF rfl) sound_dictF (by rfl) T.n_dict bt_dict (pa3_cons (pe3_fld (pe3_fld (pe3_var (i := 1)) rfl) rfl) pa3_nil)))
  (pss3_one (ps3_ret (pe3_allG (k := 0) (own := [("name", 3), ("kind", 4)]) { hr := hr.mono (by decide), TB := TB, code := hcode, tab := hT, one := hU, nd := sc_Schema_reads.nd, it := (pi3_tup (pe3_fld (pe3_fld (pe3_var (i := 0)) rfl) rfl)), ok := ⟨blkOk_by (own := [("name", 3), ("kind", 4)]) (N := N_Schema_reads ++ []) (sc := defScope s_Schema_reads) (by decide +kernel), by decide +kernel, rfl, rfl⟩, tgt := fun _ _ _ _ _ _ _ _ _ hrg => (pw3_tup (n := 2) rfl (pw3s_cons (pw3_name (i := 3) (by decide) sc_Schema_reads.nd rfl (by first | exact Or.inl rfl | exact Or.inr rfl)) (pw3s_cons (pw3_name (i := 4) (by decide) sc_Schema_reads.nd rfl (by first | exact Or.inl rfl | exact Or.inr rfl)) pw3s_nil))), tst := fun _ _ _ _ _ _ _ _ _ hrg => pts3_nil, elt := fun _ _ _ _ _ _ _ _ _ hrg => (pe3_ifExp (pt3_cmp (op_in4 (hu65 hrg)) sound_inC (pe3_var (i := 3)) (pe3_var (i := 2)) (by with_unfolding_all rfl)) (pe3_cmp (op_eq.or (op_eqD (hu64 hrg))) sound_eqC (pe3_subC (hu1 hrg) (pe3_var (i := 2)) (pe3_var (i := 3)) (fun _ _ => rfl)) (pe3_var (i := 4)) (nomark _)) (pe3_cmp (op_in4 (hu65 hrg)) sound_inC (pe3_var (i := 3)) (pe3_fld (pe3_var (i := 0)) rfl) (by with_unfolding_all rfl))) } (by rfl) T.n_all bt_all))))
theorem ok_Schema_reads (T : Tx K mg a) {Γ : Gm} {P0 c0 : Addr} (TB : LamX.TabB base mg c0 P0) (hT : (P0, lq_Schema_reads) ∈ Γ.T) (hU : ∀ p ∈ Γ.T, p.1 = P0 → p.2 = lq_Schema_reads) (hc : a.d_Schema_reads.code = .ref c0) (len : ∀ ds G Q E, sp_Schema_reads K a ds G Q E → ds.length = 2)
    (pl : ∀ ds G Q3 E3, sp_Schema_reads K a ds G Q3 E3 → T_Schema_reads K a { nx := fun _ G' => RetC Q3 .non G', rt := RetC Q3, ex := fun cls _ G' => ExC E3 cls G' } (start3 N_Schema_reads ds) G) :
    Fn3 Γ P w K mg base 3 a.f_Schema_reads a.d_Schema_reads ["self", "other"] (sp_Schema_reads K a) := fn3 Γ T.u_Schema_reads.a sc_Schema_reads len fun cdv A outer s H E hcd hr => ⟨_, w_Schema_reads T  TB hT hU cdv (hcd.symm.trans hc) A outer s H E hr, pl⟩
theorem sc_Schema_row_from : FnScope N_Schema_row_from ["self", "other", "row"] (defScope s_Schema_row_from) := ⟨rfl, rfl, rfl, by decide +kernel, rfl, by decide +kernel, by decide +kernel⟩
abbrev lq_Schema_row_from : Str := (envOfC "Schema.row_from" (defScope s_Schema_row_from) 0 0 .none).qual ++ "<genexpr>"
theorem w_Schema_row_from (T : Tx K mg a) {Γ : Gm} (F_Schema_reads : Fn3 Γ P w K mg base 3 a.f_Schema_reads a.d_Schema_reads ["self", "other"] (sp_Schema_reads K a)) (F_Shape_check_row : Fn3 Γ P w K mg base 6 a.f_Shape_check_row a.d_Shape_check_row ["self", "row"] (sp_Shape_check_row K a)) {P0 c0 : Addr} (TB : LamX.TabB base mg c0 P0) (hT : (P0, lq_Schema_row_from) ∈ Γ.T) (hU : ∀ p ∈ Γ.T, p.1 = P0 → p.2 = lq_Schema_row_from) (cdv : Value) (hcode : cdv = .ref c0) (A : Around) (outer : List Env) (s : Shared) (H : Hp) (E : XK) (hr : Room 6 (A.deeper (envOfC "Schema.row_from" (defScope s_Schema_row_from) s.heap.objs.size a.f_Schema_row_from cdv))) :
    PSs3 (cxOf (L2.CX P w) P w K mg base N_Schema_row_from "Schema.row_from" (defScope s_Schema_row_from) a.f_Schema_row_from cdv A outer s H E) Γ (WE3 E) (defBody s_Schema_row_from) (T_Schema_row_from K a) := by
  have tk : Takes (cxOf (L2.CX P w) P w K mg base N_Schema_row_from "Schema.row_from" (defScope s_Schema_row_from) a.f_Schema_row_from cdv A outer s H E) (WE3 E) := takes_of rfl rfl rfl rfl
  exact (pss3_cons (ps3_if (pt3_not (pt3_val (pe3_meth (pe3_var (i := 0)) T.c_Schema T.m_Schema_reads F_Schema_reads (hr.mono (by decide)) T.b_Schema_reads .nil dflt_nil tk (pa3_cons (pe3_var (i := 1)) pa3_nil)))) (pss3_one (ps3_raise rfl tk F.excBase_ValueError T.x_RowError T.g_RowError T.kc_RowError (raises_own T.xb_RowError T.xt_RowError) rfl (pa3_cons pe3_str pa3_nil)))
  pss3_nil)
  (pss3_cons (ps3_expr (pe3_meth (pe3_fld (pe3_var (i := 1)) rfl) T.c_Shape T.m_Shape_check_row F_Shape_check_row (hr.mono (by decide)) T.b_Shape_check_row .nil dflt_nil tk (pa3_cons (pe3_var (i := 2)) pa3_nil)))
  (pss3_cons (ps3_set (i := 3) sc_Schema_row_from.nd rfl (by first | exact Or.inl rfl | exact Or.inr rfl) (pe3_dc (own := [("place", 4), ("column", 5)]) rfl sc_Schema_row_from.nd (pi3_enumF (by rfl) T.n_enumerate (pa3_cons (pe3_fld (pe3_fld (pe3_var (i := 1)) rfl) rfl) pa3_nil)) (blkOk_by (own := [("place", 4), ("column", 5)]) (N := N_Schema_row_from) (sc := defScope s_Schema_row_from) (by decide +kernel)) (fun _ _ _ _ _ => (pw3_tup (n := 2) rfl (pw3s_cons (pw3_name (i := 4) (by decide) sc_Schema_row_from.nd rfl (by first | exact Or.inl rfl | exact Or.inr rfl)) (pw3s_cons (pw3_name (i := 5) (by decide) sc_Schema_row_from.nd rfl (by first | exact Or.inl rfl | exact Or.inr rfl)) pw3s_nil)))) (fun _ _ _ _ _ => pts3_nil) (fun _ _ _ _ _ => (pe3_subC (hu1 hr) (pe3_var (i := 5)) pe3_int (fun _ _ => rfl))) (fun _ _ _ _ _ => (pe3_subC (hu1 hr) (pe3_var (i := 2)) (pe3_var (i := 4)) (fun _ _ => rfl)))))
  (pss3_one (ps3_ret (pe3_tupG (k := 0) (own := [("name", 6), ("kind", 7)]) { hr := hr.mono (by decide), TB := TB, code := hcode, tab := hT, one := hU, nd := sc_Schema_row_from.nd, it := (pi3_tup (pe3_fld (pe3_fld (pe3_var (i := 0)) rfl) rfl)), ok := ⟨blkOk_by (own := [("name", 6), ("kind", 7)]) (N := N_Schema_row_from ++ []) (sc := defScope s_Schema_row_from) (by decide +kernel), by decide +kernel, rfl, rfl⟩, tgt := fun _ _ _ _ _ _ _ _ _ hrg => (pw3_tup (n := 2) rfl (pw3s_cons (pw3_name (i := 6) (by decide) sc_Schema_row_from.nd rfl (by first | exact Or.inl rfl | exact Or.inr rfl)) (pw3s_cons (pw3_name (i := 7) (by decide) sc_Schema_row_from.nd rfl (by first | exact Or.inl rfl | exact Or.inr rfl)) pw3s_nil))), tst := fun _ _ _ _ _ _ _ _ _ hrg => pts3_nil, elt := fun _ _ _ _ _ _ _ _ _ hrg => (pe3_get2C (hu1 hrg) (pe3_var (i := 3)) (pe3_var (i := 6)) (pe3_get1C (hu1 hrg) (pe3_fld (pe3_var (i := 0)) rfl) (pe3_var (i := 6)) ⟨rfl, rfl, rfl, rfl⟩) ⟨rfl, rfl, rfl, rfl⟩) } (by rfl) T.n_tuple bt_tuple))))))
theorem ok_Schema_row_from (T : Tx K mg a) {Γ : Gm} (F_Schema_reads : Fn3 Γ P w K mg base 3 a.f_Schema_reads a.d_Schema_reads ["self", "other"] (sp_Schema_reads K a)) (F_Shape_check_row : Fn3 Γ P w K mg base 6 a.f_Shape_check_row a.d_Shape_check_row ["self", "row"] (sp_Shape_check_row K a)) {P0 c0 : Addr} (TB : LamX.TabB base mg c0 P0) (hT : (P0, lq_Schema_row_from) ∈ Γ.T) (hU : ∀ p ∈ Γ.T, p.1 = P0 → p.2 = lq_Schema_row_from) (hc : a.d_Schema_row_from.code = .ref c0) (len : ∀ ds G Q E, sp_Schema_row_from K a ds G Q E → ds.length = 3)
    (pl : ∀ ds G Q3 E3, sp_Schema_row_from K a ds G Q3 E3 → T_Schema_row_from K a { nx := fun _ G' => RetC Q3 .non G', rt := RetC Q3, ex := fun cls _ G' => ExC E3 cls G' } (start3 N_Schema_row_from ds) G) :
    Fn3 Γ P w K mg base 7 a.f_Schema_row_from a.d_Schema_row_from ["self", "other", "row"] (sp_Schema_row_from K a) := fn3 Γ T.u_Schema_row_from.a sc_Schema_row_from len fun cdv A outer s H E hcd hr => ⟨_, w_Schema_row_from T F_Schema_reads F_Shape_check_row TB hT hU cdv (hcd.symm.trans hc) A outer s H E hr, pl⟩
theorem sc_Registry_init : FnScope N_Registry_init ["self"] (defScope s_Registry_init) := ⟨rfl, rfl, rfl, by decide +kernel, rfl, by decide +kernel, by decide +kernel⟩
theorem w_Registry_init (T : Tx K mg a) {Γ : Gm} (cdv : Value) (A : Around) (outer : List Env) (s : Shared) (H : Hp) (E : XK) (hr : Room 0 (A.deeper (envOfC "Registry.__init__" (defScope s_Registry_init) s.heap.objs.size a.f_Registry_init cdv))) :
    PSs3 (cxOf (L2.CX P w) P w K mg base N_Registry_init "Registry.__init__" (defScope s_Registry_init) a.f_Registry_init cdv A outer s H E) Γ (WE3 E) (defBody s_Registry_init) (T_Registry_init K a) := by
  have tk : Takes (cxOf (L2.CX P w) P w K mg base N_Registry_init "Registry.__init__" (defScope s_Registry_init) a.f_Registry_init cdv A outer s H E) (WE3 E) := takes_of rfl rfl rfl rfl
  exact (pss3_cons (ps3_fld (pe3_var (i := 0)) pe3_dnewK rfl)
  (pss3_one (ps3_fld (pe3_var (i := 0)) pe3_dnewK rfl)))
theorem ok_Registry_init (T : Tx K mg a) {Γ : Gm} (len : ∀ ds G Q E, sp_Registry_init K a ds G Q E → ds.length = 1)
    (pl : ∀ ds G Q3 E3, sp_Registry_init K a ds G Q3 E3 → T_Registry_init K a { nx := fun _ G' => RetC Q3 .non G', rt := RetC Q3, ex := fun cls _ G' => ExC E3 cls G' } (start3 N_Registry_init ds) G) :
    Fn3 Γ P w K mg base 1 a.f_Registry_init a.d_Registry_init ["self"] (sp_Registry_init K a) := fn3 Γ T.u_Registry_init.a sc_Registry_init len fun cdv A outer s H E hcd hr => ⟨_, w_Registry_init T  cdv A outer s H E hr, pl⟩
theorem sc_Registry_put_rule : FnScope N_Registry_put_rule ["self", "subject", "rule"] (defScope s_Registry_put_rule) := ⟨rfl, rfl, rfl, by decide +kernel, rfl, by decide +kernel, by decide +kernel⟩
theorem w_Registry_put_rule (T : Tx K mg a) {Γ : Gm} (cdv : Value) (A : Around) (outer : List Env) (s : Shared) (H : Hp) (E : XK) (hr : Room 0 (A.deeper (envOfC "Registry.put_rule" (defScope s_Registry_put_rule) s.heap.objs.size a.f_Registry_put_rule cdv))) :
    PSs3 (cxOf (L2.CX P w) P w K mg base N_Registry_put_rule "Registry.put_rule" (defScope s_Registry_put_rule) a.f_Registry_put_rule cdv A outer s H E) Γ (WE3 E) (defBody s_Registry_put_rule) (T_Registry_put_rule K a) := by
  have tk : Takes (cxOf (L2.CX P w) P w K mg base N_Registry_put_rule "Registry.put_rule" (defScope s_Registry_put_rule) a.f_Registry_put_rule cdv A outer s H E) (WE3 E) := takes_of rfl rfl rfl rfl
  exact (pss3_cons (ps3_if (pt3_cmp (op_notIn4 (hu65 hr)) sound_notInC (pe3_var (i := 2)) (pe3_tup (pa3_cons pe3_str (pa3_cons pe3_str (pa3_cons pe3_str (pa3_cons pe3_str (pa3_cons pe3_str pa3_nil)))))) (by with_unfolding_all rfl)) (pss3_one (ps3_raise rfl tk F.excBase_ValueError T.x_RowError T.g_RowError T.kc_RowError (raises_own T.xb_RowError T.xt_RowError) rfl (pa3_cons pe3_str pa3_nil)))
  pss3_nil)
  (pss3_one (ps3_asg (pe3_var (i := 2)) (pg3_subC (hu1 hr) (pe3_fld (pe3_var (i := 0)) rfl) (pe3_var (i := 1))))))
theorem ok_Registry_put_rule (T : Tx K mg a) {Γ : Gm} (len : ∀ ds G Q E, sp_Registry_put_rule K a ds G Q E → ds.length = 3)
    (pl : ∀ ds G Q3 E3, sp_Registry_put_rule K a ds G Q3 E3 → T_Registry_put_rule K a { nx := fun _ G' => RetC Q3 .non G', rt := RetC Q3, ex := fun cls _ G' => ExC E3 cls G' } (start3 N_Registry_put_rule ds) G) :
    Fn3 Γ P w K mg base 1 a.f_Registry_put_rule a.d_Registry_put_rule ["self", "subject", "rule"] (sp_Registry_put_rule K a) := fn3 Γ T.u_Registry_put_rule.a sc_Registry_put_rule len fun cdv A outer s H E hcd hr => ⟨_, w_Registry_put_rule T  cdv A outer s H E hr, pl⟩
theorem sc_Registry_fits : FnScope N_Registry_fits ["self", "subject", "schema"] (defScope s_Registry_fits) := ⟨rfl, rfl, rfl, by decide +kernel, rfl, by decide +kernel, by decide +kernel⟩
abbrev lq_Registry_fits : Str := (envOfC "Registry.fits" (defScope s_Registry_fits) 0 0 .none).qual ++ "<genexpr>"
theorem w_Registry_fits (T : Tx K mg a) {Γ : Gm} (F_Schema_reads : Fn3 Γ P w K mg base 3 a.f_Schema_reads a.d_Schema_reads ["self", "other"] (sp_Schema_reads K a)) {P0 c0 : Addr} (TB : LamX.TabB base mg c0 P0) (hT : (P0, lq_Registry_fits) ∈ Γ.T) (hU : ∀ p ∈ Γ.T, p.1 = P0 → p.2 = lq_Registry_fits) (cdv : Value) (hcode : cdv = .ref c0) (A : Around) (outer : List Env) (s : Shared) (H : Hp) (E : XK) (hr : Room 5 (A.deeper (envOfC "Registry.fits" (defScope s_Registry_fits) s.heap.objs.size a.f_Registry_fits cdv))) :
    PSs3 (cxOf (L2.CX P w) P w K mg base N_Registry_fits "Registry.fits" (defScope s_Registry_fits) a.f_Registry_fits cdv A outer s H E) Γ (WE3 E) (defBody s_Registry_fits) (T_Registry_fits K a) := by
  have tk : Takes (cxOf (L2.CX P w) P w K mg base N_Registry_fits "Registry.fits" (defScope s_Registry_fits) a.f_Registry_fits cdv A outer s H E) (WE3 E) := takes_of rfl rfl rfl rfl
  exact (pss3_cons (ps3_par (i := 3) (j := 4) rfl sc_Registry_fits.nd rfl rfl (by decide) rfl rfl (pa3_cons (pe3_get2C (hu1 hr) (pe3_fld (pe3_var (i := 0)) rfl) (pe3_var (i := 1)) pe3_str ⟨rfl, rfl, rfl, rfl⟩) (pa3_cons (pe3_get2C (hu1 hr) (pe3_fld (pe3_var (i := 0)) rfl) (pe3_var (i := 1)) (pe3_lst pa3_nil) ⟨rfl, rfl, rfl, rfl⟩) pa3_nil)) (by rfl))
  (pss3_cons (ps3_if (PW3.pt (pw3_or (pt3_cmp (op_eqNil (hu0 hr)) sound_eqNil (pe3_var (i := 4)) (pe3_lst pa3_nil) (nomark _)) (pw3_or1 (pt3_cmp (op_eq.or (op_eqD (hu64 hr))) sound_eqC (pe3_var (i := 3)) pe3_str (nomark _))))) (pss3_one (ps3_ret pe3_bl))
  pss3_nil)
  (pss3_cons (ps3_if (pt3_cmp (op_eq.or (op_eqD (hu64 hr))) sound_eqC (pe3_var (i := 3)) pe3_str (nomark _)) (pss3_one (ps3_ret (pe3_lock (p := (pthV 4)) (pe3_allG (k := 3) (own := [("one", 6)]) { hr := hr.mono (by decide), TB := TB, code := hcode, tab := hT, one := hU, nd := sc_Registry_fits.nd, it := (pi3_lk (pe3_var (i := 4))), ok := ⟨blkOk_by (own := [("one", 6)]) (N := N_Registry_fits ++ []) (sc := defScope s_Registry_fits) (by decide +kernel), by decide +kernel, rfl, rfl⟩, tgt := fun _ _ _ _ _ _ _ _ _ hrg => (pw3_name (i := 6) (by decide) sc_Registry_fits.nd rfl (by first | exact Or.inl rfl | exact Or.inr rfl)), tst := fun _ _ _ _ _ _ _ _ _ hrg => pts3_nil, elt := fun _ _ _ _ _ _ _ _ _ hrg => (pe3_meth (pe3_var (i := 2)) T.c_Schema T.m_Schema_reads F_Schema_reads (hrg.mono (by decide)) T.b_Schema_reads .nil dflt_nil takes0 (pa3_cons (pe3_var (i := 6)) pa3_nil)) } (by rfl) T.n_all bt_all))))
  pss3_nil)
  (pss3_cons (ps3_set (i := 5) sc_Registry_fits.nd rfl (by first | exact Or.inl rfl | exact Or.inr rfl) (pe3_or (pe3_cmp (op_eq.or (op_eqD (hu64 hr))) sound_eqC (pe3_var (i := 3)) pe3_str (nomark _)) (pe3_one (pe3_meth (pe3_var (i := 2)) T.c_Schema T.m_Schema_reads F_Schema_reads (hr.mono (by decide)) T.b_Schema_reads .nil dflt_nil tk (pa3_cons (pe3_subC (hu1 hr) (pe3_var (i := 4)) (pe3_neg pe3_int) (fun _ _ => rfl)) pa3_nil)))))
  (pss3_one (ps3_ret (pe3_and (pe3_var (i := 5)) (pe3_one (pe3_or (pe3_cmp (op_eq.or (op_eqD (hu64 hr))) sound_eqC (pe3_var (i := 3)) pe3_str (nomark _)) (pe3_one (pe3_meth (pe3_subC (hu1 hr) (pe3_var (i := 4)) (pe3_neg pe3_int) (fun _ _ => rfl)) T.c_Schema T.m_Schema_reads F_Schema_reads (hr.mono (by decide)) T.b_Schema_reads .nil dflt_nil tk (pa3_cons (pe3_var (i := 2)) pa3_nil))))))))))))
theorem ok_Registry_fits (T : Tx K mg a) {Γ : Gm} (F_Schema_reads : Fn3 Γ P w K mg base 3 a.f_Schema_reads a.d_Schema_reads ["self", "other"] (sp_Schema_reads K a)) {P0 c0 : Addr} (TB : LamX.TabB base mg c0 P0) (hT : (P0, lq_Registry_fits) ∈ Γ.T) (hU : ∀ p ∈ Γ.T, p.1 = P0 → p.2 = lq_Registry_fits) (hc : a.d_Registry_fits.code = .ref c0) (len : ∀ ds G Q E, sp_Registry_fits K a ds G Q E → ds.length = 3)
    (pl : ∀ ds G Q3 E3, sp_Registry_fits K a ds G Q3 E3 → T_Registry_fits K a { nx := fun _ G' => RetC Q3 .non G', rt := RetC Q3, ex := fun cls _ G' => ExC E3 cls G' } (start3 N_Registry_fits ds) G) :
    Fn3 Γ P w K mg base 6 a.f_Registry_fits a.d_Registry_fits ["self", "subject", "schema"] (sp_Registry_fits K a) := fn3 Γ T.u_Registry_fits.a sc_Registry_fits len fun cdv A outer s H E hcd hr => ⟨_, w_Registry_fits T F_Schema_reads TB hT hU cdv (hcd.symm.trans hc) A outer s H E hr, pl⟩
theorem sc_Registry_add : FnScope N_Registry_add ["self", "subject", "schema"] (defScope s_Registry_add) := ⟨rfl, rfl, rfl, by decide +kernel, rfl, by decide +kernel, by decide +kernel⟩
theorem w_Registry_add (T : Tx K mg a) {Γ : Gm} (F_Registry_fits : Fn3 Γ P w K mg base 6 a.f_Registry_fits a.d_Registry_fits ["self", "subject", "schema"] (sp_Registry_fits K a)) (cdv : Value) (A : Around) (outer : List Env) (s : Shared) (H : Hp) (E : XK) (hr : Room 6 (A.deeper (envOfC "Registry.add" (defScope s_Registry_add) s.heap.objs.size a.f_Registry_add cdv))) :
    PSs3 (cxOf (L2.CX P w) P w K mg base N_Registry_add "Registry.add" (defScope s_Registry_add) a.f_Registry_add cdv A outer s H E) Γ (WE3 E) (defBody s_Registry_add) (T_Registry_add K a) := by
  have tk : Takes (cxOf (L2.CX P w) P w K mg base N_Registry_add "Registry.add" (defScope s_Registry_add) a.f_Registry_add cdv A outer s H E) (WE3 E) := takes_of rfl rfl rfl rfl
  exact (pss3_cons (ps3_if (pt3_not (pt3_val (pe3_meth (pe3_var (i := 0)) T.c_Registry T.m_Registry_fits F_Registry_fits (hr.mono (by decide)) T.b_Registry_fits .nil dflt_nil tk (pa3_cons (pe3_var (i := 1)) (pa3_cons (pe3_var (i := 2)) pa3_nil))))) (pss3_one (ps3_raise rfl tk F.excBase_ValueError T.x_RowError T.g_RowError T.kc_RowError (raises_own T.xb_RowError T.xt_RowError) rfl (pa3_cons pe3_str pa3_nil)))
  pss3_nil)
  (pss3_cons (ps3_expr (pe3_append (pe3_setd (pe3_fld (pe3_var (i := 0)) rfl) (pe3_var (i := 1)) (pe3_lstM pa3_nil) ⟨rfl, rfl, rfl, rfl⟩) (pa3_cons (pe3_var (i := 2)) pa3_nil)))
  (pss3_one (ps3_ret (pe3_sub (pe3_callB cr_len4 sound_lenC (by rfl) T.n_len bt_len (pa3_cons (pe3_subC (hu1 hr) (pe3_fld (pe3_var (i := 0)) rfl) (pe3_var (i := 1)) (fun _ _ => rfl)) pa3_nil)) pe3_int)))))
theorem ok_Registry_add (T : Tx K mg a) {Γ : Gm} (F_Registry_fits : Fn3 Γ P w K mg base 6 a.f_Registry_fits a.d_Registry_fits ["self", "subject", "schema"] (sp_Registry_fits K a)) (len : ∀ ds G Q E, sp_Registry_add K a ds G Q E → ds.length = 3)
    (pl : ∀ ds G Q3 E3, sp_Registry_add K a ds G Q3 E3 → T_Registry_add K a { nx := fun _ G' => RetC Q3 .non G', rt := RetC Q3, ex := fun cls _ G' => ExC E3 cls G' } (start3 N_Registry_add ds) G) :
    Fn3 Γ P w K mg base 7 a.f_Registry_add a.d_Registry_add ["self", "subject", "schema"] (sp_Registry_add K a) := fn3 Γ T.u_Registry_add.a sc_Registry_add len fun cdv A outer s H E hcd hr => ⟨_, w_Registry_add T F_Registry_fits cdv A outer s H E hr, pl⟩
theorem sc_Registry_read : FnScope N_Registry_read ["self", "subject", "number", "row", "wanted"] (defScope s_Registry_read) := ⟨rfl, rfl, rfl, by decide +kernel, rfl, by decide +kernel, by decide +kernel⟩
theorem w_Registry_read (T : Tx K mg a) {Γ : Gm} (F_Schema_row_from : Fn3 Γ P w K mg base 7 a.f_Schema_row_from a.d_Schema_row_from ["self", "other", "row"] (sp_Schema_row_from K a)) (cdv : Value) (A : Around) (outer : List Env) (s : Shared) (H : Hp) (E : XK) (hr : Room 7 (A.deeper (envOfC "Registry.read" (defScope s_Registry_read) s.heap.objs.size a.f_Registry_read cdv))) :
    PSs3 (cxOf (L2.CX P w) P w K mg base N_Registry_read "Registry.read" (defScope s_Registry_read) a.f_Registry_read cdv A outer s H E) Γ (WE3 E) (defBody s_Registry_read) (T_Registry_read K a) := by
  have tk : Takes (cxOf (L2.CX P w) P w K mg base N_Registry_read "Registry.read" (defScope s_Registry_read) a.f_Registry_read cdv A outer s H E) (WE3 E) := takes_of rfl rfl rfl rfl
  exact (pss3_cons (ps3_set (i := 5) sc_Registry_read.nd rfl (by first | exact Or.inl rfl | exact Or.inr rfl) (pe3_get2C (hu1 hr) (pe3_fld (pe3_var (i := 0)) rfl) (pe3_var (i := 1)) (pe3_lst pa3_nil) ⟨rfl, rfl, rfl, rfl⟩))
  (pss3_cons (ps3_if (PW3.pt (pw3_or (pt3_not (pt3_chain op_le op_lt2 sound_le sound_lt pe3_int (pe3_var (i := 2)) (pe3_callB cr_len4 sound_lenC (by rfl) T.n_len bt_len (pa3_cons (pe3_var (i := 5)) pa3_nil)))) (pw3_or1 (pt3_not (pt3_chain op_le op_lt2 sound_le sound_lt pe3_int (pe3_var (i := 4)) (pe3_callB cr_len4 sound_lenC (by rfl) T.n_len bt_len (pa3_cons (pe3_var (i := 5)) pa3_nil))))))) (pss3_one (ps3_raise rfl tk F.excBase_ValueError T.x_RowError T.g_RowError T.kc_RowError (raises_own T.xb_RowError T.xt_RowError) rfl (pa3_cons pe3_str pa3_nil)))
  pss3_nil)
  (pss3_one (ps3_ret (pe3_meth (pe3_subC (hu1 hr) (pe3_var (i := 5)) (pe3_var (i := 4)) (fun _ _ => rfl)) T.c_Schema T.m_Schema_row_from F_Schema_row_from (hr.mono (by decide)) T.b_Schema_row_from .nil dflt_nil tk (pa3_cons (pe3_subC (hu1 hr) (pe3_var (i := 5)) (pe3_var (i := 2)) (fun _ _ => rfl)) (pa3_cons (pe3_var (i := 3)) pa3_nil)))))))
theorem ok_Registry_read (T : Tx K mg a) {Γ : Gm} (F_Schema_row_from : Fn3 Γ P w K mg base 7 a.f_Schema_row_from a.d_Schema_row_from ["self", "other", "row"] (sp_Schema_row_from K a)) (len : ∀ ds G Q E, sp_Registry_read K a ds G Q E → ds.length = 5)
    (pl : ∀ ds G Q3 E3, sp_Registry_read K a ds G Q3 E3 → T_Registry_read K a { nx := fun _ G' => RetC Q3 .non G', rt := RetC Q3, ex := fun cls _ G' => ExC E3 cls G' } (start3 N_Registry_read ds) G) :
    Fn3 Γ P w K mg base 8 a.f_Registry_read a.d_Registry_read ["self", "subject", "number", "row", "wanted"] (sp_Registry_read K a) := fn3 Γ T.u_Registry_read.a sc_Registry_read len fun cdv A outer s H E hcd hr => ⟨_, w_Registry_read T F_Schema_row_from cdv A outer s H E hr, pl⟩
theorem sc_law_dice : FnScope N_law_dice ["cell"] (defScope s_law_dice) := ⟨rfl, rfl, rfl, by decide +kernel, rfl, by decide +kernel, by decide +kernel⟩
theorem w_law_dice (T : Tx K mg a) {Γ : Gm} (cdv : Value) (A : Around) (outer : List Env) (s : Shared) (H : Hp) (E : XK) (hr : Room 0 (A.deeper (envOfC "_law_dice" (defScope s_law_dice) s.heap.objs.size a.f_law_dice cdv))) :
    PSs3 (cxOf (L2.CX P w) P w K mg base N_law_dice "_law_dice" (defScope s_law_dice) a.f_law_dice cdv A outer s H E) Γ (WE3 E) (defBody s_law_dice) (T_law_dice K a) := by
  have tk : Takes (cxOf (L2.CX P w) P w K mg base N_law_dice "_law_dice" (defScope s_law_dice) a.f_law_dice cdv A outer s H E) (WE3 E) := takes_of rfl rfl rfl rfl
  exact (pss3_cons (ps3_if (pt3_chain op_lt2 op_lt2 sound_lt sound_lt (pe3_sub pe3_int pe3_int) (pe3_var (i := 0)) pe3_int) (pss3_one (ps3_ret (pe3_lstM (pa3_cons (pe3_callB call_abs sound_abs (by rfl) T.n_abs bt_abs (pa3_cons (pe3_var (i := 0)) pa3_nil)) (pa3_cons pe3_int (pa3_cons pe3_int pa3_nil))))))
  pss3_nil)
  (pss3_one (ps3_ret (pe3_lstM (pa3_cons (pe3_var (i := 0)) (pa3_cons (pe3_add pe3_int (pe3_mod (pe3_callTy call_int1 sound_int1 (by rfl) T.n_int bt_int (pa3_cons (pe3_var (i := 0)) pa3_nil)) pe3_int)) (pa3_cons (pe3_callTy call_int1 sound_int1 (by rfl) T.n_int bt_int (pa3_cons (pe3_cmp op_ge sound_ge (pe3_var (i := 0)) (pe3_pow pe3_int pe3_int) (nomark _)) pa3_nil)) pa3_nil)))))))
theorem ok_law_dice (T : Tx K mg a) {Γ : Gm} (len : ∀ ds G Q E, sp_law_dice K a ds G Q E → ds.length = 1)
    (pl : ∀ ds G Q3 E3, sp_law_dice K a ds G Q3 E3 → T_law_dice K a { nx := fun _ G' => RetC Q3 .non G', rt := RetC Q3, ex := fun cls _ G' => ExC E3 cls G' } (start3 N_law_dice ds) G) :
    Fn3 Γ P w K mg base 1 a.f_law_dice a.d_law_dice ["cell"] (sp_law_dice K a) := fn3 Γ T.u_law_dice.a sc_law_dice len fun cdv A outer s H E hcd hr => ⟨_, w_law_dice T  cdv A outer s H E hr, pl⟩
theorem sc_law_roll : FnScope N_law_roll ["dice", "many"] (defScope s_law_roll) := ⟨rfl, rfl, rfl, by decide +kernel, rfl, by decide +kernel, by decide +kernel⟩
theorem w_law_roll (T : Tx K mg a) {Γ : Gm} (cdv : Value) (A : Around) (outer : List Env) (s : Shared) (H : Hp) (E : XK) (hr : Room 0 (A.deeper (envOfC "_law_roll" (defScope s_law_roll) s.heap.objs.size a.f_law_roll cdv))) :
    PSs3 (cxOf (L2.CX P w) P w K mg base N_law_roll "_law_roll" (defScope s_law_roll) a.f_law_roll cdv A outer s H E) Γ (WE3 E) (defBody s_law_roll) (T_law_roll K a) := by
  have tk : Takes (cxOf (L2.CX P w) P w K mg base N_law_roll "_law_roll" (defScope s_law_roll) a.f_law_roll cdv A outer s H E) (WE3 E) := takes_of rfl rfl rfl rfl
  exact (pss3_cons (ps3_if (PW3.pt (pw3_or (pt3_cmp (op_eq.or (op_eqD (hu64 hr))) sound_eqC (pe3_subC (hu1 hr) (pe3_var (i := 0)) pe3_int (fun _ _ => rfl)) pe3_int (nomark _)) (pw3_or1 (PW3.pt (pw3_and (pt3_cmp (op_eq.or (op_eqD (hu64 hr))) sound_eqC (pe3_subC (hu1 hr) (pe3_var (i := 0)) pe3_int (fun _ _ => rfl)) pe3_int (nomark _)) (pw3_and1 (pt3_cmp op_gt sound_gt (pe3_subC (hu1 hr) (pe3_var (i := 0)) pe3_int (fun _ _ => rfl)) pe3_int (nomark _)))))))) (pss3_cons (ps3_set (i := 2) sc_law_roll.nd rfl (by first | exact Or.inl rfl | exact Or.inr rfl) (pe3_mod (pe3_callTy call_int1 sound_int1 (by rfl) T.n_int bt_int (pa3_cons (pe3_subC (hu1 hr) (pe3_var (i := 0)) pe3_int (fun _ _ => rfl)) pa3_nil)) (pe3_var (i := 1))))
  (pss3_cons (ps3_asg (pe3_fdiv (pe3_subC (hu1 hr) (pe3_var (i := 0)) pe3_int (fun _ _ => rfl)) (pe3_var (i := 1))) (pg3_subC (hu1 hr) (pe3_var (i := 0)) pe3_int))
  (pss3_one (ps3_ret (pe3_var (i := 2))))))
  pss3_nil)
  (pss3_cons (ps3_asg pe3_int (pg3_subC (hu1 hr) (pe3_var (i := 0)) pe3_int))
  (pss3_cons (ps3_if (pt3_cmp op_gt sound_gt (pe3_var (i := 1)) pe3_int (nomark _)) pss3_never
  pss3_nil)
  (pss3_cons (ps3_asg (pe3_mod (pe3_callTy call_int1 sound_int1 (by rfl) T.n_int bt_int (pa3_cons (pe3_add (pe3_add (pe3_mul (pe3_subC (hu1 hr) (pe3_var (i := 0)) pe3_int (fun _ _ => rfl)) pe3_int) (pe3_mul (pe3_subC (hu1 hr) (pe3_var (i := 0)) pe3_int (fun _ _ => rfl)) pe3_int)) pe3_int) pa3_nil)) pe3_int) (pg3_subC (hu1 hr) (pe3_var (i := 0)) pe3_int))
  (pss3_cons (ps3_asg (pe3_add (pe3_subC (hu1 hr) (pe3_var (i := 0)) pe3_int (fun _ _ => rfl)) pe3_int) (pg3_subC (hu1 hr) (pe3_var (i := 0)) pe3_int))
  (pss3_one (ps3_ret (pe3_mod (pe3_callTy call_int1 sound_int1 (by rfl) T.n_int bt_int (pa3_cons (pe3_fdiv (pe3_subC (hu1 hr) (pe3_var (i := 0)) pe3_int (fun _ _ => rfl)) pe3_int) pa3_nil)) (pe3_var (i := 1))))))))))
theorem ok_law_roll (T : Tx K mg a) {Γ : Gm} (len : ∀ ds G Q E, sp_law_roll K a ds G Q E → ds.length = 2)
    (pl : ∀ ds G Q3 E3, sp_law_roll K a ds G Q3 E3 → T_law_roll K a { nx := fun _ G' => RetC Q3 .non G', rt := RetC Q3, ex := fun cls _ G' => ExC E3 cls G' } (start3 N_law_roll ds) G) :
    Fn3 Γ P w K mg base 1 a.f_law_roll a.d_law_roll ["dice", "many"] (sp_law_roll K a) := fn3 Γ T.u_law_roll.a sc_law_roll len fun cdv A outer s H E hcd hr => ⟨_, w_law_roll T  cdv A outer s H E hr, pl⟩
theorem sc_law_rounds : FnScope N_law_rounds ["script", "most"] (defScope s_law_rounds) := ⟨rfl, rfl, rfl, by decide +kernel, rfl, by decide +kernel, by decide +kernel⟩
theorem w_law_rounds (T : Tx K mg a) {Γ : Gm} (F_law_dice : Fn3 Γ P w K mg base 1 a.f_law_dice a.d_law_dice ["cell"] (sp_law_dice K a)) (cdv : Value) (A : Around) (outer : List Env) (s : Shared) (H : Hp) (E : XK) (hr : Room 1 (A.deeper (envOfC "_law_rounds" (defScope s_law_rounds) s.heap.objs.size a.f_law_rounds cdv))) :
    PSs3 (cxOf (L2.CX P w) P w K mg base N_law_rounds "_law_rounds" (defScope s_law_rounds) a.f_law_rounds cdv A outer s H E) Γ (WE3 E) (defBody s_law_rounds) (T_law_rounds K a) := by
  have tk : Takes (cxOf (L2.CX P w) P w K mg base N_law_rounds "_law_rounds" (defScope s_law_rounds) a.f_law_rounds cdv A outer s H E) (WE3 E) := takes_of rfl rfl rfl rfl
  exact (pss3_cons (ps3_set (i := 2) sc_law_rounds.nd rfl (by first | exact Or.inl rfl | exact Or.inr rfl) (pe3_slice (pe3_var (i := 0)) po3_none (po3_some (pe3_var (i := 1)))))
  (pss3_cons (ps3_if (pt3_cmp (op_eq.or (op_eqD (hu64 hr))) sound_eqC (pe3_var (i := 2)) (pe3_lst pa3_nil) (nomark _)) (pss3_one (ps3_set (i := 2) sc_law_rounds.nd rfl (by first | exact Or.inl rfl | exact Or.inr rfl) (pe3_lst (pa3_cons pe3_int pa3_nil))))
  pss3_nil)
  (pss3_one (ps3_ret (pe3_lc (own := [("cell", 3)]) rfl sc_law_rounds.nd (pi3_list (pe3_var (i := 2))) (blkOk_by (own := [("cell", 3)]) (N := N_law_rounds) (sc := defScope s_law_rounds) (by decide +kernel)) (fun _ _ _ _ _ => (pw3_name (i := 3) (by decide) sc_law_rounds.nd rfl (by first | exact Or.inl rfl | exact Or.inr rfl))) (fun _ _ _ _ _ => pts3_nil) (fun _ _ _ _ _ => (pe3_call F_law_dice (hr.mono (by decide)) (by rfl) T.g_law_dice T.k_law_dice T.b_law_dice .nil dflt_nil takes0 (pa3_cons (pe3_var (i := 3)) pa3_nil))))))))
theorem ok_law_rounds (T : Tx K mg a) {Γ : Gm} (F_law_dice : Fn3 Γ P w K mg base 1 a.f_law_dice a.d_law_dice ["cell"] (sp_law_dice K a)) (len : ∀ ds G Q E, sp_law_rounds K a ds G Q E → ds.length = 2)
    (pl : ∀ ds G Q3 E3, sp_law_rounds K a ds G Q3 E3 → T_law_rounds K a { nx := fun _ G' => RetC Q3 .non G', rt := RetC Q3, ex := fun cls _ G' => ExC E3 cls G' } (start3 N_law_rounds ds) G) :
    Fn3 Γ P w K mg base 2 a.f_law_rounds a.d_law_rounds ["script", "most"] (sp_law_rounds K a) := fn3 Γ T.u_law_rounds.a sc_law_rounds len fun cdv A outer s H E hcd hr => ⟨_, w_law_rounds T F_law_dice cdv A outer s H E hr, pl⟩
theorem sc_law_schema : FnScope N_law_schema ["dice"] (defScope s_law_schema) := ⟨rfl, rfl, rfl, by decide +kernel, rfl, by decide +kernel, by decide +kernel⟩
theorem w_law_schema (T : Tx K mg a) {Γ : Gm} (F_law_roll : Fn3 Γ P w K mg base 1 a.f_law_roll a.d_law_roll ["dice", "many"] (sp_law_roll K a)) (cdv : Value) (A : Around) (outer : List Env) (s : Shared) (H : Hp) (E : XK) (hr : Room 1 (A.deeper (envOfC "_law_schema" (defScope s_law_schema) s.heap.objs.size a.f_law_schema cdv))) :
    PSs3 (cxOf (L2.CX P w) P w K mg base N_law_schema "_law_schema" (defScope s_law_schema) a.f_law_schema cdv A outer s H E) Γ (WE3 E) (defBody s_law_schema) (T_law_schema K a) := by
  have tk : Takes (cxOf (L2.CX P w) P w K mg base N_law_schema "_law_schema" (defScope s_law_schema) a.f_law_schema cdv A outer s H E) (WE3 E) := takes_of rfl rfl rfl rfl
  exact (pss3_cons (ps3_setLc (i := 1) (own := [("name", 2)]) rfl sc_law_schema.nd rfl rfl (sw_true rfl rfl rfl (by decide +kernel)) (pi3_str pe3_str) (blkOk_by (own := [("name", 2)]) (N := N_law_schema) (sc := defScope s_law_schema) (by decide +kernel)) (fun _ _ _ _ _ => (pw3_name (i := 2) (by decide) sc_law_schema.nd rfl (by first | exact Or.inl rfl | exact Or.inr rfl))) (fun _ _ _ _ _ => (pts3_one (pt3_cmp (op_eq.or (op_eqD (hu64 hr))) sound_eqC (pe3_call F_law_roll (hr.mono (by decide)) (by rfl) T.g_law_roll T.k_law_roll T.b_law_roll .nil dflt_nil takes0 (pa3_cons (pe3_var (i := 0)) (pa3_cons pe3_int pa3_nil))) pe3_int (nomark _)))) (fun _ _ _ _ _ => (pe3_tup (pa3_cons (pe3_var (i := 2)) (pa3_cons (pe3_subC (hu1 hr) (pe3_lst (pa3_cons pe3_str (pa3_cons pe3_str pa3_nil))) (pe3_callTy call_int1 sound_int1 (by rfl) T.n_int bt_int (pa3_cons (pe3_cmp (op_eq.or (op_eqD (hu64 hr))) sound_eqC (pe3_call F_law_roll (hr.mono (by decide)) (by rfl) T.g_law_roll T.k_law_roll T.b_law_roll .nil dflt_nil takes0 (pa3_cons (pe3_var (i := 0)) (pa3_cons pe3_int pa3_nil))) pe3_int (nomark _)) pa3_nil)) (fun _ _ => rfl)) pa3_nil)))))
  (pss3_one (ps3_ret (pe3_tup (pa3_cons (pe3_var (i := 1)) (pa3_cons (pe3_callTy (call_dictP rfl) sound_dict (by rfl) T.n_dict bt_dict (pa3_cons (pe3_lc (own := [("name", 2), ("kind", 3)]) rfl sc_law_schema.nd (pi3_list (pe3_var (i := 1))) (blkOk_by (own := [("name", 2), ("kind", 3)]) (N := N_law_schema) (sc := defScope s_law_schema) (by decide +kernel)) (fun _ _ _ _ _ => (pw3_tup (n := 2) rfl (pw3s_cons (pw3_name (i := 2) (by decide) sc_law_schema.nd rfl (by first | exact Or.inl rfl | exact Or.inr rfl)) (pw3s_cons (pw3_name (i := 3) (by decide) sc_law_schema.nd rfl (by first | exact Or.inl rfl | exact Or.inr rfl)) pw3s_nil)))) (fun _ _ _ _ _ => (pts3_one (pt3_cmp op_gt sound_gt (pe3_call F_law_roll (hr.mono (by decide)) (by rfl) T.g_law_roll T.k_law_roll T.b_law_roll .nil dflt_nil takes0 (pa3_cons (pe3_var (i := 0)) (pa3_cons pe3_int pa3_nil))) pe3_int (nomark _)))) (fun _ _ _ _ _ => (pe3_tup (pa3_cons (pe3_var (i := 2)) (pa3_cons (pe3_ifExp (pt3_cmp (op_eq.or (op_eqD (hu64 hr))) sound_eqC (pe3_var (i := 3)) pe3_str (nomark _)) pe3_int pe3_str) pa3_nil))))) pa3_nil)) pa3_nil))))))
theorem ok_law_schema (T : Tx K mg a) {Γ : Gm} (F_law_roll : Fn3 Γ P w K mg base 1 a.f_law_roll a.d_law_roll ["dice", "many"] (sp_law_roll K a)) (len : ∀ ds G Q E, sp_law_schema K a ds G Q E → ds.length = 1)
    (pl : ∀ ds G Q3 E3, sp_law_schema K a ds G Q3 E3 → T_law_schema K a { nx := fun _ G' => RetC Q3 .non G', rt := RetC Q3, ex := fun cls _ G' => ExC E3 cls G' } (start3 N_law_schema ds) G) :
    Fn3 Γ P w K mg base 2 a.f_law_schema a.d_law_schema ["dice"] (sp_law_schema K a) := fn3 Γ T.u_law_schema.a sc_law_schema len fun cdv A outer s H E hcd hr => ⟨_, w_law_schema T F_law_roll cdv A outer s H E hr, pl⟩
theorem sc_law_reads : FnScope N_law_reads ["one", "other"] (defScope s_law_reads) := ⟨rfl, rfl, rfl, by decide +kernel, rfl, by decide +kernel, by decide +kernel⟩
theorem w_law_reads (T : Tx K mg a) {Γ : Gm} (cdv : Value) (A : Around) (outer : List Env) (s : Shared) (H : Hp) (E : XK) (hr : Room 0 (A.deeper (envOfC "_law_reads" (defScope s_law_reads) s.heap.objs.size a.f_law_reads cdv))) :
    PSs3 (cxOf (L2.CX P w) P w K mg base N_law_reads "_law_reads" (defScope s_law_reads) a.f_law_reads cdv A outer s H E) Γ (WE3 E) (defBody s_law_reads) (T_law_reads K a) := by
  have tk : Takes (cxOf (L2.CX P w) P w K mg base N_law_reads "_law_reads" (defScope s_law_reads) a.f_law_reads cdv A outer s H E) (WE3 E) := takes_of rfl rfl rfl rfl
  exact (pss3_one (ps3_ret (pe3_cmp (op_eqNil (hu0 hr)) sound_eqNil (pe3_lc (own := [("name", 2), ("kind", 3)]) rfl sc_law_reads.nd (pi3_list (pe3_subC (hu1 hr) (pe3_var (i := 0)) pe3_int (fun _ _ => rfl))) (blkOk_by (own := [("name", 2), ("kind", 3)]) (N := N_law_reads) (sc := defScope s_law_reads) (by decide +kernel)) (fun _ _ _ _ _ => (pw3_tup (n := 2) rfl (pw3s_cons (pw3_name (i := 2) (by decide) sc_law_reads.nd rfl (by first | exact Or.inl rfl | exact Or.inr rfl)) (pw3s_cons (pw3_name (i := 3) (by decide) sc_law_reads.nd rfl (by first | exact Or.inl rfl | exact Or.inr rfl)) pw3s_nil)))) (fun _ _ _ _ _ => (pts3_one (pt3_ifExp (pt3_cmp (op_in4 (hu65 hr)) sound_inC (pe3_var (i := 2)) (pe3_callTy (call_dictP rfl) sound_dict (by rfl) T.n_dict bt_dict (pa3_cons (pe3_subC (hu1 hr) (pe3_var (i := 1)) pe3_int (fun _ _ => rfl)) pa3_nil)) (by with_unfolding_all rfl)) (pt3_cmp (op_ne.or (op_neD (hu64 hr))) sound_neC (pe3_subC (hu1 hr) (pe3_callTy (call_dictP rfl) sound_dict (by rfl) T.n_dict bt_dict (pa3_cons (pe3_subC (hu1 hr) (pe3_var (i := 1)) pe3_int (fun _ _ => rfl)) pa3_nil)) (pe3_var (i := 2)) (fun _ _ => rfl)) (pe3_var (i := 3)) (nomark _)) (pt3_cmp (op_notIn4 (hu65 hr)) sound_notInC (pe3_var (i := 2)) (pe3_subC (hu1 hr) (pe3_var (i := 0)) pe3_int (fun _ _ => rfl)) (by with_unfolding_all rfl))))) (fun _ _ _ _ _ => (pe3_var (i := 2)))) (pe3_lst pa3_nil) (nomark _))))
theorem ok_law_reads (T : Tx K mg a) {Γ : Gm} (len : ∀ ds G Q E, sp_law_reads K a ds G Q E → ds.length = 2)
    (pl : ∀ ds G Q3 E3, sp_law_reads K a ds G Q3 E3 → T_law_reads K a { nx := fun _ G' => RetC Q3 .non G', rt := RetC Q3, ex := fun cls _ G' => ExC E3 cls G' } (start3 N_law_reads ds) G) :
    Fn3 Γ P w K mg base 1 a.f_law_reads a.d_law_reads ["one", "other"] (sp_law_reads K a) := fn3 Γ T.u_law_reads.a sc_law_reads len fun cdv A outer s H E hcd hr => ⟨_, w_law_reads T  cdv A outer s H E hr, pl⟩
theorem sc_law_fits : FnScope N_law_fits ["rule", "rows", "fresh"] (defScope s_law_fits) := ⟨rfl, rfl, rfl, by decide +kernel, rfl, by decide +kernel, by decide +kernel⟩
theorem w_law_fits (T : Tx K mg a) {Γ : Gm} (F_law_reads : Fn3 Γ P w K mg base 1 a.f_law_reads a.d_law_reads ["one", "other"] (sp_law_reads K a)) (cdv : Value) (A : Around) (outer : List Env) (s : Shared) (H : Hp) (E : XK) (hr : Room 1 (A.deeper (envOfC "_law_fits" (defScope s_law_fits) s.heap.objs.size a.f_law_fits cdv))) :
    PSs3 (cxOf (L2.CX P w) P w K mg base N_law_fits "_law_fits" (defScope s_law_fits) a.f_law_fits cdv A outer s H E) Γ (WE3 E) (defBody s_law_fits) (T_law_fits K a) := by
  have tk : Takes (cxOf (L2.CX P w) P w K mg base N_law_fits "_law_fits" (defScope s_law_fits) a.f_law_fits cdv A outer s H E) (WE3 E) := takes_of rfl rfl rfl rfl
  exact (pss3_cons (ps3_if (PW3.pt (pw3_or (pt3_cmp (op_eqNil (hu0 hr)) sound_eqNil (pe3_var (i := 1)) (pe3_lst pa3_nil) (nomark _)) (pw3_or1 (pt3_cmp (op_eq.or (op_eqD (hu64 hr))) sound_eqC (pe3_var (i := 0)) pe3_str (nomark _))))) (pss3_one (ps3_ret pe3_bl))
  pss3_nil)
  (pss3_cons (ps3_set (i := 3) sc_law_fits.nd rfl (by first | exact Or.inl rfl | exact Or.inr rfl) (pe3_subC (hu1 hr) (pe3_var (i := 1)) (pe3_sub (pe3_callB cr_len4 sound_lenC (by rfl) T.n_len bt_len (pa3_cons (pe3_var (i := 1)) pa3_nil)) pe3_int) (fun _ _ => rfl)))
  (pss3_cons (ps3_if (pt3_cmp (op_eq.or (op_eqD (hu64 hr))) sound_eqC (pe3_var (i := 0)) pe3_str (nomark _)) (pss3_one (ps3_ret (pe3_cmp (op_eqNil (hu0 hr)) sound_eqNil (pe3_lc (own := [("one", 4)]) rfl sc_law_fits.nd (pi3_list (pe3_var (i := 1))) (blkOk_by (own := [("one", 4)]) (N := N_law_fits) (sc := defScope s_law_fits) (by decide +kernel)) (fun _ _ _ _ _ => (pw3_name (i := 4) (by decide) sc_law_fits.nd rfl (by first | exact Or.inl rfl | exact Or.inr rfl))) (fun _ _ _ _ _ => (pts3_one (pt3_not (pt3_val (pe3_call F_law_reads (hr.mono (by decide)) (by rfl) T.g_law_reads T.k_law_reads T.b_law_reads .nil dflt_nil takes0 (pa3_cons (pe3_var (i := 2)) (pa3_cons (pe3_var (i := 4)) pa3_nil))))))) (fun _ _ _ _ _ => (pe3_var (i := 4)))) (pe3_lst pa3_nil) (nomark _))))
  pss3_nil)
  (pss3_one (ps3_ret (pe3_and (pe3_or (pe3_cmp (op_eq.or (op_eqD (hu64 hr))) sound_eqC (pe3_var (i := 0)) pe3_str (nomark _)) (pe3_one (pe3_call F_law_reads (hr.mono (by decide)) (by rfl) T.g_law_reads T.k_law_reads T.b_law_reads .nil dflt_nil tk (pa3_cons (pe3_var (i := 2)) (pa3_cons (pe3_var (i := 3)) pa3_nil))))) (pe3_one (pe3_or (pe3_cmp (op_eq.or (op_eqD (hu64 hr))) sound_eqC (pe3_var (i := 0)) pe3_str (nomark _)) (pe3_one (pe3_call F_law_reads (hr.mono (by decide)) (by rfl) T.g_law_reads T.k_law_reads T.b_law_reads .nil dflt_nil tk (pa3_cons (pe3_var (i := 3)) (pa3_cons (pe3_var (i := 2)) pa3_nil))))))))))))
theorem ok_law_fits (T : Tx K mg a) {Γ : Gm} (F_law_reads : Fn3 Γ P w K mg base 1 a.f_law_reads a.d_law_reads ["one", "other"] (sp_law_reads K a)) (len : ∀ ds G Q E, sp_law_fits K a ds G Q E → ds.length = 3)
    (pl : ∀ ds G Q3 E3, sp_law_fits K a ds G Q3 E3 → T_law_fits K a { nx := fun _ G' => RetC Q3 .non G', rt := RetC Q3, ex := fun cls _ G' => ExC E3 cls G' } (start3 N_law_fits ds) G) :
    Fn3 Γ P w K mg base 2 a.f_law_fits a.d_law_fits ["rule", "rows", "fresh"] (sp_law_fits K a) := fn3 Γ T.u_law_fits.a sc_law_fits len fun cdv A outer s H E hcd hr => ⟨_, w_law_fits T F_law_reads cdv A outer s H E hr, pl⟩
theorem sc_law : FnScope N_law ["script"] (defScope s_law) := ⟨rfl, rfl, rfl, by decide +kernel, rfl, by decide +kernel, by decide +kernel⟩
abbrev lq_law : Str := (envOfC "law" (defScope s_law) 0 0 .none).qual ++ "<lambda>"
def lam_law_0 : LamI := lamI (eltAt (stV ((defBody s_law).getD 3 (.Pass ⟨0, 0, 0, 0⟩))) 0)
def lam_law_1 : LamI := lamI (eltAt (stV ((defBody s_law).getD 3 (.Pass ⟨0, 0, 0, 0⟩))) 1)
def lam_law_2 : LamI := lamI (eltAt (binR (stV ((defBody s_law).getD 4 (.Pass ⟨0, 0, 0, 0⟩)))) 0)
def lam_law_3 : LamI := lamI (eltAt (binR (stV ((defBody s_law).getD 4 (.Pass ⟨0, 0, 0, 0⟩)))) 1)
def lam_law_4 : LamI := lamI (eltAt (binR (stV ((defBody s_law).getD 5 (.Pass ⟨0, 0, 0, 0⟩)))) 0)
def lam_law_5 : LamI := lamI (eltAt (binR (stV ((defBody s_law).getD 5 (.Pass ⟨0, 0, 0, 0⟩)))) 1)
def lam_law_6 : LamI := lamI (eltAt (binR (stV ((defBody s_law).getD 6 (.Pass ⟨0, 0, 0, 0⟩)))) 0)
def lam_law_7 : LamI := lamI (eltAt (binR (stV ((defBody s_law).getD 6 (.Pass ⟨0, 0, 0, 0⟩)))) 1)
def Gam_law (T : List (Addr × Str)) (L : Nat) : Gm := { T := T, cq := fun _ => lq_law, clo := fun i f c => match i with
  | 0 => LamOc lq_law lam_law_0.params lam_law_0.body lam_law_0.scope (cloFrom (envOfC "law" (defScope s_law) L 0 .none).cells lam_law_0.scope.names []) f c
  | 1 => LamOc lq_law lam_law_1.params lam_law_1.body lam_law_1.scope (cloFrom (envOfC "law" (defScope s_law) L 0 .none).cells lam_law_1.scope.names []) f c
  | 2 => LamOc lq_law lam_law_2.params lam_law_2.body lam_law_2.scope (cloFrom (envOfC "law" (defScope s_law) L 0 .none).cells lam_law_2.scope.names []) f c
  | 3 => LamOc lq_law lam_law_3.params lam_law_3.body lam_law_3.scope (cloFrom (envOfC "law" (defScope s_law) L 0 .none).cells lam_law_3.scope.names []) f c
  | 4 => LamOc lq_law lam_law_4.params lam_law_4.body lam_law_4.scope (cloFrom (envOfC "law" (defScope s_law) L 0 .none).cells lam_law_4.scope.names []) f c
  | 5 => LamOc lq_law lam_law_5.params lam_law_5.body lam_law_5.scope (cloFrom (envOfC "law" (defScope s_law) L 0 .none).cells lam_law_5.scope.names []) f c
  | 6 => LamOc lq_law lam_law_6.params lam_law_6.body lam_law_6.scope (cloFrom (envOfC "law" (defScope s_law) L 0 .none).cells lam_law_6.scope.names []) f c
  | 7 => LamOc lq_law lam_law_7.params lam_law_7.body lam_law_7.scope (cloFrom (envOfC "law" (defScope s_law) L 0 .none).cells lam_law_7.scope.names []) f c
  | _ => LamOc lq_law lam_law_0.params lam_law_0.body lam_law_0.scope (cloFrom (envOfC "law" (defScope s_law) L 0 .none).cells lam_law_0.scope.names []) f c }
theorem w_law (T : Tx K mg a) {Tb : List (Addr × Str)} (cdv : Value) (A : Around) (outer : List Env) (s : Shared) (H : Hp) (E : XK) (F_law_rounds : Fn3 (Gam_law Tb s.heap.objs.size) P w K mg base 2 a.f_law_rounds a.d_law_rounds ["script", "most"] (sp_law_rounds K a)) (F_Registry_init : Fn3 (Gam_law Tb s.heap.objs.size) P w K mg base 1 a.f_Registry_init a.d_Registry_init ["self"] (sp_Registry_init K a)) (F_law_roll : Fn3 (Gam_law Tb s.heap.objs.size) P w K mg base 1 a.f_law_roll a.d_law_roll ["dice", "many"] (sp_law_roll K a)) (F_Registry_put_rule : Fn3 (Gam_law Tb s.heap.objs.size) P w K mg base 1 a.f_Registry_put_rule a.d_Registry_put_rule ["self", "subject", "rule"] (sp_Registry_put_rule K a)) (F_law_schema : Fn3 (Gam_law Tb s.heap.objs.size) P w K mg base 2 a.f_law_schema a.d_law_schema ["dice"] (sp_law_schema K a)) (F_Schema_init : Fn3 (Gam_law Tb s.heap.objs.size) P w K mg base 6 a.f_Schema_init a.d_Schema_init ["self", "columns", "lacking"] (sp_Schema_init K a)) (F_law_fits : Fn3 (Gam_law Tb s.heap.objs.size) P w K mg base 2 a.f_law_fits a.d_law_fits ["rule", "rows", "fresh"] (sp_law_fits K a)) (F_Registry_add : Fn3 (Gam_law Tb s.heap.objs.size) P w K mg base 7 a.f_Registry_add a.d_Registry_add ["self", "subject", "schema"] (sp_Registry_add K a)) (F_Registry_fits : Fn3 (Gam_law Tb s.heap.objs.size) P w K mg base 6 a.f_Registry_fits a.d_Registry_fits ["self", "subject", "schema"] (sp_Registry_fits K a)) (F_law_reads : Fn3 (Gam_law Tb s.heap.objs.size) P w K mg base 1 a.f_law_reads a.d_law_reads ["one", "other"] (sp_law_reads K a)) (F_Registry_read : Fn3 (Gam_law Tb s.heap.objs.size) P w K mg base 8 a.f_Registry_read a.d_Registry_read ["self", "subject", "number", "row", "wanted"] (sp_Registry_read K a)) (F_Schema_row_from : Fn3 (Gam_law Tb s.heap.objs.size) P w K mg base 7 a.f_Schema_row_from a.d_Schema_row_from ["self", "other", "row"] (sp_Schema_row_from K a)) (F_Schema_reads : Fn3 (Gam_law Tb s.heap.objs.size) P w K mg base 3 a.f_Schema_reads a.d_Schema_reads ["self", "other"] (sp_Schema_reads K a)) {P0 c0 : Addr} (TB : LamX.TabB base mg c0 P0) (hT : (P0, lq_law) ∈ Tb) (hU : ∀ p ∈ Tb, p.1 = P0 → p.2 = lq_law) (hcode : cdv = .ref c0) (hr : Room 23 (A.deeper (envOfC "law" (defScope s_law) s.heap.objs.size a.f_law cdv))) :
    PSs3 (cxOf (L2.CX P w) P w K mg base N_law "law" (defScope s_law) a.f_law cdv A outer s H E) (Gam_law Tb s.heap.objs.size) (WE3 E) (defBody s_law) (T_law K a) := by
  have tk : Takes (cxOf (L2.CX P w) P w K mg base N_law "law" (defScope s_law) a.f_law cdv A outer s H E) (WE3 E) := takes_of rfl rfl rfl rfl
  obtain ⟨dv_Schema_init_1, ds_Schema_init_1, h3_Schema_init_1, hd_Schema_init_1, hb_Schema_init_1⟩ := T.dd_Schema_init_1
  exact (pss3_cons (ps3_for (passes_of rfl) rfl (pi3_list (pe3_call F_law_rounds (hr.mono (by decide)) (by rfl) T.g_law_rounds T.k_law_rounds T.b_law_rounds .nil dflt_nil tk (pa3_cons (pe3_var (i := 0)) (pa3_cons pe3_int pa3_nil)))) (pg3_name (i := 1) sc_law.nd rfl (by first | exact Or.inl rfl | exact Or.inr rfl))
  (pss3_cons (ps3_asg (pe3_tup (pa3_cons (pe3_make0 T.mk_Registry F_Registry_init (hr.mono (by decide)) (by rfl) T.g_Registry T.b_Registry_init .nil dflt_nil tk) (pa3_cons pe3_dnewK (pa3_cons (pe3_disp (pv3_str (pe3_lst pa3_nil) (pv3_str (pe3_lst pa3_nil) pv3_nil))) pa3_nil)))) (pg3_imp (pg3_tup (n := 3) rfl (pgs3_cons (pg3_name (i := 2) sc_law.nd rfl (by first | exact Or.inl rfl | exact Or.inr rfl)) (pgs3_cons (pg3_name (i := 3) sc_law.nd rfl (by first | exact Or.inl rfl | exact Or.inr rfl)) (pgs3_cons (pg3_name (i := 4) sc_law.nd rfl (by first | exact Or.inl rfl | exact Or.inr rfl)) pgs3_nil))))))
  (pss3_cons (ps3_for (passes_of rfl) rfl (pi3_range1 (by rfl) T.n_range (pa3_cons (pe3_call F_law_roll (hr.mono (by decide)) (by rfl) T.g_law_roll T.k_law_roll T.b_law_roll .nil dflt_nil tk (pa3_cons (pe3_var (i := 1)) (pa3_cons pe3_int pa3_nil))) pa3_nil)) (pg3_name (i := 5) sc_law.nd rfl (by first | exact Or.inl rfl | exact Or.inr rfl))
  (pss3_cons (ps3_set (i := 6) sc_law.nd rfl (by first | exact Or.inl rfl | exact Or.inr rfl) (pe3_subC (hu1 hr) pe3_str (pe3_call F_law_roll (hr.mono (by decide)) (by rfl) T.g_law_roll T.k_law_roll T.b_law_roll .nil dflt_nil tk (pa3_cons (pe3_var (i := 1)) (pa3_cons pe3_int pa3_nil))) (fun _ _ => rfl)))
  (pss3_cons (ps3_if (pt3_cmp (op_eq.or (op_eqD (hu64 hr))) sound_eqC (pe3_call F_law_roll (hr.mono (by decide)) (by rfl) T.g_law_roll T.k_law_roll T.b_law_roll .nil dflt_nil tk (pa3_cons (pe3_var (i := 1)) (pa3_cons pe3_int pa3_nil))) pe3_int (nomark _)) (pss3_cons (ps3_asg (pe3_subC (hu1 hr) (pe3_lst (pa3_cons pe3_str (pa3_cons pe3_str (pa3_cons pe3_str (pa3_cons pe3_str (pa3_cons pe3_str pa3_nil)))))) (pe3_call F_law_roll (hr.mono (by decide)) (by rfl) T.g_law_roll T.k_law_roll T.b_law_roll .nil dflt_nil tk (pa3_cons (pe3_var (i := 1)) (pa3_cons pe3_int pa3_nil))) (fun _ _ => rfl)) (pg3_subC (hu1 hr) (pe3_var (i := 3)) (pe3_var (i := 6))))
  (pss3_cons (ps3_expr (pe3_meth (pe3_var (i := 2)) T.c_Registry T.m_Registry_put_rule F_Registry_put_rule (hr.mono (by decide)) T.b_Registry_put_rule .nil dflt_nil tk (pa3_cons (pe3_var (i := 6)) (pa3_cons (pe3_subC (hu1 hr) (pe3_var (i := 3)) (pe3_var (i := 6)) (fun _ _ => rfl)) pa3_nil))))
  (pss3_cons (ps3_asg (pe3_subC (hu1 hr) (pe3_var (i := 4)) (pe3_var (i := 6)) (fun _ _ => rfl)) (pg3_subC (hu1 hr) (pe3_var (i := 4)) (pe3_var (i := 6))))
  (pss3_one ps3_continue))))
  pss3_nil)
  (pss3_cons (ps3_set (i := 7) sc_law.nd rfl (by first | exact Or.inl rfl | exact Or.inr rfl) (pe3_call F_law_schema (hr.mono (by decide)) (by rfl) T.g_law_schema T.k_law_schema T.b_law_schema .nil dflt_nil tk (pa3_cons (pe3_var (i := 1)) pa3_nil)))
  (pss3_cons (ps3_set (i := 8) sc_law.nd rfl (by first | exact Or.inl rfl | exact Or.inr rfl) (pe3_make T.mk_Schema F_Schema_init (hr.mono (by decide)) (by rfl) T.g_Schema T.b_Schema_init .nil dflt_nil tk (pa3_cons (pe3_subC (hu1 hr) (pe3_var (i := 7)) pe3_int (fun _ _ => rfl)) (pa3_cons (pe3_subC (hu1 hr) (pe3_var (i := 7)) pe3_int (fun _ _ => rfl)) pa3_nil))))
  (pss3_cons (ps3_set (i := 9) sc_law.nd rfl (by first | exact Or.inl rfl | exact Or.inr rfl) (pe3_call F_law_fits (hr.mono (by decide)) (by rfl) T.g_law_fits T.k_law_fits T.b_law_fits .nil dflt_nil tk (pa3_cons (pe3_get2C (hu1 hr) (pe3_var (i := 3)) (pe3_var (i := 6)) pe3_str ⟨rfl, rfl, rfl, rfl⟩) (pa3_cons (pe3_subC (hu1 hr) (pe3_var (i := 4)) (pe3_var (i := 6)) (fun _ _ => rfl)) (pa3_cons (pe3_var (i := 7)) pa3_nil)))))
  (pss3_cons (ps3_if (PW3.pt (pw3_or (pt3_cmp (op_ne.or (op_neD (hu64 hr))) sound_neC (pe3_meth (pe3_var (i := 2)) T.c_Registry T.m_Registry_fits F_Registry_fits (hr.mono (by decide)) T.b_Registry_fits .nil dflt_nil tk (pa3_cons (pe3_var (i := 6)) (pa3_cons (pe3_var (i := 8)) pa3_nil))) (pe3_var (i := 9)) (nomark _)) (pw3_or1 (pt3_cmp (op_ne.or (op_neD (hu64 hr))) sound_neC ((told_ok T).told (k := 16) (by rfl) (by decide) TB hcode hT hU (hr.mono (by decide)) (LamX.lamS_by (sc := defScope s_law) (by decide +kernel)) rfl (fun _ _ _ _ _ => rfl) (fun A outer s H E f c hrl => (pe3_meth (pe3_var (i := 2)) T.c_Registry T.m_Registry_add F_Registry_add (hrl.mono (by decide)) T.b_Registry_add .nil dflt_nil (takes_of rfl rfl rfl rfl) (pa3_cons (pe3_var (i := 6)) (pa3_cons (pe3_var (i := 8)) pa3_nil))))) (pe3_ifExp (pt3_val (pe3_var (i := 9))) (pe3_callB cr_len4 sound_lenC (by rfl) T.n_len bt_len (pa3_cons (pe3_subC (hu1 hr) (pe3_var (i := 4)) (pe3_var (i := 6)) (fun _ _ => rfl)) pa3_nil)) pe3_str) (nomark _))))) (pss3_one (ps3_ret pe3_bl))
  pss3_nil)
  (pss3_one (ps3_asg (pe3_add (pe3_subC (hu1 hr) (pe3_var (i := 4)) (pe3_var (i := 6)) (fun _ _ => rfl)) (pe3_mul (pe3_lst (pa3_cons (pe3_var (i := 7)) pa3_nil)) (pe3_callTy call_int1 sound_int1 (by rfl) T.n_int bt_int (pa3_cons (pe3_var (i := 9)) pa3_nil)))) (pg3_subC (hu1 hr) (pe3_var (i := 4)) (pe3_var (i := 6))))))))))))
  (pss3_one (ps3_lock (p := (pthV 4)) (ps3_for (passes_of rfl) rfl (pi3_keys (pe3_var (i := 4))) (pg3_name (i := 6) sc_law.nd rfl (by first | exact Or.inl rfl | exact Or.inr rfl))
  (pss3_cons (ps3_set (i := 10) sc_law.nd rfl (by first | exact Or.inl rfl | exact Or.inr rfl) (pe3_subC (hu1 hr) (pe3_var (i := 4)) (pe3_var (i := 6)) (fun _ _ => rfl)))
  (pss3_one (ps3_for (passes_of rfl) rfl (pi3_range1 (by rfl) T.n_range (pa3_cons (pe3_callB cr_len4 sound_lenC (by rfl) T.n_len bt_len (pa3_cons (pe3_var (i := 10)) pa3_nil)) pa3_nil)) (pg3_name (i := 11) sc_law.nd rfl (by first | exact Or.inl rfl | exact Or.inr rfl))
  (pss3_cons (ps3_set (i := 12) sc_law.nd rfl (by first | exact Or.inl rfl | exact Or.inr rfl) (pe3_callTy call_tuple_of sound_tup (by rfl) T.n_tuple bt_tuple (pa3_cons (pe3_lc (own := [("name", 21), ("kind", 22)]) rfl sc_law.nd (pi3_list (pe3_subC (hu1 hr) (pe3_subC (hu1 hr) (pe3_var (i := 10)) (pe3_var (i := 11)) (fun _ _ => rfl)) pe3_int (fun _ _ => rfl))) (blkOk_by (own := [("name", 21), ("kind", 22)]) (N := N_law) (sc := defScope s_law) (by decide +kernel)) (fun _ _ _ _ _ => (pw3_tup (n := 2) rfl (pw3s_cons (pw3_name (i := 21) (by decide) sc_law.nd rfl (by first | exact Or.inl rfl | exact Or.inr rfl)) (pw3s_cons (pw3_name (i := 22) (by decide) sc_law.nd rfl (by first | exact Or.inl rfl | exact Or.inr rfl)) pw3s_nil)))) (fun _ _ _ _ _ => pts3_nil) (fun _ _ _ _ _ => (pe3_ifExp (pt3_cmp (op_eq.or (op_eqD (hu64 hr))) sound_eqC (pe3_var (i := 22)) pe3_str (nomark _)) (pe3_call F_law_roll (hr.mono (by decide)) (by rfl) T.g_law_roll T.k_law_roll T.b_law_roll .nil dflt_nil takes0 (pa3_cons (pe3_var (i := 1)) (pa3_cons pe3_int pa3_nil))) (pe3_add pe3_str (pe3_callTy call_str_int sound_str (by rfl) T.n_str bt_str (pa3_cons (pe3_call F_law_roll (hr.mono (by decide)) (by rfl) T.g_law_roll T.k_law_roll T.b_law_roll .nil dflt_nil takes0 (pa3_cons (pe3_var (i := 1)) (pa3_cons pe3_int pa3_nil))) pa3_nil)))))) pa3_nil)))
  (pss3_cons (ps3_set (i := 13) sc_law.nd rfl (by first | exact Or.inl rfl | exact Or.inr rfl) (pe3_dictZip rfl (by rfl) T.n_dict (by rfl) T.n_zip (pa3_cons (pe3_lc (own := [("name", 21), ("kind", 22)]) rfl sc_law.nd (pi3_list (pe3_subC (hu1 hr) (pe3_subC (hu1 hr) (pe3_var (i := 10)) (pe3_var (i := 11)) (fun _ _ => rfl)) pe3_int (fun _ _ => rfl))) (blkOk_by (own := [("name", 21), ("kind", 22)]) (N := N_law) (sc := defScope s_law) (by decide +kernel)) (fun _ _ _ _ _ => (pw3_tup (n := 2) rfl (pw3s_cons (pw3_name (i := 21) (by decide) sc_law.nd rfl (by first | exact Or.inl rfl | exact Or.inr rfl)) (pw3s_cons (pw3_name (i := 22) (by decide) sc_law.nd rfl (by first | exact Or.inl rfl | exact Or.inr rfl)) pw3s_nil)))) (fun _ _ _ _ _ => pts3_nil) (fun _ _ _ _ _ => (pe3_var (i := 21)))) (pa3_cons (pe3_var (i := 12)) pa3_nil))))
  (pss3_one (ps3_for (passes_of rfl) rfl (pi3_range1 (by rfl) T.n_range (pa3_cons (pe3_callB cr_len4 sound_lenC (by rfl) T.n_len bt_len (pa3_cons (pe3_var (i := 10)) pa3_nil)) pa3_nil)) (pg3_name (i := 14) sc_law.nd rfl (by first | exact Or.inl rfl | exact Or.inr rfl))
  (pss3_cons (ps3_set (i := 15) sc_law.nd rfl (by first | exact Or.inl rfl | exact Or.inr rfl) (pe3_call F_law_reads (hr.mono (by decide)) (by rfl) T.g_law_reads T.k_law_reads T.b_law_reads .nil dflt_nil tk (pa3_cons (pe3_subC (hu1 hr) (pe3_var (i := 10)) (pe3_var (i := 14)) (fun _ _ => rfl)) (pa3_cons (pe3_subC (hu1 hr) (pe3_var (i := 10)) (pe3_var (i := 11)) (fun _ _ => rfl)) pa3_nil))))
  (pss3_cons (ps3_set (i := 16) sc_law.nd rfl (by first | exact Or.inl rfl | exact Or.inr rfl) (pe3_ifExp (pt3_val (pe3_var (i := 15))) (pe3_callTy call_tuple_of sound_tup (by rfl) T.n_tuple bt_tuple (pa3_cons (pe3_lc (own := [("name", 21), ("kind", 22)]) rfl sc_law.nd (pi3_list (pe3_subC (hu1 hr) (pe3_subC (hu1 hr) (pe3_var (i := 10)) (pe3_var (i := 14)) (fun _ _ => rfl)) pe3_int (fun _ _ => rfl))) (blkOk_by (own := [("name", 21), ("kind", 22)]) (N := N_law) (sc := defScope s_law) (by decide +kernel)) (fun _ _ _ _ _ => (pw3_tup (n := 2) rfl (pw3s_cons (pw3_name (i := 21) (by decide) sc_law.nd rfl (by first | exact Or.inl rfl | exact Or.inr rfl)) (pw3s_cons (pw3_name (i := 22) (by decide) sc_law.nd rfl (by first | exact Or.inl rfl | exact Or.inr rfl)) pw3s_nil)))) (fun _ _ _ _ _ => pts3_nil) (fun _ _ _ _ _ => (pe3_get2C (hu1 hr) (pe3_var (i := 13)) (pe3_var (i := 21)) (pe3_get1C (hu1 hr) (pe3_subC (hu1 hr) (pe3_subC (hu1 hr) (pe3_var (i := 10)) (pe3_var (i := 14)) (fun _ _ => rfl)) pe3_int (fun _ _ => rfl)) (pe3_var (i := 21)) ⟨rfl, rfl, rfl, rfl⟩) ⟨rfl, rfl, rfl, rfl⟩))) pa3_nil)) pe3_str))
  (pss3_cons (ps3_asg (pe3_tup (pa3_cons (pe3_make T.mk_Schema F_Schema_init (hr.mono (by decide)) (by rfl) T.g_Schema T.b_Schema_init .nil dflt_nil tk (pa3_cons (pe3_subC (hu1 hr) (pe3_subC (hu1 hr) (pe3_var (i := 10)) (pe3_var (i := 14)) (fun _ _ => rfl)) pe3_int (fun _ _ => rfl)) (pa3_cons (pe3_subC (hu1 hr) (pe3_subC (hu1 hr) (pe3_var (i := 10)) (pe3_var (i := 14)) (fun _ _ => rfl)) pe3_int (fun _ _ => rfl)) pa3_nil))) (pa3_cons (pe3_make T.mk_Schema F_Schema_init (hr.mono (by decide)) (by rfl) T.g_Schema T.b_Schema_init .nil dflt_nil tk (pa3_cons (pe3_subC (hu1 hr) (pe3_subC (hu1 hr) (pe3_var (i := 10)) (pe3_var (i := 11)) (fun _ _ => rfl)) pe3_int (fun _ _ => rfl)) (pa3_cons (pe3_subC (hu1 hr) (pe3_subC (hu1 hr) (pe3_var (i := 10)) (pe3_var (i := 11)) (fun _ _ => rfl)) pe3_int (fun _ _ => rfl)) pa3_nil))) pa3_nil))) (pg3_imp (pg3_tup (n := 2) rfl (pgs3_cons (pg3_name (i := 17) sc_law.nd rfl (by first | exact Or.inl rfl | exact Or.inr rfl)) (pgs3_cons (pg3_name (i := 18) sc_law.nd rfl (by first | exact Or.inl rfl | exact Or.inr rfl)) pgs3_nil)))))
  (pss3_one (ps3_if (PW3.pt (pw3_or (pt3_cmp (op_ne.or (op_neD (hu64 hr))) sound_neC (pe3_meth (pe3_var (i := 17)) T.c_Schema T.m_Schema_reads F_Schema_reads (hr.mono (by decide)) T.b_Schema_reads .nil dflt_nil tk (pa3_cons (pe3_var (i := 18)) pa3_nil)) (pe3_var (i := 15)) (nomark _)) (pw3_or (pt3_cmp (op_ne.or (op_neD (hu64 hr))) sound_neC ((told_ok T).told (k := 16) (by rfl) (by decide) TB hcode hT hU (hr.mono (by decide)) (LamX.lamS_by (sc := defScope s_law) (by decide +kernel)) rfl (fun _ _ _ _ _ => rfl) (fun A outer s H E f c hrl => (pe3_meth (pe3_var (i := 17)) T.c_Schema T.m_Schema_row_from F_Schema_row_from (hrl.mono (by decide)) T.b_Schema_row_from .nil dflt_nil (takes_of rfl rfl rfl rfl) (pa3_cons (pe3_var (i := 18)) (pa3_cons (pe3_var (i := 12)) pa3_nil))))) (pe3_var (i := 16)) (nomark _)) (pw3_or1 (pt3_cmp (op_ne.or (op_neD (hu64 hr))) sound_neC ((told_ok T).told (k := 16) (by rfl) (by decide) TB hcode hT hU (hr.mono (by decide)) (LamX.lamS_by (sc := defScope s_law) (by decide +kernel)) rfl (fun _ _ _ _ _ => rfl) (fun A outer s H E f c hrl => (pe3_meth (pe3_var (i := 2)) T.c_Registry T.m_Registry_read F_Registry_read (hrl.mono (by decide)) T.b_Registry_read .nil dflt_nil (takes_of rfl rfl rfl rfl) (pa3_cons (pe3_var (i := 6)) (pa3_cons (pe3_var (i := 11)) (pa3_cons (pe3_var (i := 12)) (pa3_cons (pe3_var (i := 14)) pa3_nil))))))) (pe3_var (i := 16)) (nomark _)))))) (pss3_one (ps3_ret pe3_bl))
  pss3_nil))))))))))))))))))
  (pss3_cons (ps3_set (i := 19) sc_law.nd rfl (by first | exact Or.inl rfl | exact Or.inr rfl) (pe3_make0 T.mk_Registry F_Registry_init (hr.mono (by decide)) (by rfl) T.g_Registry T.b_Registry_init .nil dflt_nil tk))
  (pss3_cons (ps3_expr (pe3_meth (pe3_var (i := 19)) T.c_Registry T.m_Registry_add F_Registry_add (hr.mono (by decide)) T.b_Registry_add .nil dflt_nil tk (pa3_cons pe3_str (pa3_cons (pe3_make T.mk_Schema F_Schema_init (hr.mono (by decide)) (by rfl) T.g_Schema hb_Schema_init_1 hd_Schema_init_1 h3_Schema_init_1 tk (pa3_cons (pe3_lst (pa3_cons (pe3_tup (pa3_cons pe3_str (pa3_cons pe3_str pa3_nil))) pa3_nil)) pa3_nil)) pa3_nil))))
  (pss3_cons (ps3_set (i := 20) sc_law.nd rfl (by first | exact Or.inl rfl | exact Or.inr rfl) (pe3_lst (pa3_cons (pe3_cloC (i := 0) (l := lam_law_0) (fun _ _ => rfl) TB hcode rfl hT hU rfl (LamX.lamS_by (sc := defScope s_law) (by decide +kernel))) (pa3_cons (pe3_cloC (i := 1) (l := lam_law_1) (fun _ _ => rfl) TB hcode rfl hT hU rfl (LamX.lamS_by (sc := defScope s_law) (by decide +kernel))) pa3_nil))))
  (pss3_cons (ps3_set (i := 20) sc_law.nd rfl (by first | exact Or.inl rfl | exact Or.inr rfl) (pe3_add (pe3_var (i := 20)) (pe3_lst (pa3_cons (pe3_cloC (i := 2) (l := lam_law_2) (fun _ _ => rfl) TB hcode rfl hT hU rfl (LamX.lamS_by (sc := defScope s_law) (by decide +kernel))) (pa3_cons (pe3_cloC (i := 3) (l := lam_law_3) (fun _ _ => rfl) TB hcode rfl hT hU rfl (LamX.lamS_by (sc := defScope s_law) (by decide +kernel))) pa3_nil)))))
  (pss3_cons (ps3_set (i := 20) sc_law.nd rfl (by first | exact Or.inl rfl | exact Or.inr rfl) (pe3_add (pe3_var (i := 20)) (pe3_lst (pa3_cons (pe3_cloC (i := 4) (l := lam_law_4) (fun _ _ => rfl) TB hcode rfl hT hU rfl (LamX.lamS_by (sc := defScope s_law) (by decide +kernel))) (pa3_cons (pe3_cloC (i := 5) (l := lam_law_5) (fun _ _ => rfl) TB hcode rfl hT hU rfl (LamX.lamS_by (sc := defScope s_law) (by decide +kernel))) pa3_nil)))))
  (pss3_cons (ps3_set (i := 20) sc_law.nd rfl (by first | exact Or.inl rfl | exact Or.inr rfl) (pe3_add (pe3_var (i := 20)) (pe3_lst (pa3_cons (pe3_cloC (i := 6) (l := lam_law_6) (fun _ _ => rfl) TB hcode rfl hT hU rfl (LamX.lamS_by (sc := defScope s_law) (by decide +kernel))) (pa3_cons (pe3_cloC (i := 7) (l := lam_law_7) (fun _ _ => rfl) TB hcode rfl hT hU rfl (LamX.lamS_by (sc := defScope s_law) (by decide +kernel))) pa3_nil)))))
  (pss3_one (ps3_ret (pe3_and (pe3_cmp (op_eq.or (op_eqD (hu64 hr))) sound_eqC (pe3_lcB (k := 16) (own := [("f", 23)]) (told_ok T) rfl sc_law.nd (pi3_list (pe3_var (i := 20))) (blkOk_by (own := [("f", 23)]) (N := N_law) (sc := defScope s_law) (by decide +kernel)) (fun _ _ _ _ _ => (pw3_name (i := 23) (by decide) sc_law.nd rfl (by first | exact Or.inl rfl | exact Or.inr rfl))) (fun _ _ _ _ _ => by rfl) (by rfl) (hr.mono (by decide)) (fun _ _ _ _ _ => (pe3_var (i := 23))) (fun _ _ => rfl) (fun i t h => match i, t, h with
  | 0, t, h => by
    cases h
    exact ⟨lam_law_0, fun _ _ => rfl, rfl, LamX.lamS_by (sc := defScope s_law) (by decide +kernel), fun _ _ _ _ _ => rfl, fun A outer s H E f c hrl => (pe3_make T.mk_Schema F_Schema_init (hrl.mono (by decide)) (by rfl) T.g_Schema T.b_Schema_init .nil dflt_nil (takes_of rfl rfl rfl rfl) (pa3_cons (pe3_lst (pa3_cons (pe3_tup (pa3_cons pe3_str (pa3_cons pe3_str pa3_nil))) pa3_nil)) (pa3_cons (pe3_disp (pv3_str pe3_int pv3_nil)) pa3_nil)))⟩
  | 1, t, h => by
    cases h
    exact ⟨lam_law_1, fun _ _ => rfl, rfl, LamX.lamS_by (sc := defScope s_law) (by decide +kernel), fun _ _ _ _ _ => rfl, fun A outer s H E f c hrl => (pe3_make T.mk_Schema F_Schema_init (hrl.mono (by decide)) (by rfl) T.g_Schema T.b_Schema_init .nil dflt_nil (takes_of rfl rfl rfl rfl) (pa3_cons (pe3_lst (pa3_cons (pe3_tup (pa3_cons pe3_str (pa3_cons pe3_str pa3_nil))) pa3_nil)) (pa3_cons (pe3_disp (pv3_str pe3_str pv3_nil)) pa3_nil)))⟩
  | 2, t, h => by
    cases h
    exact ⟨lam_law_2, fun _ _ => rfl, rfl, LamX.lamS_by (sc := defScope s_law) (by decide +kernel), fun _ _ _ _ _ => rfl, fun A outer s H E f c hrl => (pe3_meth (pe3_var (i := 19)) T.c_Registry T.m_Registry_put_rule F_Registry_put_rule (hrl.mono (by decide)) T.b_Registry_put_rule .nil dflt_nil (takes_of rfl rfl rfl rfl) (pa3_cons pe3_str (pa3_cons pe3_str pa3_nil)))⟩
  | 3, t, h => by
    cases h
    exact ⟨lam_law_3, fun _ _ => rfl, rfl, LamX.lamS_by (sc := defScope s_law) (by decide +kernel), fun _ _ _ _ _ => rfl, fun A outer s H E f c hrl => (pe3_meth (pe3_var (i := 19)) T.c_Registry T.m_Registry_read F_Registry_read (hrl.mono (by decide)) T.b_Registry_read .nil dflt_nil (takes_of rfl rfl rfl rfl) (pa3_cons pe3_str (pa3_cons pe3_int (pa3_cons (pe3_tup (pa3_cons pe3_int pa3_nil)) (pa3_cons pe3_int pa3_nil)))))⟩
  | 4, t, h => by
    cases h
    exact ⟨lam_law_4, fun _ _ => rfl, rfl, LamX.lamS_by (sc := defScope s_law) (by decide +kernel), fun _ _ _ _ _ => rfl, fun A outer s H E f c hrl => (pe3_meth (pe3_var (i := 19)) T.c_Registry T.m_Registry_read F_Registry_read (hrl.mono (by decide)) T.b_Registry_read .nil dflt_nil (takes_of rfl rfl rfl rfl) (pa3_cons pe3_str (pa3_cons pe3_int (pa3_cons (pe3_tup (pa3_cons pe3_int pa3_nil)) (pa3_cons pe3_int pa3_nil)))))⟩
  | 5, t, h => by
    cases h
    exact ⟨lam_law_5, fun _ _ => rfl, rfl, LamX.lamS_by (sc := defScope s_law) (by decide +kernel), fun _ _ _ _ _ => rfl, fun A outer s H E f c hrl => (pe3_meth (pe3_var (i := 19)) T.c_Registry T.m_Registry_read F_Registry_read (hrl.mono (by decide)) T.b_Registry_read .nil dflt_nil (takes_of rfl rfl rfl rfl) (pa3_cons pe3_str (pa3_cons (pe3_neg pe3_int) (pa3_cons (pe3_tup (pa3_cons pe3_int pa3_nil)) (pa3_cons pe3_int pa3_nil)))))⟩
  | 6, t, h => by
    cases h
    exact ⟨lam_law_6, fun _ _ => rfl, rfl, LamX.lamS_by (sc := defScope s_law) (by decide +kernel), fun _ _ _ _ _ => rfl, fun A outer s H E f c hrl => (pe3_meth (pe3_var (i := 19)) T.c_Registry T.m_Registry_read F_Registry_read (hrl.mono (by decide)) T.b_Registry_read .nil dflt_nil (takes_of rfl rfl rfl rfl) (pa3_cons pe3_str (pa3_cons pe3_int (pa3_cons (pe3_tup (pa3_cons pe3_str pa3_nil)) (pa3_cons pe3_int pa3_nil)))))⟩
  | 7, t, h => by
    cases h
    exact ⟨lam_law_7, fun _ _ => rfl, rfl, LamX.lamS_by (sc := defScope s_law) (by decide +kernel), fun _ _ _ _ _ => rfl, fun A outer s H E f c hrl => (pe3_meth (pe3_var (i := 19)) T.c_Registry T.m_Registry_add F_Registry_add (hrl.mono (by decide)) T.b_Registry_add .nil dflt_nil (takes_of rfl rfl rfl rfl) (pa3_cons pe3_str (pa3_cons (pe3_make T.mk_Schema F_Schema_init (hrl.mono (by decide)) (by rfl) T.g_Schema hb_Schema_init_1 hd_Schema_init_1 h3_Schema_init_1 (takes_of rfl rfl rfl rfl) (pa3_cons (pe3_lst (pa3_cons (pe3_tup (pa3_cons pe3_str (pa3_cons pe3_str pa3_nil))) pa3_nil)) pa3_nil)) pa3_nil)))⟩
  | n + 8, t, h => by simp [lams_law] at h) (fun _ _ _ _ _ => (op_ne.or (op_neD (hu64 hr)))) sound_neC (fun _ _ _ _ _ => pe3_str) (nomark _) (fun _ _ _ _ _ => pe3_int)) (pe3_lst pa3_nil) (nomark _)) (pe3_and (pe3_cmp (op_eq.or (op_eqD (hu64 hr))) sound_eqC (pe3_meth (pe3_var (i := 19)) T.c_Registry T.m_Registry_add F_Registry_add (hr.mono (by decide)) T.b_Registry_add .nil dflt_nil tk (pa3_cons pe3_str (pa3_cons (pe3_make T.mk_Schema F_Schema_init (hr.mono (by decide)) (by rfl) T.g_Schema T.b_Schema_init .nil dflt_nil tk (pa3_cons (pe3_lst (pa3_cons (pe3_tup (pa3_cons pe3_str (pa3_cons pe3_str pa3_nil))) (pa3_cons (pe3_tup (pa3_cons pe3_str (pa3_cons pe3_str pa3_nil))) pa3_nil))) (pa3_cons (pe3_disp (pv3_str pe3_str pv3_nil)) pa3_nil))) pa3_nil))) pe3_int (nomark _)) (pe3_and (pe3_cmp (op_eq.or (op_eqD (hu64 hr))) sound_eqC (pe3_meth (pe3_var (i := 19)) T.c_Registry T.m_Registry_read F_Registry_read (hr.mono (by decide)) T.b_Registry_read .nil dflt_nil tk (pa3_cons pe3_str (pa3_cons pe3_int (pa3_cons (pe3_tup (pa3_cons pe3_int pa3_nil)) (pa3_cons pe3_int pa3_nil))))) (pe3_tup (pa3_cons pe3_int (pa3_cons pe3_str pa3_nil))) (nomark _)) (pe3_one (pe3_cmp (op_eq.or (op_eqD (hu64 hr))) sound_eqC (pe3_meth (pe3_var (i := 19)) T.c_Registry T.m_Registry_read F_Registry_read (hr.mono (by decide)) T.b_Registry_read .nil dflt_nil tk (pa3_cons pe3_str (pa3_cons pe3_int (pa3_cons (pe3_tup (pa3_cons pe3_int (pa3_cons pe3_str pa3_nil))) (pa3_cons pe3_int pa3_nil))))) (pe3_tup (pa3_cons pe3_int pa3_nil)) (nomark _)))))))))))))))
end
end K10
namespace K10
open PySem PySem.Spec PyProof.Rows L2 L3
variable {K : PySem.W.Frag} {a : Ad} {mg : Str → Option Value}
theorem kD_eq (b c : Bool) : eq3 (kD b) (kD c) = decide (b = c) := by cases b <;> cases c <;> decide +kernel
theorem kD_gd (n : Nat) (b : Bool) : gd n (kD b) = true := by cases b <;> (rw [kD, gd_str]; decide +kernel)
@[simp] theorem neC_kD (b c : Bool) (G : Gp) (Q : K3) : neC (kD b) (kD c) G Q = Q (.bl (!decide (b = c))) G := by cases b <;> cases c <;> simp [kD] <;> rfl
@[simp] theorem eqC_kD (b c : Bool) (G : Gp) (Q : K3) : eqC (kD b) (kD c) G Q = Q (.bl (decide (b = c))) G := by cases b <;> cases c <;> simp [kD] <;> rfl
theorem cod_kD : Cod 0 kD := ⟨kD_eq, kD_gd 0⟩
theorem keyD_inB (b : Bool) : inB (kD b) [.str "int", .str "text"] = true := by cases b <;> decide +kernel
theorem colsD_pairs (cs : Cols) : colsD cs = pairsD (cs.map fun c => (.inr c.1, kD c.2)) := by
  simp [colsD, pairsD, List.map_map, Function.comp_def, colD, keyD]
theorem colsK (cs : Cols) : (cs.map fun c => ((.inr c.1 : Key), kD c.2)) = sK kD cs := rfl
theorem lackK (ls : Lack) : lackD ls = sK keyD ls := rfl
theorem eq3_tuF (xs ys : List D) : eq3 (.nod .tuF xs) (.nod .tuF ys) = eq3 (.tup xs) (.tup ys) := rfl
theorem gd_tuF (n : Nat) (xs : List D) : gd (n + 1) (.nod .tuF xs) = xs.all (gd n) := by simp [gd]
theorem pl_kind_of : ∀ ds G Q3 E3, sp_kind_of K a ds G Q3 E3 → T_kind_of K a (endsOf Q3 E3) (start3 N_kind_of ds) G := by
  rintro ds G Q3 E3 ⟨k, rfl, hk, q⟩
  cases k with
  | inl i => simp [T_kind_of, keyD, isiB]; exact RetC.now q
  | inr x =>
    obtain ⟨h1, h2, h3⟩ := hk x rfl
    simp [T_kind_of, keyD, isiB, IStr, chars]
    refine anyM (fun c : Nat => D.str ⟨#[c]⟩) (fun _ => false) x.cps.toList (fun c hc K1 K2 g1 g2 => ?_) (sizeLe h3 (by decide)) ?_
    · simp [inC, itemsC, c_LETTERS, wipe3]
      have := h1 c (by simpa using hc)
      rw [decide_eq_true (by simpa using this : c ∈ z_LETTERS.cps)]
      exact g1 rfl
    · rw [any_ff]
      exact RetC.now q
theorem pl_Shape_kinds (T : Tx K mg a) : ∀ ds G Q3 E3, sp_Shape_kinds K a ds G Q3 E3 → T_Shape_kinds K a (endsOf Q3 E3) (start3 N_Shape_kinds ds) G := by
  rintro ds G Q3 E3 ⟨b, cs, rfl, hb, hl, q⟩
  simp [T_Shape_kinds, hb, List.lookup, T.c_Shape, T.na_Shape_columns, colsD]
  refine lcRunM colD (fun _ => true) (fun c => kD c.2) cs [] (fun c hc K1 K2 h1 h2 => ?_) (by simp; exact sizeLe hl (by decide)) ?_
  · simp [colD]
    exact h1 rfl
  · simp [filt_true]
    exact RetC.now q
theorem pl_Shape_check_row (T : Tx K mg a) : ∀ ds G Q3 E3, sp_Shape_check_row K a ds G Q3 E3 → T_Shape_check_row K a (endsOf Q3 E3) (start3 N_Shape_check_row ds) G := by
  rintro ds G Q3 E3 ⟨b, cs, vs, rfl, hb, hl, hl2, hk, q⟩
  simp [T_Shape_check_row, rowD, isiB]
  refine lcRunM keyD (fun _ => true) (fun k => kD (kindK k)) vs [] (fun k hk' K1 K2 h1 h2 => ?_) (by simp; exact sizeLe hl2 (by decide)) ?_
  · simp [sp_kind_of]
    exact ⟨k, rfl, hk k hk', h1 rfl⟩
  · simp [filt_true, hb, List.lookup, sp_Shape_kinds]
    refine ⟨cs, rfl, hl, ?_⟩
    have e1 : (vs.map fun k => kD (kindK k)) = (vs.map kindK).map kD := by simp
    have e2 : (cs.map fun c => kD c.2) = (cs.map (·.2)).map kD := by simp
    rw [e1, e2]
    simp only [neC_nn, gd_tuF, eq3_tuF]
    have g1 : ∀ bs : List Bool, gd 60 (.nod .tuF (bs.map kD)) = true := fun bs => by rw [gd_tuF]; exact cod_kD.all (Nat.zero_le _) bs
    refine ⟨g1 _, g1 _, ?_⟩
    simp only [cod_kD.eqt]
    unfold fitsRow at q
    by_cases h : vs.map kindK = cs.map (·.2)
    · rw [if_pos (by simpa using h)] at q
      simp [h]
      exact RetC.now q
    · rw [if_neg (by simpa using h)] at q
      simp [h]
      exact ExC.now q
theorem pl_Shape_init (T : Tx K mg a) : ∀ ds G Q3 E3, sp_Shape_init K a ds G Q3 E3 → T_Shape_init K a (endsOf Q3 E3) (start3 N_Shape_init ds) G := by
  rintro ds G Q3 E3 ⟨b, cs, rfl, hb, hc, q⟩
  have hl := hc.ln
  simp [T_Shape_init, tupFC, colsD]
  refine lcRunM colD (fun _ => true) (fun c => .str c.1) cs [] (fun c hc K1 K2 h1 h2 => ?_) (by simp; exact sizeLe hl (by decide)) ?_
  · simp [colD]
    exact h1 rfl
  · simp [filt_true, c_MOST_COLUMNS]
    rw [if_neg (by omega)]
    refine dcRunM (fun c : Str × Bool => D.str c.1) (fun c => .inr c.1) (fun _ => .bl true) cs [] (fun c hc N1 N2 h1 => ?_) (by simp; exact sizeLe hl (by decide)) ?_
    · simp
      exact ⟨.inr c.1, rfl, h1⟩
    · intro p hp
      have e1 : merge [] (cs.map fun c => ((.inr c.1 : Key), D.bl true)) = sK (fun _ => .bl true) cs := merge_nil (nd_sK (fun _ : Bool => D.bl true) hc.nd)
      rw [e1]
      simp [len_sK]
      refine anyM colD (fun _ => false) cs (fun c hc' K1 K2 g1 g2 => ?_) (sizeLe hl (by decide)) ?_
      · have h0 := hc.ne c hc'
        simp [colD, h0.1, wipe3, inC, c_KINDS, kD, flat3]
        have := keyD_inB c.2
        simp only [kD] at this
        simp [this]
        exact g1 rfl
      · have nbp : b ≠ p := gp_new hb hp
        simp [gset_ne nbp, hb]
        refine ⟨T.c_Shape, T.na_Shape_columns, RetC.now (q _ ?_ ?_)⟩
        · simp [putD]
          rfl
        · exact (Kp.new hp).puts (by simp)
end K10
namespace K10
open PySem PySem.Spec PyProof.Rows L2 L3
variable {K : PySem.W.Frag} {a : Ad} {mg : Str → Option Value}
theorem LdNe.mono {G G' : Gp} {b x : Addr} {g : GO} (h : LdNe G b x) (e : G b = some g) (e' : G' b = some g) : LdNe G' b x := fun C sh ld z => h C sh ld (by rw [e, ← e', z])
theorem SchAt.kp {C S : Addr} {as : List Addr} {G G' : Gp} {b : Addr} {cs : Cols} {ls : Lack} (h : SchAt C S G b cs ls) (k : Kp as G G') (n1 : ∀ x ∈ as, ∀ C fs, G x ≠ some (.ins C fs)) (n2 : ∀ x ∈ as, LdNe G b x) : SchAt C S G' b cs ls := by
  obtain ⟨sh, ld, e1, e2, e3⟩ := h.ob
  refine ⟨⟨sh, ld, k _ _ e1 fun z => n1 _ z _ _ e1, k _ _ e2 fun z => n1 _ z _ _ e2, k _ _ e3 fun z => n2 _ z _ _ _ e1 rfl⟩, h.co, h.lo⟩
theorem SchAt.kp0 {C S : Addr} {G G' : Gp} {b : Addr} {cs : Cols} {ls : Lack} (h : SchAt C S G b cs ls) (k : Kp [] G G') : SchAt C S G' b cs ls := h.kp k (by simp) (by simp)
theorem SchAt.ld {C S : Addr} {as : List Addr} {G G' : Gp} {b : Addr} {cs : Cols} {ls : Lack} (h : SchAt C S G b cs ls) (k : Kp as G G') (n1 : ∀ x ∈ as, ∀ C fs, G x ≠ some (.ins C fs)) {x : Addr} (l : LdNe G b x) : LdNe G' b x := by
  obtain ⟨sh, ld, e1, e2, e3⟩ := h.ob
  exact l.mono e1 (k _ _ e1 fun z => n1 _ z _ _ e1)
theorem dictF_cols (cs : Cols) (hc : ColsOk cs) : merge [] (cs.map fun c => ((.inr c.1 : Key), kD c.2)) = sK kD cs := merge_nil (nd_sK kD hc.nd)
theorem dictFC_cols {cs : Cols} {G : Gp} {Q : K3} (hc : ColsOk cs) (q : ∀ p, G p = none → Q (.ref p) (gset G p (.dK (sK kD cs)))) : dictFC [.nod .tuF (colsD cs)] G Q := ⟨_, by rw [colsD_pairs], by rw [dictF_cols cs hc]; exact q⟩
theorem look_cols {cs : Cols} (hc : ColsOk cs) {c : Str × Bool} (h : c ∈ cs) : look cs c.1 = some c.2 := look_mem' hc.nd h
theorem look_lack {ls : Lack} (hc : LackOk ls) {c : Str × Key} (h : c ∈ ls) : look ls c.1 = some c.2 := look_mem' hc.nd h
theorem pl_Schema_init (T : Tx K mg a) : ∀ ds G Q3 E3, sp_Schema_init K a ds G Q3 E3 → T_Schema_init K a (endsOf Q3 E3) (start3 N_Schema_init ds) G := by
  rintro ds G Q3 E3 ⟨b, cs, x, ls, rfl, hx, hb, hc, hk, q⟩
  have key : ∀ (sh ld p : Addr) (v : D) (G2 : Gp), G2 b = some (.ins a.Schema [("shape", .ref sh), ("lacking", .ref ld)]) → G2 sh = some (.ins a.Shape [("columns", .nod .tuF (colsD cs))]) → G2 ld = some (.dK (lackD ls)) → G2 p = some (.dK (sK kD cs)) → p ≠ ld → G ld = none → Kp [b] G G2 →
      (TIfS (TTest (TLkE (pthF 0 "lacking") (TAnyG (IKeys (TFld K "lacking" (TVar 0))) (GName 4) TYes (TOrV (TOp (inC true) (TVar 4) (TVar 3)) (TOp neC (TCall (sp_kind_of K a) [] (TCons (TOp subC (TFld K "lacking" (TVar 0)) (TVar 4)) TNil)) (TOp subC (TVar 3) (TVar 4)))) [4]))) (TRaise a.RowError (TCons (TC (.str "it stands for nothing")) TNil))
  TNext) (endsOf Q3 E3) [some (.ref b), some (.lst (colsD cs)), some v, some (.ref p), none] G2 := by
    intro sh ld p v G2 e1 e2 e3 e4 hn hGl kp
    have nbl : b ≠ ld := gp_ne e1 e3 nofun
    have nbp : b ≠ p := gp_ne e1 e4 nofun
    simp [TLkE, pthF, e1, List.lookup, e3, IKeys, gset_ne nbl, T.c_Schema, T.na_Schema_lacking]
    have e5 : (lackD ls).map (fun x => keyD x.1) = ls.map fun p : Str × Key => D.str p.1 := by simp [lackD, keyD]
    rw [show ((fun a : Key × D => keyD a.1) = fun x => keyD x.1) from rfl, e5]
    refine anyM (fun p : Str × Key => D.str p.1) (fun p => !decide (look cs p.1 = some (kindK p.2))) ls (fun p hp K1 K2 g1 g2 => ?_) (sizeLe hk.ln (by decide)) ?_
    · have e6 : look (lackD ls) (.inr p.1) = some (keyD p.2) := by rw [lackK, look_sK, look_lack hk hp]; rfl
      have e7 : look (sK kD cs) (.inr p.1) = (look cs p.1).map kD := look_sK kD cs p.1
      have g1 := g1 rfl
      simp [wipe3, inC, itemsC, tabC, gset_ne hn, e4, e7]
      cases hc2 : look cs p.1 with
      | none =>
        rw [hc2] at g1
        simp
        simpa using g1
      | some k =>
        rw [hc2] at g1
        simp [gset_ne nbl, e1, List.lookup, T.c_Schema, T.na_Schema_lacking, subC, itemsC, tabC, e6, gset_ne hn, e4, e7, hc2, sp_kind_of]
        refine ⟨p.2, rfl, hk.vl p hp, ?_⟩
        have e8 : (!decide (k = kindK p.2)) = !decide (kindK p.2 = k) := by by_cases z : k = kindK p.2 <;> simp [z, eq_comm]
        simp only [Option.some.injEq, e8] at g1
        exact g1
    · have e9 : (ls.any fun p => !decide (look cs p.1 = some (kindK p.2))) = !lackFits cs ls := by
        unfold lackFits
        rw [List.not_all_eq_any_not]
      rw [e9]
      simp [gset_self e3]
      have q := q G2 kp
      cases h : lackFits cs ls with
      | true =>
        rw [h] at q
        simp
        exact RetC.now (q ⟨⟨sh, ld, e1, e2, e3⟩, hc, hk⟩ fun u hu C sh' ld' z hz => by rw [e1] at z; cases z; exact hu (hz ▸ hGl))
      | false =>
        rw [h] at q
        simp
        exact ExC.now (q : E3 _ _)
  have dc : ∀ (G' : Gp) (Q : K3), (∀ l, x = .ref l → G' l = some (.dK (lackD ls))) → (∀ p, G' p = none → Q (.ref p) (gset G' p (.dK (lackD ls)))) → dictC2 [x] G' Q := by
    intro G' Q h1 h2
    rcases hx with ⟨l, rfl, _, _⟩ | ⟨rfl, rfl⟩
    · simp [dictC2, dictCR, h1 l rfl]
      exact h2
    · simp [dictC2]
      exact h2
  simp [T_Schema_init]
  intro sh hsh
  simp [sp_Shape_init]
  refine ⟨sh, cs, ⟨rfl, rfl⟩, gset_same, hc, fun G1 h1 k1 => ?_⟩
  have nbs : b ≠ sh := gp_new hb hsh
  have e1 : G1 b = some (.ins a.Schema []) := k1 _ _ (by rw [gset_ne nbs]; exact hb) (by simpa using nbs)
  simp [e1, T.c_Schema, T.na_Schema_shape, putD]
  refine dc _ _ (fun l e => ?_) fun ld hld => ?_
  · rcases hx with ⟨l', rfl, g1, g2⟩ | ⟨rfl, rfl⟩
    · cases e
      have n1 : l ≠ sh := gp_new g1 hsh
      rw [gset_ne g2]
      exact k1 _ _ (by rw [gset_ne n1]; exact g1) (by simpa using n1)
    · cases e
  · have nlb : b ≠ ld := fun e => by rw [← e, gset_same] at hld; cases hld
    rw [gset_ne nlb.symm] at hld
    have nsl : sh ≠ ld := gp_new h1 hld
    simp [gset_ne nlb, T.c_Schema, T.na_Schema_lacking, T.na_Schema_shape, putD, List.lookup, gset_ne nbs.symm, gset_ne nsl, h1, T.c_Shape, T.na_Shape_columns]
    refine dictFC_cols hc fun p hp => ?_
    have npb : b ≠ p := fun e => by rw [← e, gset_same] at hp; cases hp
    rw [gset_ne npb.symm] at hp
    have npl : p ≠ ld := fun e => by rw [e, gset_same] at hp; cases hp
    rw [gset_ne npl, gset_ne npb.symm] at hp
    have nps : sh ≠ p := gp_new h1 hp
    have k2 : Kp [b] G G1 := (Kp.new hsh).transN k1 fun x hx => .inr (by rw [List.mem_singleton.mp hx]; exact hsh)
    have := key sh ld p x (gset (gset (gset (gset G1 b (.ins a.Schema [("shape", .ref sh)])) ld (.dK (lackD ls))) b (.ins a.Schema [("shape", .ref sh), ("lacking", .ref ld)])) p (.dK (sK kD cs)))
      (by rw [gset_ne npb, gset_same]) (by rw [gset_ne nps, gset_ne nbs.symm, gset_ne nsl, gset_ne nbs.symm]; exact h1) (by rw [gset_ne npl.symm, gset_ne nlb.symm, gset_same]) gset_same npl (k2.none hld (by simpa using nlb.symm)) ?_
    · simpa using this
    · exact (((k2.puts (by simp)).put (k2.none hld (by simpa using nlb.symm))).puts (by simp)).put (k2.none hp (by simpa using npb.symm))
theorem all_cols {cs : Cols} {ls : Lack} {cs2 : Cols} {G : Gp} {Q : K3} {δ0 : St3} {g : TG3} {te : TE3} (h : Q (.bl (readsB cs ls cs2)) G) (hl : cs.length ≤ 20)
    (hs : ∀ c ∈ cs, LcStep δ0 g TYes te G (colD c) true (.bl (match look cs2 c.1 with | some k => decide (k = c.2) | none => (look ls c.1).isSome))) : AllRun δ0 g TYes te Q (colsD cs) G :=
  allM colD _ cs hs (sizeLe hl (by decide)) h
theorem pl_Schema_reads (T : Tx K mg a) : ∀ ds G Q3 E3, sp_Schema_reads K a ds G Q3 E3 → T_Schema_reads K a (endsOf Q3 E3) (start3 N_Schema_reads ds) G := by
  rintro ds G Q3 E3 ⟨b, cs, ls, b2, cs2, ls2, rfl, h1, h2, q⟩
  obtain ⟨sh, ld, e1, e2, e3⟩ := h1.ob
  obtain ⟨sh2, ld2, f1, f2, f3⟩ := h2.ob
  simp [T_Schema_reads, f1, f2, List.lookup, T.c_Schema, T.na_Schema_shape, T.na_Schema_lacking, T.c_Shape, T.na_Shape_columns]
  refine dictFC_cols h2.co fun p hp => ?_
  have n1 : b ≠ p := gp_new e1 hp
  have n2 : sh ≠ p := gp_new e2 hp
  have n3 : ld ≠ p := gp_new e3 hp
  simp [gset_ne n1, gset_ne n2, e1, e2, List.lookup, T.c_Schema, T.na_Schema_shape, T.na_Schema_lacking, T.c_Shape, T.na_Shape_columns]
  refine all_cols (ls := ls) (cs2 := cs2) ?_ h1.co.ln (fun c hc K1 K2 g1 g2 => ?_)
  · exact RetC.now (q _ (Kp.new hp))
  · have g1 := g1 rfl
    have e7 : look (sK kD cs2) (.inr c.1) = (look cs2 c.1).map kD := look_sK kD cs2 c.1
    have e8 : look (lackD ls) (.inr c.1) = (look ls c.1).map keyD := look_sK keyD ls c.1
    cases h5 : look cs2 c.1 with
    | none =>
      rw [h5] at g1
      simp [colD, wipe3, inC, itemsC, tabC, e7, e8, h5, gset_ne n1, gset_ne n2, gset_ne n3, e1, e3, List.lookup, T.c_Schema, T.na_Schema_lacking]
      simpa using g1
    | some k =>
      rw [h5] at g1
      simp [colD, wipe3, inC, itemsC, tabC, subC, e7, e8, h5, gset_ne n1, gset_ne n2, gset_ne n3, e1, e3, List.lookup, T.c_Schema, T.na_Schema_lacking]
      exact g1
end K10
namespace K10
open PySem PySem.Spec PyProof.Rows L2 L3
variable {K : PySem.W.Frag} {a : Ad} {mg : Str → Option Value}
theorem enum_cols (cs : Cols) : enumD (colsD cs) = cs.zipIdx.map fun p => D.tup [.int p.2, colD p.1] := by
  unfold enumD colsD
  rw [List.mapIdx_eq_zipIdx_map, List.zipIdx_map, List.map_map]
  rfl
theorem vals_of {cs : Cols} {vs : List Key} (h : vs.length = cs.length) : (cs.zipIdx.map fun p => ((.inr p.1.1 : Key), ((vs[p.2]?).map keyD).getD .non)) = sK keyD ((cs.map (·.1)).zip vs) := by
  refine List.ext_getElem? fun i => ?_
  simp only [sK, List.getElem?_map, List.getElem?_zipIdx, List.getElem?_zip_eq_some, Nat.zero_add]
  by_cases hi : i < cs.length
  · have hv : i < vs.length := by omega
    rw [List.getElem?_eq_getElem hi]
    rw [List.getElem?_eq_getElem (l := (cs.map (·.1)).zip vs) (by simp; omega)]
    simp [hv]
  · rw [List.getElem?_eq_none (by omega), List.getElem?_eq_none (l := (cs.map (·.1)).zip vs) (by simp; omega)]
    rfl
theorem pl_Schema_row_from (T : Tx K mg a) : ∀ ds G Q3 E3, sp_Schema_row_from K a ds G Q3 E3 → T_Schema_row_from K a (endsOf Q3 E3) (start3 N_Schema_row_from ds) G := by
  rintro ds G Q3 E3 ⟨b, cs, ls, b2, cs2, ls2, vs, rfl, h1, h2, hl, hk, q⟩
  obtain ⟨sh, ld, e1, e2, e3⟩ := h1.ob
  obtain ⟨sh2, ld2, f1, f2, f3⟩ := h2.ob
  simp [T_Schema_row_from, e1, List.lookup]
  unfold sp_Schema_reads
  refine ⟨b, cs, ls, b2, cs2, ls2, rfl, h1, h2, fun G1 k1 => ?_⟩
  replace e1 := k1.at0 e1
  replace e2 := k1.at0 e2
  replace e3 := k1.at0 e3
  replace f1 := k1.at0 f1
  replace f2 := k1.at0 f2
  cases hr : readsB cs ls cs2 with
  | false =>
    have q := q G1 k1
    rw [hr] at q
    simp
    exact ExC.now q
  | true =>
    simp [f1, f2, List.lookup, T.c_Schema, T.na_Schema_shape]
    unfold sp_Shape_check_row
    refine ⟨sh2, cs2, vs, rfl, f2, h2.co.ln, hl, hk, ?_⟩
    cases hf : fitsRow cs2 vs with
    | false =>
      have q := q G1 k1
      rw [hr, hf] at q
      simp
      exact ExC.now q
    | true =>
      simp [f1, f2, List.lookup, T.c_Schema, T.na_Schema_shape, T.c_Shape, T.na_Shape_columns, IEnumF, enum_cols]
      have hlen : vs.length = cs2.length := by
        unfold fitsRow at hf
        have := congrArg List.length (of_decide_eq_true hf)
        simpa using this
      refine dcRunM (fun p : (Str × Bool) × Nat => D.tup [.int p.2, colD p.1]) (fun p => .inr p.1.1) (fun p => ((vs[p.2]?).map keyD).getD .non) cs2.zipIdx [] (fun p hp N1 N2 g1 => ?_) (by simp; exact sizeLe h2.co.ln (by decide)) ?_
      · have hp2 : p.2 < vs.length := by
          have := List.mem_zipIdx hp
          omega
        simp [wipe3, colD, subC, itemsC]
        refine ⟨.inr p.1.1, rfl, ?_⟩
        have e : atI (vs.map keyD) (p.2 : Int) = (vs[p.2]?).map keyD := by rw [atI_at (by simpa using hp2), List.getElem?_map]
        rw [List.getElem?_eq_getElem hp2] at e g1
        simp [rowD, itemsC, e]
        exact g1
      · intro p hp
        rw [vals_of hlen]
        have nd2 : (((cs2.map (·.1)).zip vs).map (·.1)).Nodup := by
          rw [List.map_fst_zip (by simp [hlen])]
          exact h2.co.nd
        rw [merge_nil (nd_sK keyD nd2)]
        have n1 : b ≠ p := gp_new e1 hp
        have n2 : sh ≠ p := gp_new e2 hp
        have n3 : ld ≠ p := gp_new e3 hp
        simp [gset_ne n1, gset_ne n2, e1, e2, List.lookup, T.c_Schema, T.na_Schema_shape, T.c_Shape, T.na_Shape_columns]
        refine lcRunM colD (fun _ => true) (fun c => match look ((cs2.map (·.1)).zip vs) c.1 with | some v => keyD v | none => ((look ls c.1).map keyD).getD .non) cs [] (fun c hc K1 K2 g1 g2 => ?_) (by simp; exact sizeLe h1.co.ln (by decide)) ?_
        · have g1 := g1 rfl
          have e7 : look (sK keyD ((cs2.map (·.1)).zip vs)) (.inr c.1) = (look ((cs2.map (·.1)).zip vs) c.1).map keyD := look_sK keyD _ c.1
          have e8 : look (lackD ls) (.inr c.1) = (look ls c.1).map keyD := look_sK keyD ls c.1
          simp [colD, wipe3, isDC, tabC, e7, e8, gset_ne n1, gset_ne n2, gset_ne n3, e1, e3, List.lookup, T.c_Schema, T.na_Schema_lacking]
          cases h5 : look ((cs2.map (·.1)).zip vs) c.1 with
          | none =>
            rw [h5] at g1
            simpa using g1
          | some v =>
            rw [h5] at g1
            simpa using g1
        · simp [filt_true]
          have q := q _ (k1.put (f := p) (o := .dK (sK keyD ((cs2.map (·.1)).zip vs))) (k1.none hp (by simp)))
          rw [hr, hf] at q
          exact RetC.now q
end K10
namespace K10
open PySem PySem.Spec PyProof.Rows L2 L3
variable {K : PySem.W.Frag} {a : Ad} {mg : Str → Option Value}
theorem lits : PyData.strOk "back" = true ∧ PyData.strOk "forth" = true ∧ PyData.strOk "both" = true ∧ PyData.strOk "all" = true ∧ PyData.strOk "free" = true := by decide +kernel
theorem rulesK (ru : Rules) : (ru.map fun p => ((.inr p.1 : Key), D.str p.2)) = sK .str ru := rfl
theorem subjK (tb : Subj) : (tb.map fun t => ((.inr t.1 : Key), D.ref t.2.1)) = sK (fun p => .ref p.1) tb := rfl
theorem atI_last {α : Type} (xs : List α) : atI xs (-1) = xs.getLast? := by
  unfold atI ixN
  rw [if_neg (by decide)]
  rcases List.eq_nil_or_concat xs with rfl | ⟨l, x, rfl⟩
  · simp
  · simp only [List.concat_eq_append, List.length_append, List.length_singleton]
    rw [if_pos (by omega)]
    simp only [Option.bind_some]
    rw [show ((-1 : Int) + ((l.length + 1 : Nat) : Int)).toNat = l.length by omega]
    simp
theorem pl_Registry_init (T : Tx K mg a) : ∀ ds G Q3 E3, sp_Registry_init K a ds G Q3 E3 → T_Registry_init K a (endsOf Q3 E3) (start3 N_Registry_init ds) G := by
  rintro ds G Q3 E3 ⟨b, rfl, hb, q⟩
  simp [T_Registry_init, TDNewK]
  intro s hs
  have n1 : b ≠ s := gp_new hb hs
  simp [gset_ne n1, hb, putD, T.c_Registry, T.na_Registry_schemas]
  intro u hu
  have n2 : b ≠ u := fun e => by rw [← e, gset_same] at hu; cases hu
  rw [gset_ne n2.symm] at hu
  have n3 : s ≠ u := fun e => by rw [← e, gset_same] at hu; cases hu
  rw [gset_ne n3.symm] at hu
  simp [gset_ne n2, putD, T.c_Registry, T.na_Registry_rules]
  refine RetC.now (q _ s u ⟨gset_same, ?_, ?_, ?_, ?_, ?_, ?_, ?_, ?_, ?_, ?_, ?_, ?_⟩ hs hu ?_)
  · rw [gset_ne n1.symm, gset_ne n3, gset_ne n1.symm, gset_same]; rfl
  · rw [gset_ne n2.symm, gset_same]; rfl
  · intro x hx; cases hx
  · intro x hx; cases hx
  · intro x hx; cases hx
  · exact n3
  · simp
  · simp
  · simp
  · intro x hx; cases hx
  · intro x hx; cases hx
  · simp
  exact (((Kp.new hs).puts (by simp)).put hu).puts (by simp)
theorem RegAt.rules {G G' : Gp} {r s u : Addr} {tb : Subj} {ru ru' : Rules} (h : RegAt a G r s u tb ru) (k : Kp [u] G G') (e : G' u = some (.dK (sK .str ru'))) (nd : (ru'.map (·.1)).Nodup) (rr : ∀ p ∈ ru', RuleOk p.2) (ln : ru'.length ≤ 100) : RegAt a G' r s u tb ru' := by
  have hu := h.ou
  have n0 : ∀ x ∈ [u], ∀ C fs, G x ≠ some (.ins C fs) := by simp [hu]
  refine ⟨k _ _ h.ob ?_, k _ _ h.os ?_, e, fun t ht => k _ _ (h.ol t ht) ?_, fun t ht q hq => (h.sc t ht q hq).kp k n0 ?_, fun t ht q hq => ?_, h.nu, h.ns, h.nl, nd, h.so, rr, ⟨h.ln.1, h.ln.2.1, ln⟩⟩
  · simpa using gp_ne h.ob hu nofun
  · simpa using h.nu
  · simpa using gp_ne (h.ol t ht) hu nofun
  · intro x hx
    rw [List.mem_singleton.mp hx]
    exact (h.su t ht q hq).1
  · exact ⟨(h.sc t ht q hq).ld k n0 (h.su t ht q hq).1, (h.sc t ht q hq).ld k n0 (h.su t ht q hq).2⟩
theorem pl_Registry_put_rule (T : Tx K mg a) : ∀ ds G Q3 E3, sp_Registry_put_rule K a ds G Q3 E3 → T_Registry_put_rule K a (endsOf Q3 E3) (start3 N_Registry_put_rule ds) G := by
  rintro ds G Q3 E3 ⟨r, s, u, tb, ru, x, y, rfl, h, hl, hy, q1, q2⟩
  have ho := h.ob
  have hu := h.ou
  rw [rulesK] at hu
  have hin : ∀ y : Str, RuleOk y → ((.str y : D) ∈ ([.str "back", .str "forth", .str "both", .str "all", .str "free"] : List D)) := by
    rintro y (rfl | rfl | rfl | rfl | rfl) <;> simp
  simp [T_Registry_put_rule, inC, itemsC]
  rcases hy with hy | rfl
  · have h1 : PyData.strOk y = true := by rcases hy with rfl | rfl | rfl | rfl | rfl <;> decide +kernel
    have h2 : inB (.str y) [.str "back", .str "forth", .str "both", .str "all", .str "free"] = true := by rcases hy with rfl | rfl | rfl | rfl | rfl <;> decide +kernel
    simp [h1, h2, ho, List.lookup, T.c_Registry, T.na_Registry_rules, setC, hu, len_sK]
    have e : put (sK D.str ru) (.inr x) (.str y) = sK D.str (put ru x y) := put_sK D.str ru x y
    rw [e]
    refine ⟨sizeLe (m := 5) (by decide) (by decide), lits, sizeLt hl (by decide), RetC.now (q1 hy _ (put ru x y) (h.rules (Kp.set (by simp)) gset_same (put_nodup h.nr) (fun p hp => ?_) ?_) (fun z => look_put ru x y z) (put_len ru x y) (Kp.set (by simp)))⟩
    · rcases mem_put hp with rfl | ⟨h3, _⟩
      · exact hy
      · exact h.rr p h3
    · have := put_len ru x y
      omega
  · have h1 : PyData.strOk "fly" = true := by decide +kernel
    have h2 : inB (.str "fly") [.str "back", .str "forth", .str "both", .str "all", .str "free"] = false := by decide +kernel
    simp [h1, h2]
    exact ⟨sizeLe (m := 5) (by decide) (by decide), lits, ExC.now (q2 rfl)⟩
theorem pl_Registry_fits (T : Tx K mg a) : ∀ ds G Q3 E3, sp_Registry_fits K a ds G Q3 E3 → T_Registry_fits K a (endsOf Q3 E3) (start3 N_Registry_fits ds) G := by
  rintro ds G Q3 E3 ⟨r, s, u, tb, ru, x, c, cs, ls, rfl, h, hc, q⟩
  have ho := h.ob
  have hs := h.os
  have hu := h.ou
  rw [rulesK] at hu
  rw [subjK] at hs
  have e1 : look (sK D.str ru) (.inr x) = (look ru x).map D.str := look_sK D.str ru x
  have e2 : look (sK (fun p : Addr × List Kept => D.ref p.1) tb) (.inr x) = (look tb x).map fun p => D.ref p.1 := look_sK _ tb x
  have e3 : (Option.map D.str (look ru x)).getD (.str "back") = .str (ruleOf ru x) := by
    unfold ruleOf
    cases look ru x <;> rfl
  simp [T_Registry_fits, ho, hu, hs, List.lookup, T.c_Registry, T.na_Registry_rules, T.na_Registry_schemas, isDC, tabC, e1, e2, e3]
  generalize ruleOf ru x = rule at q ⊢
  cases h5 : look tb x with
  | none =>
    have q := q G Kp.refl
    simp only [keptOf, h5] at q
    simp
    exact RetC.now q
  | some p =>
    obtain ⟨l, ks⟩ := p
    have hm := look_some h5
    have hl : G l = some (.lst (ks.map fun k => .ref k.1)) := h.ol _ hm
    have hne : ks ≠ [] := h.so _ hm
    obtain ⟨k0, hk0⟩ : ∃ k0, ks.getLast? = some k0 := by
      cases e : ks.getLast? with
      | none => exact absurd (List.getLast?_eq_none_iff.mp e) hne
      | some k0 => exact ⟨k0, rfl⟩
    have hmem : k0 ∈ ks := List.mem_of_getLast? hk0
    have hq : keptOf tb x = ks := by simp [keptOf, h5]
    rw [hq] at q
    have hlast : atI (ks.map fun k => D.ref k.1) (-1) = some (.ref k0.1) := by rw [atI_last, List.getLast?_map, hk0]; rfl
    simp [hl, hne]
    by_cases hf : rule = "free"
    · have q := q G Kp.refl
      simp [fitsB, hk0, hf] at q
      simp [hf]
      exact RetC.now q
    · simp [hf]
      have hs0 := h.sc _ hm k0 hmem
      obtain ⟨sh, ld, f1, f2, f3⟩ := hc.ob
      obtain ⟨sh0, ld0, g1, g2, g3⟩ := hs0.ob
      by_cases ha : rule = "all"
      · simp [ha, TLkE, pthV, hl, ILk]
        have kl : ∀ {C S : Addr} {b : Addr} {cs : Cols} {ls : Lack}, SchAt C S G b cs ls → SchAt C S (gset G l (.lkL (ks.map fun k => .ref k.1))) b cs ls := fun w => by
          obtain ⟨sh, ld, f1, f2, f3⟩ := w.ob
          exact ⟨⟨sh, ld, by rw [gset_ne (gp_ne f1 hl nofun)]; exact f1, by rw [gset_ne (gp_ne f2 hl nofun)]; exact f2, by rw [gset_ne (gp_ne f3 hl nofun)]; exact f3⟩, w.co, w.lo⟩
        refine allI (fun k : Kept => D.ref k.1) (fun k => readsB cs ls k.2.1) (fun G' => Kp [] (gset G l (.lkL (ks.map fun k => .ref k.1))) G') ks Kp.refl (fun k hk G1 k1 K1 K2 w => ?_) (sizeLe (h.ln.2.1 _ hm) (by decide)) (fun G1 k1 => ?_)
        · have hck := (kl hc).kp0 k1
          obtain ⟨sh1, ld1, f4, f5, f6⟩ := hck.ob
          simp [wipe3, f4, List.lookup]
          unfold sp_Schema_reads
          exact ⟨_, _, _, _, _, _, rfl, hck, (kl (h.sc _ hm k hk)).kp0 k1, fun G2 k2 => w _ (k1.trans k2 (by simp))⟩
        · have q := q _ (k1.lock hl)
          have hf2 : decide (("all" : Str) = "free") = false := by decide +kernel
          simp [fitsB, hk0, ha, hf2] at q
          exact RetC.now q
      · simp [ha]
        have q : ∀ G', Kp [] G G' → Q3 (.bl ((decide (rule = "forth") || readsB cs ls k0.2.1) && (decide (rule = "back") || readsB k0.2.1 k0.2.2 cs))) G' := fun G' k => by
          have q := q G' k
          simp [fitsB, hk0, hf, ha] at q
          exact q
        have subl : ∀ G' Q, Kp [] G G' → Q (.ref k0.1) G' → subC (.ref l) (.int (-1)) G' Q := fun G' Q k w => by
          simp [subC, itemsC, k.at0 hl, hlast]
          exact w
        by_cases h6 : rule = "forth"
        · have h7 : rule ≠ "back" := by rw [h6]; decide +kernel
          simp only [h6, decide_true, Bool.true_or, Bool.true_and] at q ⊢
          have h8 : decide (("forth" : Str) = "back") = false := by decide +kernel
          simp only [h8, Bool.false_or] at q ⊢
          refine subl _ _ Kp.refl ?_
          simp [g1, List.lookup]
          unfold sp_Schema_reads
          exact ⟨_, _, _, _, _, _, rfl, hs0, hc, fun G2 k2 => RetC.now (q G2 k2)⟩
        · simp only [h6, decide_false, Bool.false_or] at q ⊢
          simp [f1, List.lookup]
          refine subl _ _ Kp.refl ?_
          unfold sp_Schema_reads
          refine ⟨_, _, _, _, _, _, rfl, hc, hs0, fun G2 k2 => ?_⟩
          cases h9 : readsB cs ls k0.2.1 with
          | false =>
            have q := q G2 k2
            rw [h9] at q
            exact RetC.now q
          | true =>
            simp only [h9, Bool.true_and] at q ⊢
            by_cases h7 : rule = "back"
            · simp only [h7, decide_true, Bool.true_or] at q ⊢
              exact RetC.now (q G2 k2)
            · simp only [h7, decide_false, Bool.false_or] at q ⊢
              refine subl _ _ k2 ?_
              simp [k2.at0 g1, List.lookup]
              exact ⟨_, _, _, _, ⟨rfl, rfl⟩, hs0.kp0 k2, _, ⟨_, hc.kp0 k2⟩, fun G3 k3 => RetC.now (q G3 (k2.trans k3 (by simp)))⟩
theorem RegAt.kp0 {G G' : Gp} {r s u : Addr} {tb : Subj} {ru : Rules} (h : RegAt a G r s u tb ru) (k : Kp [] G G') : RegAt a G' r s u tb ru :=
  ⟨k.at0 h.ob, k.at0 h.os, k.at0 h.ou, fun t ht => k.at0 (h.ol t ht), fun t ht q hq => (h.sc t ht q hq).kp0 k, fun t ht q hq => ⟨(h.sc t ht q hq).ld k (by simp) (h.su t ht q hq).1, (h.sc t ht q hq).ld k (by simp) (h.su t ht q hq).2⟩, h.nu, h.ns, h.nl, h.nr, h.so, h.rr, h.ln⟩
theorem pl_Registry_read (T : Tx K mg a) : ∀ ds G Q3 E3, sp_Registry_read K a ds G Q3 E3 → T_Registry_read K a (endsOf Q3 E3) (start3 N_Registry_read ds) G := by
  rintro ds G Q3 E3 ⟨r, s, u, tb, ru, x, i, vs, j, rfl, h, hl, hk, q⟩
  have ho := h.ob
  have hs := h.os
  rw [subjK] at hs
  have e2 : look (sK (fun p : Addr × List Kept => D.ref p.1) tb) (.inr x) = (look tb x).map fun p => D.ref p.1 := look_sK _ tb x
  simp [T_Registry_read, ho, hs, List.lookup, T.c_Registry, T.na_Registry_schemas, isDC, tabC, e2]
  cases h5 : look tb x with
  | none =>
    have q := q G Kp.refl
    simp [keptOf, h5] at q
    have q := ExC.now q
    simp
    by_cases h0 : 0 ≤ i
    · simp [h0, q]
    · simp only [h0, decide_false]
      exact q
  | some p =>
    obtain ⟨l, ks⟩ := p
    have hm := look_some h5
    have hl : G l = some (.lst (ks.map fun k => .ref k.1)) := h.ol _ hm
    have hq : keptOf tb x = ks := by simp [keptOf, h5]
    rw [hq] at q
    simp [hl]
    by_cases hi : 0 ≤ i ∧ i < ks.length
    · obtain ⟨i0, i1⟩ := hi
      have i2 : i.toNat < ks.length := by omega
      rw [if_pos i0, List.getElem?_eq_getElem i2] at q
      simp only [i0, decide_true]
      rw [if_neg (by omega)]
      by_cases hj : 0 ≤ j ∧ j < ks.length
      · obtain ⟨j0, j1⟩ := hj
        have j2 : j.toNat < ks.length := by omega
        rw [if_pos j0, List.getElem?_eq_getElem j2] at q
        simp only [j0, decide_true]
        rw [if_neg (by omega)]
        have at_ : ∀ (z : Int) (h0 : 0 ≤ z) (h2 : z.toNat < ks.length), atI (ks.map fun k => D.ref k.1) z = some (.ref (ks[z.toNat].1)) := fun z h0 h2 => by
          obtain ⟨n, rfl⟩ : ∃ n : Nat, z = (n : Int) := ⟨z.toNat, by omega⟩
          have h2 : n < ks.length := by simpa using h2
          rw [atI_at (by simpa using h2)]
          simp [h2]
        have hi := h.sc _ hm _ (List.getElem_mem i2)
        have hj := h.sc _ hm _ (List.getElem_mem j2)
        obtain ⟨sh0, ld0, g1, g2, g3⟩ := hj.ob
        simp [subC, itemsC, hl, at_ i i0 i2, at_ j j0 j2, g1, List.lookup]
        unfold sp_Schema_row_from
        refine ⟨_, _, _, _, _, _, _, rfl, hj, hi, ‹_›, hk, fun G1 k1 => ?_⟩
        have q := q G1 k1
        simp only at q
        split
        · rename_i z
          rw [if_pos z] at q
          exact RetC.now q
        · rename_i z
          rw [if_neg z] at q
          exact ExC.now q
      · have q := q G Kp.refl
        have e : (if 0 ≤ j then ks[j.toNat]? else none) = none := by
          by_cases h0 : 0 ≤ j
          · rw [if_pos h0, List.getElem?_eq_none (by omega)]
          · rw [if_neg h0]
        rw [e] at q
        have q := ExC.now q
        by_cases h0 : 0 ≤ j
        · simp only [h0, decide_true]
          rw [if_pos (by omega)]
          exact q
        · simp only [h0, decide_false]
          exact q
    · have q := q G Kp.refl
      have e : (if 0 ≤ i then ks[i.toNat]? else none) = none := by
        by_cases h0 : 0 ≤ i
        · rw [if_pos h0, List.getElem?_eq_none (by omega)]
        · rw [if_neg h0]
      rw [e] at q
      have q := ExC.now q
      by_cases h0 : 0 ≤ i
      · simp only [h0, decide_true]
        rw [if_pos (by omega)]
        exact q
      · simp only [h0, decide_false]
        exact q
end K10
namespace K10
open PySem PySem.Spec PyProof.Rows L2 L3
variable {K : PySem.W.Frag} {a : Ad} {mg : Str → Option Value}
theorem ldne_lst {C S : Addr} {G : Gp} {b l : Addr} {cs : Cols} {ls : Lack} {xs : List D} (h : SchAt C S G b cs ls) (e : G l = some (.lst xs)) : LdNe G b l := fun C' sh' ld' z => by
  obtain ⟨sh, ld, e1, e2, e3⟩ := h.ob
  rw [e1] at z
  cases z
  exact gp_ne e3 e nofun
/-- a subject's list is made longer, or new -/
theorem RegAt.added {G G' : Gp} {r s u l : Addr} {tb : Subj} {ru : Rules} {x : Str} {ks : List Kept} {c : Addr} {cs : Cols} {ls : Lack} (h : RegAt a G r s u tb ru) (hc : SchAt a.Schema a.Shape G c cs ls) (h1 : LdNe G c u) (h2 : LdNe G c s) (n1 : tb.length ≤ 90) (n2 : ∀ t ∈ tb, t.2.2.length ≤ 90)
    (hx : look tb x = some (l, ks) ∨ (look tb x = none ∧ G l = none ∧ ks = []))
    (k : Kp (s :: tb.map (·.2.1)) G G') (kl : ∀ y, y ≠ s → y ≠ l → ∀ g, G y = some g → G' y = some g) (e1 : G' s = some (.dK (sK (fun p => .ref p.1) (put tb x (l, ks ++ [(c, cs, ls)]))))) (e2 : G' l = some (.lst ((ks ++ [(c, cs, ls)]).map fun k => .ref k.1))) :
    RegAt a G' r s u (put tb x (l, ks ++ [(c, cs, ls)])) ru := by
  have n0 : ∀ y ∈ s :: tb.map (·.2.1), ∀ C fs, G y ≠ some (.ins C fs) := by
    intro y hy C fs e
    rcases List.mem_cons.mp hy with rfl | hy
    · rw [h.os] at e; cases e
    · obtain ⟨t, ht, rfl⟩ := List.mem_map.mp hy
      rw [h.ol t ht] at e; cases e
  have ln : ∀ {b : Addr} {cs : Cols} {ls : Lack}, SchAt a.Schema a.Shape G b cs ls → LdNe G b s → ∀ y ∈ s :: tb.map (·.2.1), LdNe G b y := by
    intro b cs ls hb hs y hy
    rcases List.mem_cons.mp hy with rfl | hy
    · exact hs
    · obtain ⟨t, ht, rfl⟩ := List.mem_map.mp hy
      exact ldne_lst hb (h.ol t ht)
  have hkl : ∀ q ∈ ks, SchAt a.Schema a.Shape G q.1 q.2.1 q.2.2 ∧ LdNe G q.1 u ∧ LdNe G q.1 s := by
    intro q hq
    rcases hx with hx | ⟨_, _, rfl⟩
    · exact ⟨h.sc _ (look_some hx) q hq, h.su _ (look_some hx) q hq⟩
    · cases hq
  have hlen : ks.length ≤ 90 := by
    rcases hx with hx | ⟨_, _, rfl⟩
    · exact n2 _ (look_some hx)
    · simp
  have each : ∀ t ∈ put tb x (l, ks ++ [(c, cs, ls)]), ∀ q ∈ t.2.2, SchAt a.Schema a.Shape G q.1 q.2.1 q.2.2 ∧ LdNe G q.1 u ∧ LdNe G q.1 s := by
    intro t ht q hq
    rcases mem_put ht with rfl | ⟨ht, _⟩
    · rcases List.mem_append.mp hq with hq | hq
      · exact hkl q hq
      · rw [List.mem_singleton.mp hq]
        exact ⟨hc, h1, h2⟩
    · exact ⟨h.sc t ht q hq, h.su t ht q hq⟩
  have hls : l ≠ s := by
    rintro rfl
    rw [e1] at e2
    cases e2
  refine ⟨k _ _ h.ob fun z => n0 _ z _ _ h.ob, e1, kl _ h.nu.symm ?_ _ h.ou, fun t ht => ?_, fun t ht q hq => (each t ht q hq).1.kp k n0 (ln (each t ht q hq).1 (each t ht q hq).2.2), fun t ht q hq => ?_, h.nu, put_nodup h.ns, ?_, h.nr, fun t ht => ?_, h.rr, ⟨?_, fun t ht => ?_, h.ln.2.2⟩⟩
  · rintro rfl
    rcases hx with hx | ⟨_, hx, _⟩
    · have := h.ol _ (look_some hx)
      simp only at this
      rw [h.ou] at this
      cases this
    · rw [h.ou] at hx
      cases hx
  · rcases mem_put ht with rfl | ⟨ht, hne⟩
    · exact e2
    · refine kl _ ?_ ?_ _ (h.ol t ht)
      · exact gp_ne (h.ol t ht) h.os nofun
      · intro e
        rcases hx with hx | ⟨_, hx, _⟩
        · have := nodup_inj h.nl ht (look_some hx) e
          exact hne (by rw [this])
        · rw [← e, h.ol t ht] at hx
          cases hx
  · obtain ⟨w1, w2, w3⟩ := each t ht q hq
    exact ⟨w1.ld k n0 w2, w1.ld k n0 w3⟩
  · rcases hx with hx | ⟨hx, hl, _⟩
    · rw [put_alike (w := (l, ks ++ [(c, cs, ls)])) (fun p : Str × Addr × List Kept => p.2.1) h.ns hx rfl]
      exact h.nl
    · rw [put_new (look_none.mp hx), List.map_append]
      refine List.nodup_append.mpr ⟨h.nl, by simp, fun y hy z hz => ?_⟩
      obtain ⟨t, ht, rfl⟩ := List.mem_map.mp hy
      simp only [List.map_cons, List.map_nil, List.mem_singleton] at hz
      rw [hz]
      exact gp_new (h.ol t ht) hl
  · rcases mem_put ht with rfl | ⟨ht, hne⟩
    · simp
    · exact h.so t ht
  · have := put_len tb x (l, ks ++ [(c, cs, ls)])
    omega
  · rcases mem_put ht with rfl | ⟨ht, hne⟩
    · simp; omega
    · exact h.ln.2.1 t ht
theorem pl_Registry_add (T : Tx K mg a) : ∀ ds G Q3 E3, sp_Registry_add K a ds G Q3 E3 → T_Registry_add K a (endsOf Q3 E3) (start3 N_Registry_add ds) G := by
  rintro ds G Q3 E3 ⟨r, s, u, tb, ru, x, c, cs, ls, rfl, h, hc, h1, h2, n1, n2, q⟩
  simp [T_Registry_add, h.ob, List.lookup]
  unfold sp_Registry_fits
  refine ⟨r, s, u, tb, ru, x, c, cs, ls, rfl, h, hc, fun G1 k1 => ?_⟩
  cases hf : fitsB (ruleOf ru x) ((keptOf tb x).map (·.2)) cs ls with
  | false =>
    rw [hf] at q
    simp
    exact ExC.now (q G1 k1)
  | true =>
    rw [hf, if_pos rfl] at q
    have h' := h.kp0 k1
    have hc' := hc.kp0 k1
    have h1' := hc.ld k1 (by simp) h1
    have h2' := hc.ld k1 (by simp) h2
    have ho := h'.ob
    have hs := h'.os
    rw [subjK] at hs
    have e2 : look (sK (fun p : Addr × List Kept => D.ref p.1) tb) (.inr x) = (look tb x).map fun p => D.ref p.1 := look_sK _ tb x
    simp [TApp, ho, hs, List.lookup, T.c_Registry, T.na_Registry_schemas, isDC]
    intro l hl
    have n3 : s ≠ l := gp_new hs hl
    have n4 : r ≠ l := gp_new ho hl
    have nrs : r ≠ s := gp_ne ho hs nofun
    simp [setdC, gset_ne n3, hs, len_sK, e2]
    refine ⟨sizeLt n1 (by decide), ?_⟩
    cases h5 : look tb x with
    | none =>
      simp [n3.symm, gset_ne n3.symm, gset_ne nrs, gset_ne n4, ho, List.lookup, T.c_Registry, T.na_Registry_schemas]
      have e3 : put (sK (fun p : Addr × List Kept => D.ref p.1) tb) (.inr x) (.ref l) = sK (fun p => .ref p.1) (put tb x (l, [(c, cs, ls)])) := put_sK (fun p : Addr × List Kept => D.ref p.1) tb x (l, [(c, cs, ls)])
      have e4 : look (sK (fun p : Addr × List Kept => D.ref p.1) (put tb x (l, [(c, cs, ls)]))) (.inr x) = some (.ref l) := by rw [look_sK, look_put, if_pos rfl]; rfl
      refine ⟨sizeLt (Nat.le_refl 0) (by decide), ?_⟩
      rw [e3]
      simp [subC, itemsC, tabC, gset_ne n3, e4]
      have k2 : Kp (s :: tb.map (·.2.1)) G1 (gset (gset (gset G1 l (.lst [])) s (.dK (sK (fun p => .ref p.1) (put tb x (l, [(c, cs, ls)]))))) l (.lst [.ref c])) := ((Kp.new hl).puts (by simp)).put hl
      have := RetC.now (q _ (put tb x (l, [(c, cs, ls)])) (h'.added (l := l) (ks := []) (x := x) hc' h1' h2' n1 n2 (.inr ⟨h5, hl, rfl⟩) k2 (fun y y1 y2 g e => by rw [gset_ne y2, gset_ne y1, gset_ne y2]; exact e) (by rw [gset_ne n3, gset_same]; rfl) gset_same) (fun z => ?_) (put_len ..) ((k1.weak (by simp)).trans k2 (by simp)))
      · simpa [keptOf, h5] using this
      · unfold keptOf
        rw [look_put]
        by_cases hz : z = x
        · subst hz; simp [h5]
        · simp [hz]
    | some p =>
      obtain ⟨l', ks⟩ := p
      have hm := look_some h5
      have hl' := h'.ol _ hm
      simp at hl'
      have n5 : l' ≠ l := gp_new hl' hl
      have n6 : r ≠ l' := gp_ne ho hl' nofun
      have n7 : s ≠ l' := gp_ne hs hl' nofun
      simp [gset_ne n5, hl', gset_ne n6, gset_ne n4, ho, List.lookup, T.c_Registry, T.na_Registry_schemas]
      have e4 : look (sK (fun p : Addr × List Kept => D.ref p.1) tb) (.inr x) = some (.ref l') := by rw [e2, h5]; rfl
      have hk : ks.length ≤ 90 := n2 _ hm
      refine ⟨sizeLt hk (by decide), ?_⟩
      simp [subC, itemsC, tabC, gset_ne n3, gset_ne n7, hs, e4]
      have k2 : Kp (s :: tb.map (·.2.1)) G1 (gset (gset G1 l (.lst [])) l' (.lst (ks.map (fun k => .ref k.1) ++ [.ref c]))) := (Kp.new hl).puts (List.mem_cons_of_mem _ (List.mem_map.mpr ⟨_, hm, rfl⟩))
      have e5 : sK (fun p : Addr × List Kept => D.ref p.1) (put tb x (l', ks ++ [(c, cs, ls)])) = sK (fun p => .ref p.1) tb := put_alike (fun p : Str × Addr × List Kept => ((.inr p.1 : Key), D.ref p.2.1)) h'.ns h5 rfl
      have := RetC.now (q _ (put tb x (l', ks ++ [(c, cs, ls)])) (h'.added (l := l') (ks := ks) (x := x) hc' h1' h2' n1 n2 (.inl h5) k2 (fun y y1 y2 g e => ?_) (by rw [gset_ne n7, gset_ne n3, e5]; exact hs) (by rw [gset_same]; simp)) (fun z => ?_) (put_len ..) ((k1.weak (by simp)).trans k2 (by simp)))
      · simpa [keptOf, h5] using this
      · rw [gset_ne y2]
        by_cases hy : y = l
        · rw [hy, hl] at e; cases e
        · rw [gset_ne hy]; exact e
      · unfold keptOf
        rw [look_put]
        by_cases hz : z = x
        · subst hz; simp [h5]
        · simp [hz]
end K10
namespace K10
open PySem PySem.Spec PyProof.Rows L2 L3
variable {K : PySem.W.Frag} {a : Ad} {mg : Str → Option Value}
theorem pl_dice : ∀ ds G Q3 E3, sp_law_dice K a ds G Q3 E3 → T_law_dice K a (endsOf Q3 E3) (start3 N_law_dice ds) G := by
  rintro ds G Q3 E3 ⟨c, rfl, k⟩
  have fin : ∀ (l : Addr) (x y z : Int), G l = none → RetC Q3 (.ref l) (gset G l (.lst [.int x, .int y, .int z])) := fun l x y z h => RetC.now (k l _ ⟨x, y, z, gset_same⟩ h (Kp.new h))
  have e18 : CPow 10 18 := ⟨by decide, by decide, by decide⟩
  by_cases h1 : -10 < c <;> by_cases h2 : c < 10 <;> simp [T_law_dice, h1, h2, e18] <;> intro l hl <;> exact fin _ _ _ _ hl
theorem pl_roll : ∀ ds G Q3 E3, sp_law_roll K a ds G Q3 E3 → T_law_roll K a (endsOf Q3 E3) (start3 N_law_roll ds) G := by
  rintro ds G Q3 E3 ⟨p, many, rfl, ⟨x, y, z, hd⟩, h0, h1, k⟩
  have hc : ∀ x, CDiv x many := fun x => ⟨h0, by omega⟩
  have hc7 : ∀ x, CDiv x 7 := fun x => ⟨by decide, by decide⟩
  have hm : ∀ x : Int, CMul x 48271 ∧ CMul x 69621 := fun x => ⟨.inr ⟨by decide, by decide⟩, .inr ⟨by decide, by decide⟩⟩
  have hf : ∀ n : Int, 0 ≤ n % many ∧ n % many < many := fun n => ⟨Int.emod_nonneg _ (by omega), Int.emod_lt_of_pos _ h0⟩
  have h2 : ¬ 100000000 < many := by omega
  have fin : ∀ (n x y z : Int), RetC Q3 (.int (n % many)) (gset G p (.lst [.int x, .int y, .int z])) := fun n x y z => RetC.now (k _ _ (hf n).1 (hf n).2 ⟨x, y, z, gset_same⟩ (Kp.set (List.mem_singleton.mpr rfl)))
  by_cases z2 : z = 2 <;> by_cases z1 : z = 1 <;> by_cases x0 : 0 < x <;> simp [T_law_roll, subC, itemsC, hd, atI, ixN, setC, eqC, z2, z1, x0, h0, hc, hc7, hm, h2, fin]
theorem cut1 (ns : List Int) : ∃ cs : List Int, cut3 (ns.map D.int) none (some 1) = cs.map .int ∧ cs.length ≤ 1 := by
  cases ns with
  | nil => exact ⟨[], by simp [cut3], by simp⟩
  | cons n ns =>
    refine ⟨[n], ?_, by simp⟩
    simp [cut3, HT.sIx]
    try omega
theorem pl_rounds : ∀ ds G Q3 E3, sp_law_rounds K a ds G Q3 E3 → T_law_rounds K a (endsOf Q3 E3) (start3 N_law_rounds ds) G := by
  rintro ds G Q3 E3 ⟨ns, rfl, k⟩
  obtain ⟨cs, e, hc⟩ := cut1 ns
  have fin : ∀ (xs : List D) (c : Int), xs = [.int c] → ∀ δ0 : St3, (∃ x y z, δ0 = [x, y, z, none]) → LcRun δ0 (GName 3) TYes (TCall (sp_law_dice K a) [] (TCons (TVar 3) TNil)) xs [] G fun ys G2 => RetC Q3 (.lst ys) G2 := by
    rintro xs c rfl δ0 ⟨x, y, z, rfl⟩
    simp [LcRun, sp_law_dice, spDice]
    intro p G' dp np kp
    exact ⟨sizeLt (Nat.le_refl 0) (by decide), RetC.now (k p G' dp np kp)⟩
  simp [T_law_rounds, e]
  match cs, hc with
  | [], _ => simpa using fin _ 0 rfl _ ⟨_, _, _, rfl⟩
  | [c], _ => simpa using fin _ c rfl _ ⟨_, _, _, rfl⟩
theorem roll_go {d : Addr} {many : Int} {G : Gp} {Q : K3} {E : X3} (hd : DiceAt G d) (h0 : 0 < many) (h1 : many ≤ 100000000) (k : ∀ r G', 0 ≤ r → r < many → DiceAt G' d → Kp [d] G G' → Q (.int r) G') : sp_law_roll K a [.ref d, .int many] G Q E := ⟨d, many, rfl, hd, h0, h1, k⟩
/-! ### the law's own -/
theorem abcd : chars "abcd" = (["a", "b", "c", "d"] : List Str).map D.str := by rfl
theorem abcd_ok : ∀ x ∈ (["a", "b", "c", "d"] : List Str), x ≠ "" ∧ StrOk x := by
  have h : (["a", "b", "c", "d"] : List Str).all (fun x => decide (x ≠ "") && PyData.strOk x) = true := by decide +kernel
  intro x hx
  have := List.all_eq_true.mp h x hx
  simp at this
  exact this
theorem abcd_nd : (["a", "b", "c", "d"] : List Str).Nodup := by decide +kernel
theorem keyl_none : KeyL (.inr "none") := by
  intro x e
  cases e
  exact ⟨by unfold StrL; decide +kernel, by unfold StrOk; decide +kernel, by decide +kernel⟩
theorem keyl_int (i : Int) : KeyL (.inl i) := fun x e => by cases e
theorem schema_dict {p : Addr} {cs : Cols} {G0 G1 : Gp} {Q3 : K3} {E : X3} (hd : DiceAt G1 p) (k0 : Kp [p] G0 G1) (hc : ColsOk cs) (hs : cs.length ≤ 4)
    (q : ∀ o G', OwnAt G' o → G0 o.2.2 = none → DiceAt G' p → Kp [p] G0 G' → Q3 (ownD o) G') (n0 : G0 p ≠ none) :
    TTup (TCons (TVar 1) (TCons (TCB dictR (TCons (TLc (ISeq (TVar 1)) (GTup 2 (GCons (GName 2) (GCons (GName 3) GNil))) (TTest (TOp gtR (TCall (sp_law_roll K a) [] (TCons (TVar 0) (TCons (TC (.int 3)) TNil))) (TC (.int 0)))) (TTup (TCons (TVar 2) (TCons (TIf (TTest (TOp eqC (TVar 3) (TC (.str "int")))) (TC (.int 7)) (TC (.str "none"))) TNil))) [2, 3]) TNil)) TNil)) [some (.ref p), some (.lst (colsD cs)), none, none] G1 Q3 E := by
  simp [colsD]
  refine lcRunI colD (fun r acc G => ∃ ls, acc = pairsD (lackD ls) ∧ (ls.map (·.1) ++ r.map (·.1)).Sublist (cs.map (·.1)) ∧ (∀ q ∈ ls, look cs q.1 = some (kindK q.2) ∧ KeyL q.2) ∧ (∀ c ∈ r, c ∈ cs) ∧ DiceAt G p ∧ Kp [p] G1 G) cs [] G1 ⟨[], rfl, by simp, by simp, fun c h => h, hd, Kp.refl⟩ (by simp; exact sizeLe hs (by decide)) ?_ ?_
  · rintro c r acc G ⟨ls, rfl, h1, h2, h3, h4, h5⟩ K1 K2 g1 g2
    simp [colD, wipe3]
    refine roll_go h4 (by decide) (by decide) fun v G' v0 v1 d' k' => ?_
    by_cases hv : 0 < v
    · have hcs := look_cols hc (h3 c (by simp))
      obtain ⟨c1, c2⟩ := c
      have sub : ∀ k : Key, kindK k = c2 → KeyL k → ∃ ls', pairsD (lackD ls) ++ [D.tup [.str c1, keyD k]] = pairsD (lackD ls') ∧ (ls'.map (·.1) ++ r.map (·.1)).Sublist (cs.map (·.1)) ∧ (∀ q ∈ ls', look cs q.1 = some (kindK q.2) ∧ KeyL q.2) ∧ (∀ c ∈ r, c ∈ cs) ∧ DiceAt G' p ∧ Kp [p] G1 G' := fun k e1 e2 =>
        ⟨ls ++ [(c1, k)], by simp [pairsD, lackD, keyD], by simpa using h1, fun q hq => by
          rcases List.mem_append.mp hq with hq | hq
          · exact h2 q hq
          · rw [List.mem_singleton.mp hq]; exact ⟨by rw [e1]; exact hcs, e2⟩, fun c h => h3 c (List.mem_cons_of_mem _ h), d', h5.trans k' (by simp)⟩
      cases c2 with
      | true =>
        simp [hv, kD]
        exact g1 _ _ (sub (.inl 7) rfl (keyl_int 7))
      | false =>
        have ne : decide (("text" : Str) = "int") = false := by decide +kernel
        simp [hv, kD, ne]
        exact g1 _ _ (sub (.inr "none") rfl keyl_none)
    · simp [hv]
      refine g2 _ ⟨ls, rfl, ?_, h2, fun c h => h3 c (List.mem_cons_of_mem _ h), d', h5.trans k' (by simp)⟩
      refine List.Sublist.trans (List.Sublist.append (List.Sublist.refl _) ?_) h1
      simp
  · rintro acc G ⟨ls, rfl, h1, h2, h3, h4, h5⟩
    simp at h1
    have nd : (ls.map (·.1)).Nodup := h1.nodup hc.nd
    refine ⟨lackD ls, rfl, fun ld hld => ?_⟩
    rw [lackK, merge_nil (nd_sK keyD nd)]
    simp
    have npl : p ≠ ld := fun e => by obtain ⟨_, _, _, e1⟩ := h4; rw [← e, e1] at hld; cases hld
    have kk : Kp [p] G0 G := k0.trans h5 (by simp)
    have ln : ls.length ≤ cs.length := by simpa using h1.length_le
    refine q (cs, ls, ld) _ ⟨gset_same, hc, ⟨nd, fun q hq => (h2 q hq).2, (show ls.length ≤ 20 by omega)⟩, ?_, hs⟩ (kk.none hld (by simpa using npl.symm)) ?_ (kk.put (kk.none hld (by simpa using npl.symm)))
    · unfold lackFits
      rw [List.all_eq_true]
      intro q hq
      exact decide_eq_true (h2 q hq).1
    · obtain ⟨x, y, z, e1⟩ := h4
      exact ⟨x, y, z, by rw [gset_ne npl]; exact e1⟩
theorem pl_law_schema : ∀ ds G Q3 E3, sp_law_schema K a ds G Q3 E3 → T_law_schema K a (endsOf Q3 E3) (start3 N_law_schema ds) G := by
  rintro ds G Q3 E3 ⟨p, rfl, hd, q⟩
  have n0 : G p ≠ none := by obtain ⟨_, _, _, e⟩ := hd; simp [e]
  simp only [T_law_schema, TSeq, L3.TSet, TLc, IStr, TC, abcd]
  refine lcRunI D.str (fun r acc G1 => ∃ cs : Cols, acc = colsD cs ∧ (cs.map (·.1) ++ r).Sublist ["a", "b", "c", "d"] ∧ DiceAt G1 p ∧ Kp [p] G G1) ["a", "b", "c", "d"] [] G ⟨[], rfl, by simp, hd, Kp.refl⟩ (by simp) ?_ ?_
  · rintro x r acc G1 ⟨cs, rfl, h1, h4, h5⟩ K1 K2 g1 g2
    simp [wipe3]
    refine roll_go h4 (by decide) (by decide) fun v G' v0 v1 d' k' => ?_
    by_cases hv : v = 0
    · simp [hv]
      refine roll_go d' (by decide) (by decide) fun v2 G2 v02 v12 d2 k2 => ?_
      have go : ∀ b : Bool, ∃ cs' : Cols, colsD cs ++ [D.tup [.str x, kD b]] = colsD cs' ∧ (cs'.map (·.1) ++ r).Sublist ["a", "b", "c", "d"] ∧ DiceAt G2 p ∧ Kp [p] G G2 := fun b =>
        ⟨cs ++ [(x, b)], by simp [colsD, colD], by simpa using h1, d2, (h5.trans k' (by simp)).trans k2 (by simp)⟩
      by_cases hv2 : v2 = 0
      · simp [hv2, subC, itemsC]
        exact g1 _ _ (go false)
      · simp [hv2, subC, itemsC]
        exact g1 _ _ (go true)
    · simp [hv]
      refine g2 _ ⟨cs, rfl, List.Sublist.trans (List.Sublist.append (List.Sublist.refl _) (by simp)) h1, d', h5.trans k' (by simp)⟩
  · rintro acc G1 ⟨cs, rfl, h1, h4, h5⟩
    rw [List.append_nil] at h1
    have ln : cs.length ≤ 4 := by simpa using h1.length_le
    refine schema_dict (G0 := G) h4 h5 ⟨h1.nodup abcd_nd, fun c hc => abcd_ok _ (h1.subset (List.mem_map_of_mem hc)), by omega⟩ ln (fun o G' w1 w2 w3 w4 => RetC.now (q o G' w1 w2 w3 w4)) n0
end K10
namespace K10
open PySem PySem.Spec PyProof.Rows L2 L3
variable {K : PySem.W.Frag} {a : Ad} {mg : Str → Option Value}
theorem OwnAt.kp0 {G G' : Gp} {o : Own} (h : OwnAt G o) (k : Kp [] G G') : OwnAt G' o := ⟨k.at0 h.at_, h.co, h.lo, h.fi, h.sm⟩
/-- a column that cannot be read -/
def badB (ls : Lack) (cs2 : Cols) (c : Str × Bool) : Bool := match look cs2 c.1 with
  | some k => !decide (k = c.2)
  | none => !(look ls c.1).isSome
theorem reads_bad (cs : Cols) (ls : Lack) (cs2 : Cols) : readsB cs ls cs2 = cs.all fun c => !badB ls cs2 c := by
  unfold readsB badB
  congr 1
  funext c
  cases look cs2 c.1 <;> simp
theorem pl_law_reads : ∀ ds G Q3 E3, sp_law_reads K a ds G Q3 E3 → T_law_reads K a (endsOf Q3 E3) (start3 N_law_reads ds) G := by
  rintro ds G Q3 E3 ⟨o, o2, rfl, h1, h2, q⟩
  obtain ⟨cs, ls, ld⟩ := o
  obtain ⟨cs2, ls2, ld2⟩ := o2
  have c1 := h1.co
  have c2 := h2.co
  have e1 := h1.at_
  simp only at c1 c2 e1 q
  simp [T_law_reads, ownD, subC, itemsC, colsD]
  refine lcRunI colD (fun r acc G1 => ∃ done, cs = done ++ r ∧ acc.isEmpty = (done.all fun c => !badB ls cs2 c) ∧ Kp [] G G1) cs [] G ⟨[], rfl, rfl, Kp.refl⟩ (by simp; exact sizeLe c1.ln (by decide)) ?_ ?_
  · rintro c r acc G1 ⟨done, rfl, h3, h4⟩ K1 K2 g1 g2
    have st : ∀ G2, Kp [] G1 G2 → (badB ls cs2 c = true → K1 (.str c.1) G2) ∧ (badB ls cs2 c = false → K2 G2) := fun G2 k2 =>
      ⟨fun hb => g1 _ _ ⟨done ++ [c], by simp, by simp [hb], h4.trans k2 (by simp)⟩, fun hb => g2 _ ⟨done ++ [c], by simp, by simp [hb, h3], h4.trans k2 (by simp)⟩⟩
    have pz : ∀ (G2 : Gp) (Q : K3), (∀ p, G2 p = none → Q (.ref p) (gset G2 p (.dK (sK kD cs2)))) → dictR [.lst (colsD cs2)] G2 Q := fun G2 Q w => ⟨_, by rw [colsD_pairs], by rw [dictF_cols cs2 c2]; exact w⟩
    have e7 : look (sK kD cs2) (.inr c.1) = (look cs2 c.1).map kD := look_sK kD cs2 c.1
    have e8 : look (lackD ls) (.inr c.1) = (look ls c.1).map keyD := look_sK keyD ls c.1
    simp [colD, wipe3, subC, itemsC]
    refine pz _ _ fun p hp => ?_
    have n1 : ld ≠ p := gp_new (h4.at0 e1) hp
    simp [inC, itemsC, tabC, e7]
    cases h5 : look cs2 c.1 with
    | none =>
      obtain ⟨s1, s2⟩ := st _ (Kp.new hp)
      simp only [badB, h5] at s1 s2
      simp [inC, itemsC, tabC, gset_ne n1, h4.at0 e1, e8]
      cases h6 : look ls c.1 with
      | none => exact s1 (by simp [h6])
      | some v => exact s2 (by simp [h6])
    | some k =>
      simp [subC, itemsC]
      refine pz _ _ fun p2 hp2 => ?_
      obtain ⟨s1, s2⟩ := st _ ((Kp.new hp).put (o := .dK (sK kD cs2)) ((Kp.new (as := []) (o := .dK (sK kD cs2)) hp).none hp2 (by simp)))
      simp only [badB, h5] at s1 s2
      simp [subC, itemsC, tabC, e7, h5]
      by_cases h6 : k = c.2
      · simp only [h6]
        simpa using s2 (by simp [h6])
      · simp [h6]
        exact s1 (by simp [h6])
  · rintro acc G1 ⟨done, hd, h3, h4⟩
    rw [List.append_nil] at hd
    subst hd
    rw [← reads_bad] at h3
    simp [h3]
    exact RetC.now (q _ h4)
theorem atI_pred {α : Type} (xs : List α) (x : α) : atI (xs ++ [x]) (((xs ++ [x]).length : Int) - 1) = some x := by
  rw [show (((xs ++ [x]).length : Int) - 1) = (xs.length : Int) by simp]
  exact atI_snoc xs x
theorem pl_law_fits : ∀ ds G Q3 E3, sp_law_fits K a ds G Q3 E3 → T_law_fits K a (endsOf Q3 E3) (start3 N_law_fits ds) G := by
  rintro ds G Q3 E3 ⟨rule, os, o, rfl, h1, h2, hl, q⟩
  rcases List.eq_nil_or_concat os with rfl | ⟨l, x, rfl⟩
  · simp [T_law_fits]
    exact RetC.now (by simpa [fitsB] using q G Kp.refl)
  · rw [List.concat_eq_append] at *
    have hx := h1 x (by simp)
    by_cases hf : rule = "free"
    · have q := q G Kp.refl
      simp [fitsB, hf] at q
      simp [T_law_fits, hf]
      exact RetC.now q
    · have hat : atI ((l ++ [x]).map ownD) ((l.length : Int) + 1 - 1) = some (ownD x) := by
        have := atI_pred (l.map ownD) (ownD x)
        simpa using this
      simp at hat
      have q0 := q
      simp [fitsB, hf] at q
      simp [T_law_fits, hf, subC, itemsC, hat]
      by_cases ha : rule = "all"
      · simp [ha]
        rw [show l.map ownD ++ [ownD x] = (l ++ [x]).map ownD by simp]
        refine lcRunI ownD (fun r acc G1 => ∃ done, l ++ [x] = done ++ r ∧ acc.isEmpty = (done.all fun p => readsB o.1 o.2.1 p.1) ∧ Kp [] G G1) (l ++ [x]) [] G ⟨[], rfl, rfl, Kp.refl⟩ (by simp only [List.length_nil, Nat.zero_add]; exact sizeLe hl (by decide)) ?_ ?_
        · rintro c r acc G1 ⟨done, e1, h3, h4⟩ K1 K2 g1 g2
          simp [wipe3]
          unfold sp_law_reads
          refine ⟨_, _, rfl, h2.kp0 h4, (h1 c (by rw [e1]; simp)).kp0 h4, fun G2 k2 => ?_⟩
          cases hb : readsB o.1 o.2.1 c.1 with
          | true => simpa using g2 _ ⟨done ++ [c], by simp [e1], by simp [hb, h3], h4.trans k2 (by simp)⟩
          | false => simpa using g1 _ _ ⟨done ++ [c], by simp [e1], by simp [hb], h4.trans k2 (by simp)⟩
        · rintro acc G1 ⟨done, hd, h3, h4⟩
          rw [List.append_nil] at hd
          subst hd
          simp [h3]
          have hf2 : ("all" : Str) ≠ "free" := by decide +kernel
          have q := q0 G1 h4
          simp [fitsB, ha, hf2] at q
          exact RetC.now (by simpa [Function.comp_def] using q)
      · simp [ha]
        simp [ha] at q
        have e0 := hat
        by_cases h6 : rule = "forth"
        · have h7 : decide (("forth" : Str) = "back") = false := by decide +kernel
          simp only [h6, decide_true, Bool.true_or, Bool.true_and, h7, Bool.false_or] at q ⊢
          unfold sp_law_reads
          exact ⟨_, _, rfl, hx, h2, fun G1 k1 => RetC.now (q G1 k1)⟩
        · simp only [h6, decide_false, Bool.false_or] at q ⊢
          unfold sp_law_reads
          refine ⟨_, _, rfl, h2, hx, fun G1 k1 => ?_⟩
          cases h9 : readsB o.1 o.2.1 x.1 with
          | false =>
            have q := q G1 k1
            rw [h9] at q
            simp at q ⊢
            exact RetC.now q
          | true =>
            simp only [h9, Bool.true_and] at q ⊢
            by_cases h7 : rule = "back"
            · simp only [h7, decide_true, Bool.true_or] at q ⊢
              exact RetC.now (q G1 k1)
            · simp only [h7, decide_false, Bool.false_or] at q ⊢
              exact ⟨_, _, rfl, hx.kp0 k1, h2.kp0 k1, fun G2 k2 => RetC.now (q G2 (k1.trans k2 (by simp)))⟩
end K10
namespace K10
open PySem PySem.Spec PyProof.Rows L2 L3
variable {K : PySem.W.Frag} {a : Ad} {mg : Str → Option Value}
def ownL (os : List Own) : D := .lst (os.map ownD)
theorem RegAt.kp {as : List Addr} {G G' : Gp} {r s u : Addr} {tb : Subj} {ru : Rules} (h : RegAt a G r s u tb ru) (k : Kp as G G') (n1 : ∀ x ∈ as, ∀ C fs, G x ≠ some (.ins C fs)) (n2 : s ∉ as) (n3 : u ∉ as) (n4 : ∀ t ∈ tb, t.2.1 ∉ as)
    (n5 : ∀ t ∈ tb, ∀ q ∈ t.2.2, ∀ x ∈ as, LdNe G q.1 x) : RegAt a G' r s u tb ru :=
  ⟨k _ _ h.ob fun z => n1 _ z _ _ h.ob, k _ _ h.os n2, k _ _ h.ou n3, fun t ht => k _ _ (h.ol t ht) (n4 t ht), fun t ht q hq => (h.sc t ht q hq).kp k n1 (n5 t ht q hq), fun t ht q hq => ⟨(h.sc t ht q hq).ld k n1 (h.su t ht q hq).1, (h.sc t ht q hq).ld k n1 (h.su t ht q hq).2⟩, h.nu, h.ns, h.nl, h.nr, h.so, h.rr, h.ln⟩
/-- where the law stands -/
structure LI (a : Ad) (lk : List (Key × D) → GO) (G : Gp) (p r s u d o : Addr) (tb : Subj) (ru rr : Rules) (ow : List (Str × List Own)) (n : Nat) : Prop where
  di : DiceAt G p
  re : RegAt a G r s u tb ru
  rd : G d = some (.dK (sK .str rr))
  od : G o = some (lk (sK ownL ow))
  ks : ow.map (·.1) = (["p", "q"] : List Str)
  oa : ∀ t ∈ ow, ∀ q ∈ t.2, OwnAt G q ∧ q.2.2 ≠ d ∧ q.2.2 ≠ o ∧ q.2.2 ≠ s ∧ q.2.2 ≠ u
  ld : ∀ t ∈ tb, ∀ k ∈ t.2.2, LdNe G k.1 d ∧ LdNe G k.1 o
  rl : ∀ x, look rr x = look ru x
  kp : ∀ x, (keptOf tb x).map (·.2) = ((look ow x).getD []).map fun q => (q.1, q.2.1)
  n1 : d ≠ o
  n2 : d ≠ s
  n3 : d ≠ u
  n4 : o ≠ s
  n5 : o ≠ u
  ln : rr.length ≤ n ∧ ru.length ≤ n ∧ tb.length ≤ n ∧ ∀ t ∈ tb, t.2.2.length ≤ n
def Lk (lk : List (Key × D) → GO) : Prop := lk = .dK ∨ lk = .lkK
theorem OwnAt.mono {G G' : Gp} {o : Own} (h : OwnAt G o) (e : G' o.2.2 = some (.dK (lackD o.2.1))) : OwnAt G' o := ⟨e, h.co, h.lo, h.fi, h.sm⟩
theorem dice_ne_dK {G : Gp} {p x : Addr} {ls : List (Key × D)} (h : DiceAt G p) (e : G x = some (.dK ls)) : x ≠ p := by
  obtain ⟨_, _, _, e1⟩ := h
  exact gp_ne e e1 nofun
theorem RegAt.dice {G G' : Gp} {p r s u : Addr} {tb : Subj} {ru : Rules} (h : RegAt a G r s u tb ru) (hd : DiceAt G p) (k : Kp [p] G G') : RegAt a G' r s u tb ru := by
  obtain ⟨x, y, z, e1⟩ := hd
  refine h.kp k ?_ ?_ ?_ ?_ ?_
  · intro q hq C fs e
    rw [List.mem_singleton.mp hq, e1] at e; cases e
  · simpa using gp_ne h.os e1 nofun
  · simpa using gp_ne h.ou e1 nofun
  · intro t ht
    have := h.ol t ht
    simp only [List.mem_singleton]
    intro e
    rw [e, e1] at this
    cases hk : t.2.2 with
    | nil => exact h.so t ht hk
    | cons k ks => rw [hk] at this; simp at this
  · intro t ht q hq x hx
    rw [List.mem_singleton.mp hx]
    exact ldne_lst (h.sc t ht q hq) e1
theorem LI.dice {lk : List (Key × D) → GO} {G G' : Gp} {p r s u d o : Addr} {tb : Subj} {ru rr : Rules} {ow : List (Str × List Own)} {n : Nat} (hl : Lk lk) (h : LI a lk G p r s u d o tb ru rr ow n) (hd : DiceAt G' p) (k : Kp [p] G G') : LI a lk G' p r s u d o tb ru rr ow n := by
  obtain ⟨x, y, z, e1⟩ := h.di
  have n0 : ∀ q ∈ [p], ∀ C fs, G q ≠ some (.ins C fs) := by
    intro q hq C fs e
    rw [List.mem_singleton.mp hq, e1] at e; cases e
  refine ⟨hd, h.re.dice h.di k, k _ _ h.rd (by simpa using gp_ne h.rd e1 nofun), k _ _ h.od ?_, h.ks, fun t ht q hq => ?_, fun t ht q hq => ⟨(h.re.sc t ht q hq).ld k n0 (h.ld t ht q hq).1, (h.re.sc t ht q hq).ld k n0 (h.ld t ht q hq).2⟩, h.rl, h.kp, h.n1, h.n2, h.n3, h.n4, h.n5, h.ln⟩
  · simp only [List.mem_singleton]
    rcases hl with rfl | rfl
    · exact gp_ne h.od e1 nofun
    · exact gp_ne h.od e1 nofun
  · obtain ⟨w1, w2⟩ := h.oa t ht q hq
    exact ⟨w1.mono (k _ _ w1.at_ (by simpa using gp_ne w1.at_ e1 nofun)), w2⟩
theorem LI.kp0 {lk : List (Key × D) → GO} {G G' : Gp} {p r s u d o : Addr} {tb : Subj} {ru rr : Rules} {ow : List (Str × List Own)} {n : Nat} (hl : Lk lk) (h : LI a lk G p r s u d o tb ru rr ow n) (k : Kp [] G G') : LI a lk G' p r s u d o tb ru rr ow n :=
  h.dice hl (h.di.kp k (by simp)) (k.weak (by simp))
structure Fr (δ : St3) (p r d o : Addr) : Prop where
  ln : δ.length = 24
  s1 : slot δ 1 = some (.ref p)
  s2 : slot δ 2 = some (.ref r)
  s3 : slot δ 3 = some (.ref d)
  s4 : slot δ 4 = some (.ref o)
theorem Fr.set {δ : St3} {p r d o : Addr} (h : Fr δ p r d o) {i : Nat} {x : Option D} (hi : 5 ≤ i) : Fr (δ.set i x) p r d o :=
  ⟨by rw [List.length_set]; exact h.ln, by rw [slot_other (by omega)]; exact h.s1, by rw [slot_other (by omega)]; exact h.s2, by rw [slot_other (by omega)]; exact h.s3, by rw [slot_other (by omega)]; exact h.s4⟩
theorem pq (v : Int) (h0 : 0 ≤ v) (h1 : v < 2) : ∃ x : Str, x ∈ (["p", "q"] : List Str) ∧ ∀ (G : Gp) (Q : K3), Q (.str x) G → subC (.str "pq") (.int v) G Q := by
  have : v = 0 ∨ v = 1 := by omega
  have e : (("pq" : Str).cps.toList) = [112, 113] := by decide +kernel
  have l : ("pq" : Str).length = 2 := by decide +kernel
  rcases this with rfl | rfl
  · refine ⟨"p", by simp, fun G Q q => ?_⟩
    simp [subC, itemsC, l, e]
    exact q
  · refine ⟨"q", by simp, fun G Q q => ?_⟩
    simp [subC, itemsC, l, e]
    exact q
/-- the rule that is drawn -/
theorem rule_at (v : Int) (h0 : 0 ≤ v) (h1 : v < 5) : ∃ y : Str, RuleOk y ∧ atI ([.str "back", .str "forth", .str "both", .str "all", .str "free"] : List D) v = some (.str y) := by
  have : v = 0 ∨ v = 1 ∨ v = 2 ∨ v = 3 ∨ v = 4 := by omega
  rcases this with rfl | rfl | rfl | rfl | rfl
  · exact ⟨"back", .inl rfl, rfl⟩
  · exact ⟨"forth", .inr (.inl rfl), rfl⟩
  · exact ⟨"both", .inr (.inr (.inl rfl)), rfl⟩
  · exact ⟨"all", .inr (.inr (.inr (.inl rfl))), rfl⟩
  · exact ⟨"free", .inr (.inr (.inr (.inr rfl))), rfl⟩
section
variable {D3 : Ends3} {G : Gp} {δ : St3} {p r s u d o : Addr} {tb : Subj} {ru rr : Rules} {ow : List (Str × List Own)} {n : Nat}
theorem LI.own {lk : List (Key × D) → GO} (h : LI a lk G p r s u d o tb ru rr ow n) {x : Str} (hx : x ∈ (["p", "q"] : List Str)) : ∃ os, look ow x = some os ∧ look (sK ownL ow) (.inr x) = some (ownL os) ∧ (x, os) ∈ ow := by
  obtain ⟨os, e⟩ := look_in (kvs := ow) (k := x) (by rw [h.ks]; exact hx)
  exact ⟨os, e, by rw [look_sK, e]; rfl, look_some e⟩
theorem nd_pq : (["p", "q"] : List Str).Nodup := by decide +kernel
theorem LI.same (h : LI a .dK G p r s u d o tb ru rr ow n) {x : Str} {os : List Own} (e : look ow x = some os) : put (sK ownL ow) (.inr x) (ownL os) = sK ownL ow := by
  rw [put_sK, put_same (by rw [h.ks]; exact nd_pq) e]
theorem LI.len2 {lk : List (Key × D) → GO} (h : LI a lk G p r s u d o tb ru rr ow n) : (sK ownL ow).length = 2 := by
  have := congrArg List.length h.ks
  simpa [len_sK] using this
theorem not_fly : ¬ RuleOk "fly" := by
  rintro (e | e | e | e | e) <;> revert e <;> decide +kernel
theorem LI.ruled {G1 : Gp} {ru' : Rules} {x y : Str} (h : LI a .dK G p r s u d o tb ru rr ow n) (r5 : RegAt a G1 r s u tb ru') (l5 : ∀ z, look ru' z = if z = x then some y else look ru z) (n5 : ru'.length ≤ ru.length + 1) (k5 : Kp [u] (gset G d (.dK (sK .str (put rr x y)))) G1) :
    LI a .dK G1 p r s u d o tb ru' (put rr x y) ow (n + 1) := by
  have k0 : Kp [d, u] G G1 := (Kp.set (as := [d, u]) (by simp)).trans k5 (by simp)
  have n0 : ∀ q ∈ [d, u], ∀ C fs, G q ≠ some (.ins C fs) := by
    intro q hq C fs e
    simp at hq
    rcases hq with rfl | rfl
    · rw [h.rd] at e; cases e
    · rw [h.re.ou] at e; cases e
  have pd : p ≠ d := fun e => dice_ne_dK h.di h.rd e.symm
  have pu : p ≠ u := fun e => dice_ne_dK h.di h.re.ou e.symm
  refine ⟨h.di.kp k0 (by simp [pd, pu]), r5, k5 _ _ gset_same (by simpa using h.n3), k0 _ _ h.od (by simp [h.n1.symm, h.n5]), h.ks, fun t ht q hq => ?_, fun t ht q hq => ⟨(h.re.sc t ht q hq).ld k0 n0 (h.ld t ht q hq).1, (h.re.sc t ht q hq).ld k0 n0 (h.ld t ht q hq).2⟩, fun z => ?_, h.kp, h.n1, h.n2, h.n3, h.n4, h.n5, ?_⟩
  · obtain ⟨w1, w2, w3, w4, w5⟩ := h.oa t ht q hq
    exact ⟨w1.mono (k0 _ _ w1.at_ (by simp [w2, w5])), w2, w3, w4, w5⟩
  · rw [look_put, l5, h.rl]
  · obtain ⟨l1, l2, l3, l4⟩ := h.ln
    have := put_len rr x y
    exact ⟨by omega, by omega, by omega, fun t ht => by have := l4 t ht; omega⟩
theorem RegAt.n0 (h : RegAt a G r s u tb ru) : ∀ y ∈ s :: tb.map (·.2.1), ∀ C fs, G y ≠ some (.ins C fs) := by
  intro y hy C fs e
  rcases List.mem_cons.mp hy with rfl | hy
  · rw [h.os] at e; cases e
  · obtain ⟨t, ht, rfl⟩ := List.mem_map.mp hy
    rw [h.ol t ht] at e; cases e
theorem RegAt.ne_dice (h : RegAt a G r s u tb ru) (hd : DiceAt G p) : p ∉ s :: tb.map (·.2.1) := by
  obtain ⟨x, y, z, e1⟩ := hd
  intro hp
  rcases List.mem_cons.mp hp with rfl | hp
  · rw [h.os] at e1; cases e1
  · obtain ⟨t, ht, rfl⟩ := List.mem_map.mp hp
    have := h.ol t ht
    rw [e1] at this
    cases hk : t.2.2 with
    | nil => exact h.so t ht hk
    | cons k ks => rw [hk] at this; simp at this
theorem RegAt.ne_dK (h : RegAt a G r s u tb ru) {y : Addr} {l : List (Key × D)} (e : G y = some (.dK l)) (n : y ≠ s) : y ∉ s :: tb.map (·.2.1) := by
  intro hp
  rcases List.mem_cons.mp hp with rfl | hp
  · exact n rfl
  · obtain ⟨t, ht, rfl⟩ := List.mem_map.mp hp
    have := h.ol t ht
    rw [e] at this
    cases this
theorem kept_mem {tb : Subj} (hn : (tb.map (·.1)).Nodup) {t : Str × Addr × List Kept} (ht : t ∈ tb) : keptOf tb t.1 = t.2.2 := by
  unfold keptOf
  rw [look_mem' hn (show (t.1, t.2) ∈ tb from ht)]
  rfl
theorem mem_kept {tb : Subj} {z : Str} {k : Kept} (h : k ∈ keptOf tb z) : ∃ t ∈ tb, k ∈ t.2.2 := by
  unfold keptOf at h
  cases e : look tb z with
  | none => rw [e] at h; cases h
  | some q => rw [e] at h; exact ⟨_, look_some e, h⟩
theorem LI.added (h : LI a .dK G p r s u d o tb ru rr ow n) {c : Addr} {on : Own} {os : List Own} {x : Str} (hc : SchAt a.Schema a.Shape G c on.1 on.2.1) (hd : LdNe G c d) (ho : LdNe G c o) (w : OwnAt G on) (wne : on.2.2 ≠ d ∧ on.2.2 ≠ o ∧ on.2.2 ≠ s ∧ on.2.2 ≠ u)
    (hx : x ∈ (["p", "q"] : List Str)) (e : look ow x = some os) {G5 : Gp} {tb' : Subj} (r5 : RegAt a G5 r s u tb' ru) (kk : ∀ z, keptOf tb' z = if z = x then keptOf tb x ++ [(c, on.1, on.2.1)] else keptOf tb z) (n5 : tb'.length ≤ tb.length + 1) (k5 : Kp (s :: tb.map (·.2.1)) G G5) :
    LI a .dK (gset G5 o (.dK (sK ownL (put ow x (os ++ [on]))))) p r s u d o tb' ru rr (put ow x (os ++ [on])) (n + 1) := by
  have n0 := h.re.n0
  have ldk : ∀ t ∈ tb', ∀ k ∈ t.2.2, LdNe G5 k.1 d ∧ LdNe G5 k.1 o := by
    intro t ht k hk
    rw [← kept_mem r5.ns ht, kk] at hk
    have old : ∀ z, k ∈ keptOf tb z → LdNe G5 k.1 d ∧ LdNe G5 k.1 o := fun z hz => by
      obtain ⟨t0, ht0, hk0⟩ := mem_kept hz
      obtain ⟨l1, l2⟩ := h.ld t0 ht0 k hk0
      exact ⟨(h.re.sc t0 ht0 k hk0).ld k5 n0 l1, (h.re.sc t0 ht0 k hk0).ld k5 n0 l2⟩
    split at hk
    · rcases List.mem_append.mp hk with hk | hk
      · exact old x hk
      · rw [List.mem_singleton.mp hk]
        exact ⟨hc.ld k5 n0 hd, hc.ld k5 n0 ho⟩
    · exact old _ hk
  have o5 : G5 o = some (.dK (sK ownL ow)) := k5 _ _ h.od (h.re.ne_dK h.od h.n4)
  have k6 : Kp [o] G5 (gset G5 o (.dK (sK ownL (put ow x (os ++ [on]))))) := Kp.set (by simp)
  have n6 : ∀ q ∈ [o], ∀ C fs, G5 q ≠ some (.ins C fs) := by
    intro q hq C fs z
    rw [List.mem_singleton.mp hq, o5] at z; cases z
  have at5 : ∀ q : Own, OwnAt G q ∧ q.2.2 ≠ d ∧ q.2.2 ≠ o ∧ q.2.2 ≠ s ∧ q.2.2 ≠ u → OwnAt (gset G5 o (.dK (sK ownL (put ow x (os ++ [on]))))) q ∧ q.2.2 ≠ d ∧ q.2.2 ≠ o ∧ q.2.2 ≠ s ∧ q.2.2 ≠ u := fun q ⟨w1, w2, w3, w4, w5⟩ =>
    ⟨w1.mono (k6 _ _ (k5 _ _ w1.at_ (h.re.ne_dK w1.at_ w4)) (by simpa using w3)), w2, w3, w4, w5⟩
  have hdn : (gset G5 o (.dK (sK ownL (put ow x (os ++ [on]))))) d = some (.dK (sK .str rr)) := k6 _ _ (k5 _ _ h.rd (h.re.ne_dK h.rd h.n2)) (by simpa using h.n1)
  have d5 : DiceAt G5 p := h.di.kp k5 (h.re.ne_dice h.di)
  refine ⟨d5.kp k6 (by simpa using (dice_ne_dK d5 o5).symm), r5.kp k6 n6 (by simpa using h.n4.symm) (by simpa using h.n5.symm) (fun t ht => by simpa using gp_ne (r5.ol t ht) o5 nofun) (fun t ht q hq y hy => by rw [List.mem_singleton.mp hy]; exact (ldk t ht q hq).2), hdn, gset_same, ?_, fun t ht q hq => ?_,
    fun t ht q hq => ⟨(r5.sc t ht q hq).ld k6 n6 (ldk t ht q hq).1, (r5.sc t ht q hq).ld k6 n6 (ldk t ht q hq).2⟩, h.rl, fun z => ?_, h.n1, h.n2, h.n3, h.n4, h.n5, ?_⟩
  · rw [put_keys, if_pos (by rw [h.ks]; exact hx)]
    exact h.ks
  · rcases mem_put ht with rfl | ⟨ht, _⟩
    · rcases List.mem_append.mp hq with hq | hq
      · exact at5 q (h.oa _ (look_some e) q hq)
      · rw [List.mem_singleton.mp hq]
        exact at5 on ⟨w, wne⟩
    · exact at5 q (h.oa t ht q hq)
  · rw [kk, look_put]
    by_cases hz : z = x
    · have := h.kp x
      rw [e] at this
      simp [hz, this]
    · simp only [hz, if_false]
      exact h.kp z
  · obtain ⟨l1, l2, l3, l4⟩ := h.ln
    refine ⟨by omega, by omega, by omega, fun t ht => ?_⟩
    have : (keptOf tb' t.1).length ≤ n + 1 := by
      have old : ∀ z, (keptOf tb z).length ≤ n := fun z => by
        unfold keptOf
        cases e : look tb z with
        | none => simp
        | some q => exact l4 _ (look_some e)
      rw [kk]
      split
      · simp; exact old x
      · have := old t.1; omega
    rwa [kept_mem r5.ns ht] at this
end
end K10
namespace K10
open PySem PySem.Spec PyProof.Rows L2 L3
variable {K : PySem.W.Frag} {a : Ad} {mg : Str → Option Value}
section
variable {D3 : Ends3} {G : Gp} {δ : St3} {p r s u d o : Addr} {tb : Subj} {ru rr : Rules} {ow : List (Str × List Own)} {n : Nat}
theorem LI.kept {lk : List (Key × D) → GO} (h : LI a lk G p r s u d o tb ru rr ow n) {x : Str} {os : List Own} (e : look ow x = some os) : (keptOf tb x).map (·.2) = os.map (fun q => (q.1, q.2.1)) ∧ (keptOf tb x).length = os.length ∧ os.length ≤ n := by
  have h1 := h.kp x
  rw [e] at h1
  have h2 := congrArg List.length h1
  simp at h2
  refine ⟨h1, h2, ?_⟩
  rw [← h2]
  unfold keptOf
  cases e : look tb x with
  | none => simp
  | some q => exact h.ln.2.2.2 _ (look_some e)
theorem LI.more {lk : List (Key × D) → GO} (h : LI a lk G p r s u d o tb ru rr ow n) : LI a lk G p r s u d o tb ru rr ow (n + 1) :=
  ⟨h.di, h.re, h.rd, h.od, h.ks, h.oa, h.ld, h.rl, h.kp, h.n1, h.n2, h.n3, h.n4, h.n5, by obtain ⟨l1, l2, l3, l4⟩ := h.ln; exact ⟨by omega, by omega, by omega, fun t ht => by have := l4 t ht; omega⟩⟩
theorem ruleOf_eq (h : LI a .dK G p r s u d o tb ru rr ow n) (x : Str) : ((look rr x).map D.str).getD (.str "back") = .str (ruleOf ru x) := by
  unfold ruleOf
  rw [h.rl x]
  cases look ru x <;> rfl
/-- own[subject] = own[subject] + [fresh] * int(fits) -/
theorem pl_r147 {x : Str} {os : List Own} {on : Own} {F : Bool} {tb' : Subj} (hos : os.length ≤ 100) (f : Fr δ p r d o) (s6 : slot δ 6 = some (.str x)) (s7 : slot δ 7 = some (ownD on)) (s9 : slot δ 9 = some (.bl F)) (ho : G o = some (.dK (sK ownL ow))) (e : look ow x = some os) (l2 : (sK ownL ow).length = 2)
    (q : D3.nx δ (gset G o (.dK (sK ownL (put ow x (if F = true then os ++ [on] else os)))))) : T_law_r147 K a D3 δ G := by
  have e2 : look (sK ownL ow) (.inr x) = some (ownL os) := by rw [look_sK, e]; rfl
  have e3 : ∀ os' : List Own, put (sK ownL ow) (.inr x) (.lst (os'.map ownD)) = sK ownL (put ow x os') := fun os' => put_sK ownL ow x os'
  simp [T_law_r147, f.s4, s6, s7, s9, subC, itemsC, ho, tabC, e2, ownL]
  cases F with
  | true =>
    simp [setC, ho, l2]
    have := e3 (os ++ [on])
    simp at this
    simp at q
    rw [this]
    refine ⟨?_, ?_, ?_, q⟩
    · decide
    · exact sizeLe (m := 101) (by omega) (by decide)
    · exact sizeLt (m := 2) (by decide) (by decide)
  | false =>
    simp [setC, ho, l2, e3]
    simp at q
    refine ⟨?_, ?_, q⟩
    · exact sizeLe (m := 101) (by omega) (by decide)
    · exact sizeLt (m := 2) (by decide) (by decide)
theorem pl_r141 (T : Tx K mg a) (hn : n ≤ 30) (f : Fr δ p r d o) {x : Str} (s6 : slot δ 6 = some (.str x)) (hx : x ∈ (["p", "q"] : List Str)) (h : LI a .dK G p r s u d o tb ru rr ow n)
    (q : ∀ δ' G' tb' ru' rr' ow', Fr δ' p r d o → LI a .dK G' p r s u d o tb' ru' rr' ow' (n + 1) → D3.nx δ' G') : T_law_r141 K a D3 δ G := by
  have l1 := f.ln
  simp [T_law_r141, f.s1, f.s2, f.s3, f.s4, s6, l1]
  unfold sp_law_schema
  refine ⟨p, rfl, h.di, fun on G1 w1 w2 w3 w4 => ?_⟩
  have h1 := h.dice (.inl rfl) w3 w4
  simp [ownD, subC, itemsC]
  intro c hc
  have w1n : on.2.2 ≠ c := gp_new w1.at_ hc
  unfold sp_Schema_init
  refine ⟨c, on.1, .ref on.2.2, on.2.1, rfl, .inl ⟨on.2.2, rfl, by rw [gset_ne w1n]; exact w1.at_, w1n⟩, gset_same, w1.co, w1.lo, fun G2 k2 => ?_⟩
  rw [if_pos w1.fi]
  intro sc ld
  have k12 : Kp [] G1 G2 := (Kp.new hc).transN k2 fun y hy => .inr (by rw [List.mem_singleton.mp hy]; exact hc)
  have h2 := h1.kp0 (.inl rfl) k12
  have w2' := w1.kp0 k12
  have lnew : ∀ {y : Addr} {g : GO}, G1 y = some g → LdNe G2 c y := fun {y g} e => ld y (by
    by_cases z : y = c
    · rw [z, gset_same]; simp
    · rw [gset_ne z, e]; simp)
  have wne : on.2.2 ≠ d ∧ on.2.2 ≠ o ∧ on.2.2 ≠ s ∧ on.2.2 ≠ u := by
    refine ⟨?_, ?_, ?_, ?_⟩ <;> intro z <;> rw [z] at w2
    · rw [h.rd] at w2; cases w2
    · rw [h.od] at w2; cases w2
    · rw [h.re.os] at w2; cases w2
    · rw [h.re.ou] at w2; cases w2
  obtain ⟨os, o1, o2, o3⟩ := h2.own hx
  obtain ⟨kp1, kp2, kp3⟩ := h2.kept o1
  have e1 : look (sK D.str rr) (.inr x) = (look rr x).map D.str := look_sK D.str rr x
  have hru := ruleOf_eq h2 x
  simp [isDC, tabC, h2.rd, h2.od, o2, e1, hru]
  unfold sp_law_fits ownL
  refine ⟨ruleOf ru x, os, on, rfl, fun q hq => (h2.oa _ o3 q hq).1, w2', by omega, fun G3 k3 => ?_⟩
  have h3 := h2.kp0 (.inl rfl) k3
  have sc3 := sc.kp0 k3
  simp [h3.re.ob, List.lookup]
  unfold sp_Registry_fits
  refine ⟨r, s, u, tb, ru, x, c, on.1, on.2.1, rfl, h3.re, sc3, fun G4 k4 => ?_⟩
  rw [kp1]
  generalize hF : fitsB (ruleOf ru x) (os.map fun q => (q.1, q.2.1)) on.1 on.2.1 = F
  have h4 := h3.kp0 (.inl rfl) k4
  have sc4 := sc3.kp0 k4
  have k24 : Kp [] G2 G4 := k3.trans k4 (by simp)
  have w4' := w2'.kp0 k24
  have ld4 : ∀ {y : Addr}, LdNe G2 c y → LdNe G4 c y := fun {y} l => sc.ld k24 (by simp) l
  simp [TTold3, f.s2, s6, h4.re.ob, List.lookup, h4.od, l1, tabC, o2, ownL]
  unfold sp_Registry_add
  refine ⟨r, s, u, tb, ru, x, c, on.1, on.2.1, rfl, h4.re, sc4, ld4 (lnew h1.re.ou), ld4 (lnew h1.re.os), by have := h.ln.2.2.1; omega, fun t ht => by have := h.ln.2.2.2 t ht; omega, ?_⟩
  rw [kp1, hF]
  cases F with
  | true =>
    rw [if_pos rfl]
    intro G5 tb' r5 kk n5 k5
    have o5 : G5 o = some (.dK (sK ownL ow)) := k5 _ _ h4.od (h4.re.ne_dK h4.od h4.n4)
    simp [o5, tabC, o2]
    simp [ownL, kp2]
    refine pl_r147 (x := x) (os := os) (on := on) (F := true) (ow := ow) (tb' := tb') (by omega) (((f.set (by decide)).set (by decide)).set (by decide)) ?_ ?_ ?_ o5 o1 h.len2 ?_
    · simp [l1, s6]
    · simp [l1, ownD]
    · simp [l1]
    · rw [if_pos rfl]
      exact q _ _ _ _ _ _ (((f.set (by decide)).set (by decide)).set (by decide)) (h4.added sc4 (ld4 (lnew h1.rd)) (ld4 (lnew h1.od)) w4' wne hx o1 r5 kk n5 k5)
  | false =>
    rw [if_neg (by simp)]
    intro G5 k5
    have h5 := h4.kp0 (.inl rfl) k5
    simp [T.xm_RowError]
    refine pl_r147 (x := x) (os := os) (on := on) (F := false) (ow := ow) (tb' := tb) (by omega) (((f.set (by decide)).set (by decide)).set (by decide)) ?_ ?_ ?_ h5.od o1 h.len2 ?_
    · simp [l1, s6]
    · simp [l1, ownD]
    · simp [l1]
    · rw [if_neg (by simp), put_same (by rw [h.ks]; exact nd_pq) o1, gset_self h5.od]
      exact q _ _ _ _ _ _ (((f.set (by decide)).set (by decide)).set (by decide)) h5.more
theorem pl_134 (T : Tx K mg a) (hn : n ≤ 30) (f : Fr δ p r d o) (h : LI a .dK G p r s u d o tb ru rr ow n) {Nx : St3 → Gp → Prop} (q : ∀ δ' G' tb' ru' rr' ow', Fr δ' p r d o → LI a .dK G' p r s u d o tb' ru' rr' ow' (n + 1) → Nx δ' G') :
    T_law_134 K a { D3 with nx := Nx, ct := Nx } δ G := by
  have l1 := f.ln
  simp [T_law_134, f.s1, f.s2, f.s3, f.s4]
  refine roll_go h.di (by decide) (by decide) fun v G1 v0 v1 d1 k1 => ?_
  have h1 := h.dice (.inl rfl) d1 k1
  obtain ⟨x, hx, hpq⟩ := pq v v0 v1
  refine hpq _ _ ?_
  have f1 : Fr (δ.set 6 (some (.str x))) p r d o := f.set (by decide)
  have s6 : slot (δ.set 6 (some (.str x))) 6 = some (.str x) := slot_same (by omega)
  generalize δ.set 6 (some (.str x)) = δ1 at f1 s6
  refine roll_go d1 (by decide) (by decide) fun v2 G2 v20 v21 d2 k2 => ?_
  have h2 := h1.dice (.inl rfl) d2 k2
  by_cases hv : v2 = 0
  · simp only [hv, eqC_ii, decide_true, if_true, s6]
    refine ⟨sizeLe (m := 5) (by decide) (by decide), ?_⟩
    refine roll_go d2 (by decide) (by decide) fun v3 G3 v30 v31 d3 k3 => ?_
    have h3 := h2.dice (.inl rfl) d3 k3
    obtain ⟨y, hy, hat⟩ := rule_at v3 v30 v31
    have ndr : r ≠ d := gp_ne h3.re.ob h3.rd nofun
    have e1 : put (sK D.str rr) (.inr x) (.str y) = sK D.str (put rr x y) := put_sK D.str rr x y
    have e2 : look (sK D.str (put rr x y)) (.inr x) = some (.str y) := by rw [look_sK, look_put, if_pos rfl]; rfl
    simp [subC, itemsC, hat, setC, h3.rd, e1, gset_ne ndr, h3.re.ob, List.lookup, tabC, e2, len_sK]
    refine ⟨sizeLt h3.ln.1 (by omega), ?_⟩
    have r1 : RegAt a (gset G3 d (.dK (sK .str (put rr x y)))) r s u tb ru := h3.re.kp (as := [d]) (Kp.set (by simp)) (by intro q hq C fs e; rw [List.mem_singleton.mp hq, h3.rd] at e; cases e) (by simpa using h3.n2.symm) (by simpa using h3.n3.symm)
      (fun t ht => by simpa using gp_ne (h3.re.ol t ht) h3.rd nofun) (fun t ht q hq x hx => by rw [List.mem_singleton.mp hx]; exact (h3.ld t ht q hq).1)
    unfold sp_Registry_put_rule
    refine ⟨r, s, u, tb, ru, x, y, rfl, r1, by have := h3.ln.2.1; omega, .inl hy, fun _ G5 ru' r5 l5 n5 k5 => ?_, fun e => absurd hy (by rw [e]; exact not_fly)⟩
    have h5 := h3.ruled r5 l5 n5 k5
    obtain ⟨os, o1, o2, o3⟩ := h5.own hx
    simp [h5.od, tabC, o2, h5.same o1, gset_self h5.od]
    exact ⟨sizeLt (Nat.le_of_eq h5.len2) (by decide), q _ _ _ _ _ _ f1 h5⟩
  · simp [hv]
    exact pl_r141 T hn f1 s6 hx h2 q
end
end K10
namespace K10
open PySem PySem.Spec PyProof.Rows L2 L3
variable {K : PySem.W.Frag} {a : Ad} {mg : Str → Option Value}
section
variable {D3 : Ends3} {G : Gp} {δ : St3} {p r s u d o : Addr} {tb : Subj} {ru rr : Rules} {ow : List (Str × List Own)} {n : Nat}
theorem keyD_gd {k : Key} (h : KeyL k) (n : Nat) : gd n (keyD k) = true := by
  cases k with
  | inl i => simp [keyD]
  | inr x => simpa [keyD, StrOk] using (h x rfl).2.1
theorem row_gd {cs : Cols} {ls : Lack} {cs2 : Cols} {vs : List Key} (hv : ∀ k ∈ vs, KeyL k) (hl : LackOk ls) : ∀ x ∈ rowOf cs ls cs2 vs, gd 59 x = true := by
  intro x hx
  obtain ⟨c, hc, rfl⟩ := List.mem_map.mp hx
  cases e : look ((cs2.map (·.1)).zip vs) c.1 with
  | some v =>
    simp only
    exact keyD_gd (hv v (List.of_mem_zip (look_some e)).2) 59
  | none =>
    simp only
    cases e2 : look ls c.1 with
    | none => simp
    | some v => simpa using keyD_gd (hl.vl _ (look_some e2)) 59
/-- where the inner loops stand -/
structure F2 (δ : St3) (p r o v : Addr) (x : Str) (os : List Own) (k : Nat) (vs : List Key) : Prop where
  ln : δ.length = 24
  s1 : slot δ 1 = some (.ref p)
  s2 : slot δ 2 = some (.ref r)
  s4 : slot δ 4 = some (.ref o)
  s6 : slot δ 6 = some (.str x)
  s10 : slot δ 10 = some (ownL os)
  s11 : slot δ 11 = some (.int k)
  s12 : slot δ 12 = some (rowD vs)
  s13 : slot δ 13 = some (.ref v)
theorem F2.set {δ : St3} {p r o v : Addr} {x : Str} {os : List Own} {k : Nat} {vs : List Key} (h : F2 δ p r o v x os k vs) {i : Nat} {y : Option D} (hi : 14 ≤ i) : F2 (δ.set i y) p r o v x os k vs :=
  ⟨by rw [List.length_set]; exact h.ln, by rw [slot_other (by omega)]; exact h.s1, by rw [slot_other (by omega)]; exact h.s2, by rw [slot_other (by omega)]; exact h.s4, by rw [slot_other (by omega)]; exact h.s6, by rw [slot_other (by omega)]; exact h.s10, by rw [slot_other (by omega)]; exact h.s11, by rw [slot_other (by omega)]; exact h.s12, by rw [slot_other (by omega)]; exact h.s13⟩
/-- Schema(one[0], one[1]) -/
theorem mk_schema {on : Own} {G : Gp} {Q : K3} {E : X3} {c : Addr} (hc : G c = none) (w : OwnAt G on) (q : ∀ G', Kp [] G G' → SchAt a.Schema a.Shape G' c on.1 on.2.1 → Q .non G') :
    sp_Schema_init K a [.ref c, .lst (colsD on.1), .ref on.2.2] (gset G c (.ins a.Schema [])) Q E := by
  have n1 : on.2.2 ≠ c := gp_new w.at_ hc
  refine ⟨c, on.1, .ref on.2.2, on.2.1, rfl, .inl ⟨on.2.2, rfl, by rw [gset_ne n1]; exact w.at_, n1⟩, gset_same, w.co, w.lo, fun G2 k2 => ?_⟩
  rw [if_pos w.fi]
  exact fun sc ld => q _ ((Kp.new hc).transN k2 fun y hy => .inr (by rw [List.mem_singleton.mp hy]; exact hc)) sc
/-- what is due: the row, or told that it cannot be read -/
def dueD (good : Bool) (ys : List D) : D := if good = true then .tup ys else .str "RowError"
theorem neC_due {good : Bool} {ys : List D} {G : Gp} {Q : K3} (hy : ∀ y ∈ ys, gd 59 y = true) (q : Q (.bl false) G) : neC (if good = true then .nod .tuF ys else .str "RowError") (dueD good ys) G Q := by
  cases good with
  | true =>
    simp only [if_true, dueD, neC_nn]
    have g1 : gd 60 (.tup ys) = true := gd_all (.inl rfl) hy
    have g2 : gd 60 (.nod .tuF ys) = true := gd_all (.inr (.inl rfl)) hy
    refine ⟨g2, g1, ?_⟩
    rw [show eq3 (.nod .tuF ys) (.nod .tup ys) = true from eq3_refl g1]
    exact q
  | false => simpa [dueD] using q
theorem pl_r157 (T : Tx K mg a) {v c1 c2 : Addr} {x : Str} {os : List Own} {k j : Nat} {vs : List Key} {oj ok : Own} {good : Bool} (f : F2 δ p r o v x os k vs) (s14 : slot δ 14 = some (.int j)) (s15 : slot δ 15 = some (.bl good)) (s16 : slot δ 16 = some (dueD good (rowOf oj.1 oj.2.1 ok.1 vs))) (s17 : slot δ 17 = some (.ref c1)) (s18 : slot δ 18 = some (.ref c2))
    (h : LI a .lkK G p r s u d o tb ru rr ow n) (hx : look ow x = some os) (hj : os[j]? = some oj) (hk : os[k]? = some ok) (hg : good = readsB oj.1 oj.2.1 ok.1) (sc1 : SchAt a.Schema a.Shape G c1 oj.1 oj.2.1) (sc2 : SchAt a.Schema a.Shape G c2 ok.1 ok.2.1)
    (hfit : fitsRow ok.1 vs = true) (hkey : ∀ k ∈ vs, KeyL k) (hl : vs.length ≤ 20)
    (q : ∀ G', Kp [] G G' → D3.nx δ G') : T_law_r157 K a D3 δ G := by
  have wj := (h.oa _ (look_some hx) oj (List.mem_of_getElem? hj)).1
  have hy : ∀ y ∈ rowOf oj.1 oj.2.1 ok.1 vs, gd 59 y = true := row_gd hkey wj.lo
  obtain ⟨sh1, ld1, e1, e2, e3⟩ := sc1.ob
  simp [T_law_r157, s15, s16, s17, s18, e1, List.lookup]
  unfold sp_Schema_reads
  refine ⟨_, _, _, _, _, _, rfl, sc1, sc2, fun G1 k1 => ?_⟩
  simp [← hg, TTold3, s17, s18, f.s12, k1.at0 e1, List.lookup]
  unfold sp_Schema_row_from
  refine ⟨_, _, _, _, _, _, vs, rfl, sc1.kp0 k1, sc2.kp0 k1, hl, hkey, fun G2 k2 => ?_⟩
  rw [← hg, hfit, Bool.and_true]
  have k12 : Kp [] G G2 := k1.trans k2 (by simp)
  have h2 := h.kp0 (.inr rfl) k12
  have fin : ∀ G3, Kp [] G2 G3 → neC (if good = true then .nod .tuF (rowOf oj.1 oj.2.1 ok.1 vs) else .str "RowError") (dueD good (rowOf oj.1 oj.2.1 ok.1 vs)) G3 (fun d G' => match d with | .bl k => if k = true then D3.rt (.bl false) G' else D3.nx δ G' | _ => False) := fun G3 k3 =>
    neC_due hy (by simpa using q G3 (k12.trans k3 (by simp)))
  have tail : sp_Registry_read K a [.ref r, .str x, .int k, rowD vs, .int j] G2 (fun x_1 G1 => neC x_1 (dueD good (rowOf oj.1 oj.2.1 ok.1 vs)) G1 fun d G' => match d with | .bl k => if k = true then D3.rt (.bl false) G' else D3.nx δ G' | _ => False)
      (fun cls G' => PySem.W.exmOne K cls (.ref a.RowError) = some true ∧ neC (.str "RowError") (dueD good (rowOf oj.1 oj.2.1 ok.1 vs)) G' fun d G' => match d with | .bl k => if k = true then D3.rt (.bl false) G' else D3.nx δ G' | _ => False) := by
    have kat : ∀ (i : Nat) (oi : Own), os[i]? = some oi → ∃ kk : Kept, (keptOf tb x)[i]? = some kk ∧ kk.2 = (oi.1, oi.2.1) := fun i oi e => by
      have e1 := congrArg (fun l => l[i]?) (h2.kp x)
      simp only [hx, Option.getD_some, List.getElem?_map, e, Option.map_some] at e1
      cases e2 : (keptOf tb x)[i]? with
      | none => rw [e2] at e1; cases e1
      | some kk => rw [e2] at e1; exact ⟨kk, rfl, Option.some.inj e1⟩
    obtain ⟨kk, m1, m2⟩ := kat k ok hk
    obtain ⟨kj, m3, m4⟩ := kat j oj hj
    unfold sp_Registry_read
    refine ⟨r, s, u, tb, ru, x, k, vs, j, rfl, h2.re, hl, hkey, fun G3 k3 => ?_⟩
    simp only [Int.natCast_nonneg, if_true, Int.toNat_natCast, m1, m3, m2, m4, hfit, ← hg, Bool.and_true]
    have fin := fin G3 k3
    cases good with
    | true => simpa using fin
    | false => exact ⟨T.xm_RowError, by simpa using fin⟩
  have g1 : gd 60 (.tup (rowOf oj.1 oj.2.1 ok.1 vs)) = true := gd_all (.inl rfl) hy
  have g2 : gd 60 (.nod .tuF (rowOf oj.1 oj.2.1 ok.1 vs)) = true := gd_all (.inr (.inl rfl)) hy
  have ee : eq3 (.nod .tuF (rowOf oj.1 oj.2.1 ok.1 vs)) (.nod .tup (rowOf oj.1 oj.2.1 ok.1 vs)) = true := eq3_refl g1
  cases good with
  | true =>
    simp only [if_true, dueD, neC_nn, g1, g2, ee, Bool.not_true, true_and, f.s2, f.s6, f.s11, s14] at tail ⊢
    simp only [h2.re.ob, List.lookup, true_and]
    exact ⟨by simp, tail⟩
  | false =>
    simp [dueD, f.s2, f.s6, f.s11, s14, h2.re.ob, List.lookup] at tail ⊢
    exact ⟨T.xm_RowError, tail⟩
/-- the rows that are looked at -/
structure At2 (a : Ad) (G : Gp) (x : Str) (ow : List (Str × List Own)) (os : List Own) (k j : Nat) (oj ok : Own) (vs : List Key) (v : Addr) : Prop where
  hx : look ow x = some os
  hj : os[j]? = some oj
  hk : os[k]? = some ok
  wj : OwnAt G oj
  wk : OwnAt G ok
  hv : G v = some (.dK (sK keyD ((ok.1.map (·.1)).zip vs)))
  hfit : fitsRow ok.1 vs = true
  hkey : ∀ k ∈ vs, KeyL k
  hl : vs.length ≤ 20
theorem At2.kp {G' : Gp} {x : Str} {os : List Own} {k j : Nat} {oj ok : Own} {vs : List Key} {v : Addr} (h : At2 a G x ow os k j oj ok vs v) (kp : Kp [] G G') : At2 a G' x ow os k j oj ok vs v :=
  ⟨h.hx, h.hj, h.hk, h.wj.kp0 kp, h.wk.kp0 kp, kp.at0 h.hv, h.hfit, h.hkey, h.hl⟩
theorem own_at {os : List Own} {j : Nat} {oj : Own} (hj : os[j]? = some oj) : atI (os.map ownD) (j : Int) = some (ownD oj) := by
  have jl : j < os.length := (List.getElem?_eq_some_iff.mp hj).1
  rw [atI_at (by simpa using jl), List.getElem?_map, hj]; rfl
theorem pl_r156 (T : Tx K mg a) {v : Addr} {x : Str} {os : List Own} {k j : Nat} {vs : List Key} {oj ok : Own} {good : Bool} (f : F2 δ p r o v x os k vs) (s14 : slot δ 14 = some (.int j)) (s15 : slot δ 15 = some (.bl good)) (s16 : slot δ 16 = some (dueD good (rowOf oj.1 oj.2.1 ok.1 vs)))
    (h : LI a .lkK G p r s u d o tb ru rr ow n) (w : At2 a G x ow os k j oj ok vs v) (hg : good = readsB oj.1 oj.2.1 ok.1)
    (q : ∀ δ' G', F2 δ' p r o v x os k vs → Kp [] G G' → D3.nx δ' G') : T_law_r156 K a D3 δ G := by
  have l1 := f.ln
  simp [T_law_r156, f.s10, f.s11, s14, ownL, subC, itemsC, own_at w.hj, own_at w.hk, ownD]
  intro c1 hc1
  refine mk_schema hc1 w.wj fun G1 k1 sc1 => ⟨rfl, fun c2 hc2 => mk_schema hc2 (w.wk.kp0 k1) fun G2 k2 sc2 => ⟨rfl, ?_⟩⟩
  have k12 : Kp [] G G2 := k1.trans k2 (by simp)
  exact pl_r157 T (f := (f.set (by decide)).set (by decide)) (by simp [s14]) (by simp [s15]) (by simp [s16]) (by simp [l1]) (by simp [l1]) (h.kp0 (.inr rfl) k12) w.hx w.hj w.hk hg (sc1.kp0 k2) sc2 w.hfit w.hkey w.hl
    (fun G3 k3 => q _ G3 ((f.set (by decide)).set (by decide)) (k12.trans k3 (by simp)))
theorem pl_r155 (T : Tx K mg a) {v : Addr} {x : Str} {os : List Own} {k j : Nat} {vs : List Key} {oj ok : Own} {good : Bool} (f : F2 δ p r o v x os k vs) (s14 : slot δ 14 = some (.int j)) (s15 : slot δ 15 = some (.bl good))
    (h : LI a .lkK G p r s u d o tb ru rr ow n) (w : At2 a G x ow os k j oj ok vs v) (hg : good = readsB oj.1 oj.2.1 ok.1)
    (q : ∀ δ' G', F2 δ' p r o v x os k vs → Kp [] G G' → D3.nx δ' G') : T_law_r155 K a D3 δ G := by
  have l1 := f.ln
  have next : T_law_r156 K a D3 (δ.set 16 (some (dueD good (rowOf oj.1 oj.2.1 ok.1 vs)))) G := pl_r156 T (f.set (by decide)) (by simp [s14]) (by simp [s15]) (by simp [l1]) h w hg q
  cases good with
  | false => simpa [T_law_r155, s15, dueD] using next
  | true =>
    simp [T_law_r155, s15, f.s10, s14, ownL, subC, itemsC, own_at w.hj, ownD, tupR, colsD]
    refine lcRunM colD (fun _ => true) (fun c => match look ((ok.1.map (·.1)).zip vs) c.1 with | some v => keyD v | none => ((look oj.2.1 c.1).map keyD).getD .non) oj.1 [] (fun c hc K1 K2 g1 g2 => ?_) (by simp; exact sizeLe w.wj.co.ln (by decide)) ?_
    · have g1 := g1 rfl
      have e7 : look (sK keyD ((ok.1.map (·.1)).zip vs)) (.inr c.1) = (look ((ok.1.map (·.1)).zip vs) c.1).map keyD := look_sK keyD _ c.1
      have e8 : look (lackD oj.2.1) (.inr c.1) = (look oj.2.1 c.1).map keyD := look_sK keyD oj.2.1 c.1
      simp [colD, l1, f.s13, f.s10, s14, ownL, subC, itemsC, own_at w.hj, ownD, isDC, tabC, w.hv, w.wj.at_, e7, e8]
      cases h5 : look ((ok.1.map (·.1)).zip vs) c.1 with
      | none =>
        rw [h5] at g1
        simpa using g1
      | some v =>
        rw [h5] at g1
        simpa using g1
    · simp [filt_true]
      simp only [dueD, if_true] at next
      exact next
theorem pl_153 (T : Tx K mg a) {v : Addr} {x : Str} {os : List Own} {k j : Nat} {vs : List Key} {oj ok : Own} (f : F2 δ p r o v x os k vs) (s14 : slot δ 14 = some (.int j))
    (h : LI a .lkK G p r s u d o tb ru rr ow n) (w : At2 a G x ow os k j oj ok vs v)
    (q : ∀ δ' G', F2 δ' p r o v x os k vs → Kp [] G G' → D3.nx δ' G') : T_law_153 K a D3 δ G := by
  have l1 := f.ln
  simp [T_law_153, f.s10, f.s11, s14, ownL, subC, itemsC, own_at w.hj, own_at w.hk]
  unfold sp_law_reads
  refine ⟨oj, ok, rfl, w.wj, w.wk, fun G1 k1 => ?_⟩
  exact pl_r155 T (f.set (by decide)) (by simp [s14]) (by simp [l1]) (h.kp0 (.inr rfl) k1) (w.kp k1) rfl (fun δ' G' f' k' => q δ' G' f' (k1.trans k' (by simp)))
end
end K10
namespace K10
open PySem PySem.Spec PyProof.Rows L2 L3
variable {K : PySem.W.Frag} {a : Ad} {mg : Str → Option Value}
section
variable {D3 : Ends3} {G : Gp} {δ : St3} {p r s u d o : Addr} {tb : Subj} {ru rr : Rules} {ow : List (Str × List Own)} {n : Nat}
theorem mem_rangeD {n : Nat} {x : D} (h : x ∈ rangeD 0 n) : ∃ i < n, x = .int (i : Nat) := by
  obtain ⟨i, hi, rfl⟩ := List.mem_map.mp h
  exact ⟨i, List.mem_range.mp hi, by simp⟩
theorem pl_r153 (T : Tx K mg a) {v : Addr} {x : Str} {os : List Own} {k : Nat} {vs : List Key} {ok : Own} (f : F2 δ p r o v x os k vs) (h : LI a .lkK G p r s u d o tb ru rr ow n) (hx : look ow x = some os) (hk : os[k]? = some ok) (hos : os.length ≤ 100)
    (hv : G v = some (.dK (sK keyD ((ok.1.map (·.1)).zip vs)))) (hfit : fitsRow ok.1 vs = true) (hkey : ∀ k ∈ vs, KeyL k) (hl : vs.length ≤ 20)
    (q : ∀ δ' G', F2 δ' p r o v x os k vs → Kp [] G G' → D3.nx δ' G') : T_law_r153 K a D3 δ G := by
  have b1 : -(2 ^ 62) ≤ (os.length : Int) := by omega
  have b2 : (os.length : Int) < 2 ^ 62 := by omega
  simp [T_law_r153, f.s10, ownL, -Int.reducePow, -Int.reduceNeg, b1, b2]
  refine forRun (fun ds δ' G' => (∀ d ∈ ds, ∃ i < os.length, d = .int (i : Nat)) ∧ F2 δ' p r o v x os k vs ∧ Kp [] G G') _ _ _ ⟨fun d hd => mem_rangeD hd, f, Kp.refl⟩ ?_ ?_
  · rintro d0 r0 δ' G' ⟨h1, f', k1⟩ Nx hN
    obtain ⟨j, hj, rfl⟩ := h1 d0 (by simp)
    have hj' : os[j]? = some os[j] := List.getElem?_eq_getElem hj
    have h' := h.kp0 (.inr rfl) k1
    have w : At2 a G' x ow os k j os[j] ok vs v := ⟨hx, hj', hk, (h'.oa _ (look_some hx) _ (List.getElem_mem hj)).1, (h'.oa _ (look_some hx) ok (List.mem_of_getElem? hk)).1, k1.at0 hv, hfit, hkey, hl⟩
    simp
    exact pl_153 T (f'.set (by decide)) (by simp [f'.ln]) h' w fun δ2 G2 f2 k2 => hN _ _ ⟨fun d hd => h1 d (by simp [hd]), f2, k1.trans k2 (by simp)⟩
  · rintro δ' G' ⟨h1, f', k1⟩
    exact q _ _ f' k1
structure F1 (δ : St3) (p r o : Addr) (x : Str) (os : List Own) : Prop where
  ln : δ.length = 24
  s1 : slot δ 1 = some (.ref p)
  s2 : slot δ 2 = some (.ref r)
  s4 : slot δ 4 = some (.ref o)
  s6 : slot δ 6 = some (.str x)
  s10 : slot δ 10 = some (ownL os)
theorem F1.set {δ : St3} {p r o : Addr} {x : Str} {os : List Own} (h : F1 δ p r o x os) {i : Nat} {y : Option D} (hi : 11 ≤ i) : F1 (δ.set i y) p r o x os :=
  ⟨by rw [List.length_set]; exact h.ln, by rw [slot_other (by omega)]; exact h.s1, by rw [slot_other (by omega)]; exact h.s2, by rw [slot_other (by omega)]; exact h.s4, by rw [slot_other (by omega)]; exact h.s6, by rw [slot_other (by omega)]; exact h.s10⟩
theorem F2.f1 {δ : St3} {p r o v : Addr} {x : Str} {os : List Own} {k : Nat} {vs : List Key} (h : F2 δ p r o v x os k vs) : F1 δ p r o x os := ⟨h.ln, h.s1, h.s2, h.s4, h.s6, h.s10⟩
theorem pl_r152 (T : Tx K mg a) {x : Str} {os : List Own} {k : Nat} {vs : List Key} {ok : Own} (f : F1 δ p r o x os) (s11 : slot δ 11 = some (.int k)) (s12 : slot δ 12 = some (rowD vs)) (h : LI a .lkK G p r s u d o tb ru rr ow n) (hx : look ow x = some os) (hk : os[k]? = some ok) (hos : os.length ≤ 100)
    (hfit : fitsRow ok.1 vs = true) (hkey : ∀ k ∈ vs, KeyL k) (hl : vs.length ≤ 20)
    (q : ∀ δ' G', F1 δ' p r o x os → Kp [] G G' → D3.nx δ' G') : T_law_r152 K a D3 δ G := by
  have l1 := f.ln
  have wk := (h.oa _ (look_some hx) ok (List.mem_of_getElem? hk)).1
  have hlen : vs.length = ok.1.length := by
    unfold fitsRow at hfit
    have := congrArg List.length (of_decide_eq_true hfit)
    simpa using this
  simp [T_law_r152, f.s10, s11, s12, ownL, subC, itemsC, own_at hk, ownD, colsD]
  refine lcRunM colD (fun _ => true) (fun c => .str c.1) ok.1 [] (fun c hc K1 K2 h1 h2 => ?_) (by simp; exact sizeLe wk.co.ln (by decide)) ?_
  · simp [colD, l1]
    exact h1 rfl
  · simp [filt_true, l1, s12, dictZipC, rowD]
    have e1 : keysL (ok.1.map fun c => D.str c.1) = some (ok.1.map fun c => .inr c.1) := by
      have := keysL_map (ok.1.map fun c => (.inr c.1 : Key))
      simpa [List.map_map, Function.comp_def, keyD] using this
    have nd2 : (((ok.1.map (·.1)).zip vs).map (·.1)).Nodup := by
      rw [List.map_fst_zip (by simp [hlen])]
      exact wk.co.nd
    have e2 : merge [] ((ok.1.map fun c => (.inr c.1 : Key)).zip (vs.map keyD)) = sK keyD ((ok.1.map (·.1)).zip vs) := by
      rw [show (ok.1.map fun c => (.inr c.1 : Key)).zip (vs.map keyD) = sK keyD ((ok.1.map (·.1)).zip vs) by
        rw [show (ok.1.map fun c => (.inr c.1 : Key)) = (ok.1.map (·.1)).map Sum.inr by simp, List.zip_map]; rfl]
      exact merge_nil (nd_sK keyD nd2)
    simp [e1, e2]
    intro v hv
    have k1 : Kp [] G (gset G v (.dK (sK keyD ((ok.1.map (·.1)).zip vs)))) := Kp.new hv
    exact pl_r153 T ⟨by simp [l1], by simp [f.s1], by simp [f.s2], by simp [f.s4], by simp [f.s6], by simp [f.s10], by simp [s11], by simp [s12], by simp [l1]⟩ (h.kp0 (.inr rfl) k1) hx hk hos gset_same hfit hkey hl (fun δ' G' f' k' => q δ' G' f'.f1 (k1.trans k' (by simp)))
theorem keyl_t (v : Int) (h0 : 0 ≤ v) (h1 : v < 3) : v.natAbs.log2 < 1920 ∧ ("t" : Str).length + (toString v : Str).length ≤ sizeLine ∧ KeyL (.inr ("t" ++ (toString v : Str))) := by
  have : v = 0 ∨ v = 1 ∨ v = 2 := by omega
  rcases this with rfl | rfl | rfl
  · refine ⟨by decide +kernel, by decide +kernel, ?_⟩
    intro x e
    cases e
    exact ⟨by unfold StrL; decide +kernel, by unfold StrOk; decide +kernel, by decide +kernel⟩
  · refine ⟨by decide +kernel, by decide +kernel, ?_⟩
    intro x e
    cases e
    exact ⟨by unfold StrL; decide +kernel, by unfold StrOk; decide +kernel, by decide +kernel⟩
  · refine ⟨by decide +kernel, by decide +kernel, ?_⟩
    intro x e
    cases e
    exact ⟨by unfold StrL; decide +kernel, by unfold StrOk; decide +kernel, by decide +kernel⟩
theorem pl_150 (T : Tx K mg a) {x : Str} {os : List Own} {k : Nat} {ok : Own} (f : F1 δ p r o x os) (s11 : slot δ 11 = some (.int k)) (h : LI a .lkK G p r s u d o tb ru rr ow n) (hx : look ow x = some os) (hk : os[k]? = some ok) (hos : os.length ≤ 100)
    (q : ∀ δ' G', F1 δ' p r o x os → DiceAt G' p → Kp [p] G G' → D3.nx δ' G') : T_law_150 K a D3 δ G := by
  have l1 := f.ln
  have wk := (h.oa _ (look_some hx) ok (List.mem_of_getElem? hk)).1
  simp [T_law_150, f.s10, s11, ownL, subC, itemsC, own_at hk, ownD, colsD]
  refine lcRunI colD (fun rest acc G1 => ∃ vs : List Key, acc = vs.map keyD ∧ vs.map kindK ++ rest.map (·.2) = ok.1.map (·.2) ∧ (∀ k ∈ vs, KeyL k) ∧ DiceAt G1 p ∧ Kp [p] G G1) ok.1 [] G ⟨[], rfl, by simp, by simp, h.di, Kp.refl⟩ (by simp; exact sizeLe wk.co.ln (by decide)) ?_ ?_
  · rintro c rest acc G1 ⟨vs, rfl, h1, h2, h3, h4⟩ K1 K2 g1 g2
    obtain ⟨c1, c2⟩ := c
    have go : ∀ (key : Key) (G2 : Gp), kindK key = c2 → KeyL key → DiceAt G2 p → Kp [p] G1 G2 → K1 (keyD key) G2 := fun key G2 e1 e2 d2 k2 =>
      g1 _ _ ⟨vs ++ [key], by simp, by simpa [e1] using h1, fun k hk => by
        rcases List.mem_append.mp hk with hk | hk
        · exact h2 k hk
        · rw [List.mem_singleton.mp hk]; exact e2, d2, h4.trans k2 (by simp)⟩
    cases c2 with
    | true =>
      simp [colD, l1, kD, f.s1]
      exact roll_go h3 (by decide) (by decide) fun v G2 v0 v1 d2 k2 => go (.inl v) G2 rfl (keyl_int v) d2 k2
    | false =>
      have ne : decide (("text" : Str) = "int") = false := by decide +kernel
      simp [colD, l1, kD, f.s1, ne]
      refine roll_go h3 (by decide) (by decide) fun v G2 v0 v1 d2 k2 => ?_
      obtain ⟨t1, t2, t3⟩ := keyl_t v v0 v1
      simp only [strR]
      exact ⟨t1, t2, go (.inr _) G2 rfl t3 d2 k2⟩
  · rintro acc G1 ⟨vs, rfl, h1, h2, h3, h4⟩
    rw [List.map_nil, List.append_nil] at h1
    have hl : vs.length = ok.1.length := by simpa using congrArg List.length h1
    have := wk.co.ln
    simp [tupR]
    exact pl_r152 T (vs := vs) (f.set (by decide)) (by simp [s11]) (by simp [l1, rowD]) (h.dice (.inr rfl) h3 h4) hx hk hos (by unfold fitsRow; exact decide_eq_true h1) h2 (by omega)
      (fun δ' G' f' k' => q δ' G' f' (h3.kp k' (by simp)) (h4.trans k' (by simp)))
/-- the frame behind the first loop -/
structure F0 (δ : St3) (p r o : Addr) : Prop where
  ln : δ.length = 24
  s1 : slot δ 1 = some (.ref p)
  s2 : slot δ 2 = some (.ref r)
  s4 : slot δ 4 = some (.ref o)
theorem pl_148 (T : Tx K mg a) {x : Str} (f : F0 δ p r o) (s6 : slot δ 6 = some (.str x)) (hxm : x ∈ (["p", "q"] : List Str)) (h : LI a .lkK G p r s u d o tb ru rr ow n) (hn : n ≤ 100)
    (q : ∀ δ' G', F0 δ' p r o → DiceAt G' p → Kp [p] G G' → D3.nx δ' G') : T_law_148 K a D3 δ G := by
  have l1 := f.ln
  obtain ⟨os, o1, o2, o3⟩ := h.own hxm
  have hos : os.length ≤ 100 := by have := (h.kept o1).2.2; omega
  have b1 : -(2 ^ 62) ≤ (os.length : Int) := by omega
  have b2 : (os.length : Int) < 2 ^ 62 := by omega
  simp [T_law_148, f.s4, s6, subC, itemsC, tabC, h.od, o2, l1]
  simp [ownL, -Int.reducePow, -Int.reduceNeg, b1, b2]
  refine ⟨by omega, ?_⟩
  refine forRun (fun ds δ' G' => (∀ d ∈ ds, ∃ i < os.length, d = .int (i : Nat)) ∧ F1 δ' p r o x os ∧ DiceAt G' p ∧ Kp [p] G G') _ (δ.set 10 (some (.lst (os.map ownD)))) _ ⟨fun d hd => mem_rangeD hd, ⟨by simp [l1], by simp [f.s1], by simp [f.s2], by simp [f.s4], by simp [s6], by simp [l1, ownL]⟩, h.di, Kp.refl⟩ ?_ ?_
  · rintro d0 r0 δ' G' ⟨h1, f', d1, k1⟩ Nx hN
    obtain ⟨k, hk, rfl⟩ := h1 d0 (by simp)
    have hk' : os[k]? = some os[k] := List.getElem?_eq_getElem hk
    have h' := h.dice (.inr rfl) d1 k1
    simp
    exact pl_150 T (f'.set (by decide)) (by simp [f'.ln]) h' o1 hk' hos fun δ2 G2 f2 d2 k2 => hN _ _ ⟨fun d hd => h1 d (by simp [hd]), f2, d2, k1.trans k2 (by simp)⟩
  · rintro δ' G' ⟨h1, f', d1, k1⟩
    exact q _ _ ⟨f'.ln, f'.s1, f'.s2, f'.s4⟩ d1 k1
theorem LI.lock (h : LI a .dK G p r s u d o tb ru rr ow n) : LI a .lkK (gset G o (.lkK (sK ownL ow))) p r s u d o tb ru rr ow n := by
  have k6 : Kp [o] G (gset G o (.lkK (sK ownL ow))) := Kp.set (by simp)
  have n6 : ∀ q ∈ [o], ∀ C fs, G q ≠ some (.ins C fs) := by
    intro q hq C fs z
    rw [List.mem_singleton.mp hq, h.od] at z; cases z
  refine ⟨h.di.kp k6 (by simpa using (dice_ne_dK h.di h.od).symm), h.re.kp k6 n6 (by simpa using h.n4.symm) (by simpa using h.n5.symm) (fun t ht => by simpa using gp_ne (h.re.ol t ht) h.od nofun) (fun t ht q hq y hy => by rw [List.mem_singleton.mp hy]; exact (h.ld t ht q hq).2), k6 _ _ h.rd (by simpa using h.n1), gset_same, h.ks, fun t ht q hq => ?_,
    fun t ht q hq => ⟨(h.re.sc t ht q hq).ld k6 n6 (h.ld t ht q hq).1, (h.re.sc t ht q hq).ld k6 n6 (h.ld t ht q hq).2⟩, h.rl, h.kp, h.n1, h.n2, h.n3, h.n4, h.n5, h.ln⟩
  obtain ⟨w1, w2, w3, w4⟩ := h.oa t ht q hq
  exact ⟨w1.mono (k6 _ _ w1.at_ (by simpa using w3)), w2, w3, w4⟩
theorem pl_r148 (T : Tx K mg a) (f : Fr δ p r d o) (h : LI a .dK G p r s u d o tb ru rr ow n) (hn : n ≤ 100) (q : ∀ δ' G', δ'.length = 24 → D3.nx δ' G') : T_law_r148 K a D3 δ G := by
  have hk := h.lock
  simp [T_law_r148, TLkS, pthV, f.s4, h.od, IKeys]
  have e1 : (sK ownL ow).map (fun kv => keyD kv.1) = ([.str "p", .str "q"] : List D) := by
    have : (sK ownL ow).map (fun kv => keyD kv.1) = (ow.map (·.1)).map D.str := by simp [sK, keyD]
    rw [this, h.ks]; rfl
  rw [show ((fun a : Key × D => keyD a.1) = fun kv => keyD kv.1) from rfl, e1]
  refine forRun (fun ds δ' G' => (∀ d ∈ ds, ∃ x ∈ (["p", "q"] : List Str), d = .str x) ∧ F0 δ' p r o ∧ DiceAt G' p ∧ Kp [p] (gset G o (.lkK (sK ownL ow))) G') _ _ _ ⟨fun d hd => ?_, ⟨f.ln, f.s1, f.s2, f.s4⟩, hk.di, Kp.refl⟩ ?_ ?_
  · simp at hd
    rcases hd with rfl | rfl
    · exact ⟨"p", by simp, rfl⟩
    · exact ⟨"q", by simp, rfl⟩
  · rintro d0 r0 δ' G' ⟨h1, f', d1, k1⟩ Nx hN
    obtain ⟨x, hx, rfl⟩ := h1 d0 (by simp)
    have h' := hk.dice (.inr rfl) d1 k1
    simp
    exact pl_148 T ⟨by simp [f'.ln], by simp [f'.s1], by simp [f'.s2], by simp [f'.s4]⟩ (by simp [f'.ln]) hx h' hn fun δ2 G2 f2 d2 k2 => hN _ _ ⟨fun d hd => h1 d (by simp [hd]), f2, d2, k1.trans k2 (by simp)⟩
  · rintro δ' G' ⟨h1, f', d1, k1⟩
    exact q _ _ f'.ln
end
end K10
namespace K10
open PySem PySem.Spec PyProof.Rows L2 L3
variable {K : PySem.W.Frag} {a : Ad} {mg : Str → Option Value}
section
variable {D3 : Ends3} {G : Gp} {δ : St3} {p r s u d o : Addr} {tb : Subj} {ru rr : Rules} {ow : List (Str × List Own)} {n : Nat}
def ow0 : List (Str × List Own) := [("p", []), ("q", [])]
theorem merge0 : merge [] [((.inr "p" : Key), D.lst []), (.inr "q", .lst [])] = sK ownL ow0 := by
  rw [merge_nil (by decide +kernel)]
  rfl
theorem pl_132 (T : Tx K mg a) (hδ : δ.length = 24) (s1 : slot δ 1 = some (.ref p)) (hd : DiceAt G p) (q : ∀ δ' G', δ'.length = 24 → D3.nx δ' G') : T_law_132 K a D3 δ G := by
  simp [T_law_132]
  intro r hr
  unfold sp_Registry_init
  refine ⟨r, rfl, gset_same, fun G1 s u re hs hu k1 => ⟨rfl, ?_⟩⟩
  simp [TDNewK]
  intro d hd1 o ho
  have npr : p ≠ r := by obtain ⟨_, _, _, e⟩ := hd; exact gp_new e hr
  have dp : DiceAt G1 p := (hd.kp (Kp.new (as := []) hr) (by simp)).kp k1 (by simpa using npr)
  have k2 : Kp [] G1 (gset G1 d (.dK [])) := Kp.new hd1
  have ndo : d ≠ o := fun e => by rw [← e, gset_same] at ho; cases ho
  have ho1 : G1 o = none := by rw [gset_ne ndo.symm] at ho; exact ho
  rw [merge0]
  have k3 : Kp [] G1 (gset (gset G1 d (.dK [])) o (.dK (sK ownL ow0))) := k2.put ho1
  have h0 : LI a .dK (gset (gset G1 d (.dK [])) o (.dK (sK ownL ow0))) p r s u d o [] [] [] ow0 0 := by
    have ne : ∀ {x y : Addr} {g : GO}, G1 x = some g → G1 y = none → y ≠ x := fun h1 h2 e => by rw [e, h1] at h2; cases h2
    refine ⟨dp.kp k3 (by simp), re.kp0 k3, by rw [gset_ne ndo, gset_same]; rfl, gset_same, rfl, fun t ht q hq => ?_, fun t ht => by simp at ht, fun _ => rfl, fun x => ?_, ndo, ne re.os hd1, ne re.ou hd1, ne re.os ho1, ne re.ou ho1, by simp⟩
    · simp [ow0] at ht
      rcases ht with rfl | rfl <;> simp at hq
    · have : (look ow0 x).getD [] = [] := by
        unfold ow0
        rw [look_cons, look_cons]
        split
        · rfl
        · split <;> rfl
      rw [this]
      rfl
  simp only [s1]
  refine roll_go h0.di (by decide) (by decide) fun v G3 v0 v1 d3 k4 => ⟨by omega, by omega, ?_⟩
  have h3 := h0.dice (.inl rfl) d3 k4
  refine forRun (fun ds δ' G' => ∃ n tb ru rr ow, ds.length + n ≤ 24 ∧ Fr δ' p r d o ∧ LI a .dK G' p r s u d o tb ru rr ow n) _ (((δ.set 2 (some (D.ref r))).set 3 (some (D.ref d))).set 4 (some (D.ref o))) _ ⟨0, [], [], [], ow0, ?_, ⟨by simp [hδ], by simp [s1], by simp [hδ], by simp [hδ], by simp [hδ]⟩, h3⟩ ?_ ?_
  · rw [rangeD_len]; omega
  · rintro x rest δ' G' ⟨n, tb, ru, rr, ow, l1, f, h⟩ Nx hN
    simp at l1
    simp
    exact pl_134 T (by omega) (f.set (by decide)) h fun δ2 G2 tb' ru' rr' ow' f2 h2 => hN _ _ ⟨n + 1, tb', ru', rr', ow', by omega, f2, h2⟩
  · rintro δ' G' ⟨n, tb, ru, rr, ow, l1, f, h⟩
    simp at l1
    exact pl_r148 T f h (by omega) q
/-! ### what is refused -/
def c1 : Cols := [("a", true)]
def c2 : Cols := [("a", true), ("b", false)]
def cb : Cols := [("b", true)]
theorem cok : ColsOk c1 ∧ ColsOk c2 ∧ ColsOk cb := by
  refine ⟨⟨by decide +kernel, ?_, by decide⟩, ⟨by decide +kernel, ?_, by decide⟩, ⟨by decide +kernel, ?_, by decide⟩⟩ <;>
  · intro c hc
    simp [c1, c2, cb] at hc
    unfold StrOk
    rcases hc with rfl | rfl <;> decide +kernel
theorem ld1 (x : Str) (k : Key) (hk : KeyL k) : LackOk [(x, k)] := ⟨by simp, fun p hp => by rw [List.mem_singleton.mp hp]; exact hk, by simp⟩
theorem ld0 : LackOk [] := ⟨by simp, (fun p hp => by cases hp), by simp⟩
theorem keyl_lit (x : Str) (h : (x.cps.toList.all fun c => decide (c ∈ z_LETTERS.cps.toList)) = true) (h2 : PyData.strOk x = true) (h3 : x.cps.toList.length ≤ 100) : KeyL (.inr x) := fun y e => by
  cases e
  exact ⟨fun c hc => by simpa using List.all_eq_true.mp h c hc, h2, h3⟩
/-- the registry two: one schema of "x" -/
structure Two (a : Ad) (G : Gp) (r s u c0 : Addr) (tb : Subj) (ru : Rules) : Prop where
  re : RegAt a G r s u tb ru
  kp : keptOf tb "x" = [(c0, c1, [])]
  ky : keptOf tb "y" = []
  rl : ruleOf ru "x" = "back"
  ln : tb.length ≤ 1 ∧ ru = []
  sm : ∀ t ∈ tb, t.2.2.length ≤ 1
theorem Two.kp0 {G' : Gp} {c0 : Addr} (h : Two a G r s u c0 tb ru) (k : Kp [] G G') : Two a G' r s u c0 tb ru := ⟨h.re.kp0 k, h.kp, h.ky, h.rl, h.ln, h.sm⟩
theorem mk_sch {cs : Cols} {ls : Lack} {x : D} {G : Gp} {Q : K3} {E : X3} {c : Addr} (hc : G c = none) (hx : (∃ l, x = .ref l ∧ G l = some (.dK (lackD ls)) ∧ l ≠ c) ∨ x = .nod .tuK [] ∧ ls = []) (h1 : ColsOk cs) (h2 : LackOk ls) (h3 : lackFits cs ls = true)
    (q : ∀ G', Kp [] G G' → SchAt a.Schema a.Shape G' c cs ls → (∀ {y : Addr} {g : GO}, G y = some g → LdNe G' c y) → Q .non G') : sp_Schema_init K a [.ref c, .lst (colsD cs), x] (gset G c (.ins a.Schema [])) Q E := by
  refine ⟨c, cs, x, ls, rfl, hx.imp (fun ⟨l, e1, e2, e3⟩ => ⟨l, e1, by rw [gset_ne e3]; exact e2, e3⟩) id, gset_same, h1, h2, fun G2 k2 => ?_⟩
  rw [if_pos h3]
  exact fun sc ld => q _ ((Kp.new hc).transN k2 fun y hy => .inr (by rw [List.mem_singleton.mp hy]; exact hc)) sc fun {y g} e => ld y (by
    by_cases z : y = c
    · rw [z, gset_same]; simp
    · rw [gset_ne z, e]; simp)
theorem mk_bad {cs : Cols} {ls : Lack} {l : Addr} {G : Gp} {Q : K3} {E : X3} {c : Addr} (hc : G c = none) (hx : G l = some (.dK (lackD ls))) (h1 : ColsOk cs) (h2 : LackOk ls) (h3 : lackFits cs ls = false)
    (q : ∀ G', Kp [] G G' → E (.ref a.RowError) G') : sp_Schema_init K a [.ref c, .lst (colsD cs), .ref l] (gset G c (.ins a.Schema [])) Q E := by
  have n1 : l ≠ c := gp_new hx hc
  refine ⟨c, cs, .ref l, ls, rfl, .inl ⟨l, rfl, by rw [gset_ne n1]; exact hx, n1⟩, gset_same, h1, h2, fun G2 k2 => ?_⟩
  rw [if_neg (by simp [h3])]
  exact q _ ((Kp.new hc).transN k2 fun y hy => .inr (by rw [List.mem_singleton.mp hy]; exact hc))
theorem disp1 {x : Str} {k : Key} {δ : St3} {G : Gp} {Q : K3} {E : X3} (q : ∀ l G', G' l = some (.dK (lackD [(x, k)])) → Kp [] G G' → Q (.ref l) G') : TDisp [(.inr x, TC (keyD k))] δ G Q E := by
  simp
  intro l hl
  have e : merge [] [((.inr x : Key), keyD k)] = lackD [(x, k)] := merge_nil (by simp)
  rw [e]
  exact q l _ gset_same (Kp.new hl)
theorem read_bad {c0 : Addr} {x : Str} {i j : Int} {vs : List Key} {Q : K3} {E : X3} (w : Two a G r s u c0 tb ru) (hv : ∀ k ∈ vs, KeyL k) (hl : vs.length ≤ 20)
    (h : ∀ k w, (if 0 ≤ i then (keptOf tb x)[i.toNat]? else none) = some k → (if 0 ≤ j then (keptOf tb x)[j.toNat]? else none) = some w → (readsB w.2.1 w.2.2 k.2.1 && fitsRow k.2.1 vs) = false) (q : ∀ G', Kp [] G G' → E (.ref a.RowError) G') :
    sp_Registry_read K a [.ref r, .str x, .int i, .tup (vs.map keyD), .int j] G Q E := by
  refine ⟨r, s, u, tb, ru, x, i, vs, j, rfl, w.re, hl, hv, fun G' k' => ?_⟩
  cases e1 : (if 0 ≤ i then (keptOf tb x)[i.toNat]? else none) with
  | none => exact q G' k'
  | some k =>
    cases e2 : (if 0 ≤ j then (keptOf tb x)[j.toNat]? else none) with
    | none => exact q G' k'
    | some w =>
      simp only
      rw [h k w e1 e2]
      simpa using q G' k'
end
end K10
namespace K10
open PySem PySem.Spec PyProof.Rows L2 L3
variable {K : PySem.W.Frag} {a : Ad} {mg : Str → Option Value}
section
variable {D3 : Ends3} {G : Gp} {δ : St3} {p r s u d o : Addr} {tb : Subj} {ru rr : Rules} {ow : List (Str × List Own)} {n : Nat}
theorem bads (T : Tx K mg a) {c0 : Addr} (w : Two a G r s u c0 tb ru) (hs : slot δ 19 = some (.ref r)) {Q : K3} {E : X3} (q : ∀ G', Kp [] G G' → E (.ref a.RowError) G') : ∀ t ∈ lams_law K a, t δ G Q E := by
  have ob := w.re.ob
  intro t ht
  simp [lams_law] at ht
  rcases ht with rfl | rfl | rfl | rfl | rfl | rfl | rfl | rfl
  · simp
    intro l hl c hc
    have e : merge [] [((.inr "b" : Key), D.int 1)] = lackD [("b", .inl 1)] := merge_nil (by simp)
    rw [e] at hc ⊢
    exact mk_bad (cs := c1) (ls := [("b", .inl 1)]) hc gset_same cok.1 (ld1 _ _ (keyl_int 1)) (by decide +kernel) (fun G' k' => q G' ((Kp.new hl).trans k' (by simp)))
  · simp
    intro l hl c hc
    have e : merge [] [((.inr "a" : Key), D.str "x")] = lackD [("a", .inr "x")] := merge_nil (by simp)
    rw [e] at hc ⊢
    exact mk_bad (cs := c1) (ls := [("a", .inr "x")]) hc gset_same cok.1 (ld1 _ _ (keyl_lit _ (by decide +kernel) (by decide +kernel) (by decide +kernel))) (by decide +kernel) (fun G' k' => q G' ((Kp.new hl).trans k' (by simp)))
  · simp [hs, ob, List.lookup]
    exact ⟨r, s, u, tb, ru, "x", "fly", rfl, w.re, by rw [w.ln.2]; simp, .inr rfl, fun h => absurd h not_fly, fun _ => q G Kp.refl⟩
  · simp [hs, ob, List.lookup]
    refine read_bad (vs := [.inl 1]) w (by simp; exact keyl_int 1) (by simp) (fun k w' e1 e2 => ?_) q
    rw [w.kp] at e2; simp at e2
  · simp [hs, ob, List.lookup]
    refine read_bad (vs := [.inl 1]) w (by simp; exact keyl_int 1) (by simp) (fun k w' e1 e2 => ?_) q
    rw [w.ky] at e2; simp at e2
  · simp [hs, ob, List.lookup]
    refine read_bad (vs := [.inl 1]) w (by simp; exact keyl_int 1) (by simp) (fun k w' e1 e2 => ?_) q
    simp at e1
  · simp [hs, ob, List.lookup]
    refine read_bad (vs := [.inr "z"]) w (by simp; exact keyl_lit _ (by decide +kernel) (by decide +kernel) (by decide +kernel)) (by simp) (fun k w' e1 e2 => ?_) q
    rw [w.kp] at e1 e2
    simp at e1 e2
    subst e1
    subst e2
    show (readsB c1 [] c1 && fitsRow c1 [.inr "z"]) = false
    decide +kernel
  · simp [hs, ob, List.lookup]
    intro c hc
    refine mk_sch (cs := cb) (ls := []) hc (.inr ⟨rfl, rfl⟩) cok.2.2 ld0 rfl (fun G1 k1 sc ld => ⟨rfl, ?_⟩)
    have w1 := w.kp0 k1
    refine ⟨r, s, u, tb, ru, "x", c, cb, [], rfl, w1.re, sc, ld w.re.ou, ld w.re.os, by have := w.ln.1; omega, fun t ht => by have := w.sm t ht; omega, ?_⟩
    rw [w.rl, w.kp, if_neg (by show ¬ fitsB "back" [(c1, [])] cb [] = true; decide +kernel)]
    exact fun G' k' => q G' (k1.trans k' (by simp))
theorem lams_len : (lams_law K a).length = 8 := rfl
theorem bad_run (T : Tx K mg a) {c0 : Addr} (w : Two a G r s u c0 tb ru) (hl : δ.length = 24) (hs : slot δ 19 = some (.ref r)) {k : List D → Gp → Prop} (q : ∀ G', Kp [] G G' → k [] G') :
    LcRun (wipe3 δ [23]) (GName 23) (TTest (TOp neC (TToldB K a.RowError "RowError" (TVar 23) [23] (lams_law K a)) (TC (.str "RowError")))) (TC (.int 1)) [.clo 0, .clo 1, .clo 2, .clo 3, .clo 4, .clo 5, .clo 6, .clo 7] [] G k := by
  rw [show ([.clo 0, .clo 1, .clo 2, .clo 3, .clo 4, .clo 5, .clo 6, .clo 7] : List D) = [0, 1, 2, 3, 4, 5, 6, 7].map D.clo from rfl]
  refine lcRunI D.clo (fun rest acc G' => acc = [] ∧ (∀ i ∈ rest, i < 8) ∧ Kp [] G G') _ [] G ⟨rfl, by decide, Kp.refl⟩ (by decide) ?_ ?_
  · rintro i rest acc G' ⟨rfl, h1, k1⟩ K1 K2 g1 g2
    have hi : i < (lams_law K a).length := by rw [lams_len]; exact h1 i (by simp)
    simp [TToldB, hl, List.getElem?_eq_getElem hi]
    refine bads T (w.kp0 k1) (by simp [hs]) (fun G2 k2 => ⟨T.xm_RowError, ?_⟩) _ (List.getElem_mem hi)
    trace_state
    exact g2 _ ⟨rfl, fun i hi => h1 i (by simp [hi]), k1.trans k2 (by simp)⟩
  · rintro acc G' ⟨rfl, h1, k1⟩
    exact q G' k1
end
end K10
namespace K10
open PySem PySem.Spec PyProof.Rows L2 L3
variable {K : PySem.W.Frag} {a : Ad} {mg : Str → Option Value}
section
variable {D3 : Ends3} {G : Gp} {δ : St3} {p r s u d o : Addr} {tb : Subj} {ru rr : Rules} {ow : List (Str × List Own)} {n : Nat}
def lb : Lack := [("b", .inr "")]
theorem pl_r175 (T : Tx K mg a) {c0 : Addr} (w : Two a G r s u c0 tb ru) (hl : δ.length = 24) (hs : slot δ 19 = some (.ref r)) (h20 : slot δ 20 = some (.lst [.clo 0, .clo 1, .clo 2, .clo 3, .clo 4, .clo 5, .clo 6, .clo 7]))
    (q : ∀ G', D3.rt (.bl true) G') : T_law_r175 K a D3 δ G := by
  simp only [T_law_r175, TRet, TAndV, TOp, TLc, ISeq, TVar, h20]
  refine bad_run T w hl hs fun G1 k1 => ?_
  have w1 := w.kp0 k1
  simp [hs, w1.re.ob, List.lookup, -TDisp]
  refine disp1 (x := "b") (k := .inr "") fun l G2 hl2 k2 c hc => ?_
  have w2 := w1.kp0 k2
  refine mk_sch (cs := c2) (ls := lb) hc (.inl ⟨l, rfl, hl2, gp_new hl2 hc⟩) cok.2.1 (ld1 _ _ (keyl_lit _ (by decide +kernel) (by decide +kernel) (by decide +kernel))) (by decide +kernel) (fun G3 k3 sc ld => ⟨rfl, ?_⟩)
  have w3 := w2.kp0 k3
  refine ⟨r, s, u, tb, ru, "x", c, c2, lb, rfl, w3.re, sc, ld w2.re.ou, ld w2.re.os, by have := w.ln.1; omega, fun t ht => by have := w.sm t ht; omega, ?_⟩
  rw [w.rl, w.kp, if_pos (by show fitsB "back" [(c1, [])] c2 lb = true; decide +kernel)]
  intro G4 tb' r4 kk n4 k4
  have kx : keptOf tb' "x" = [(c0, c1, []), (c, c2, lb)] := by rw [kk, if_pos rfl]; rfl
  simp [r4.ob, List.lookup]
  refine ⟨r, s, u, tb', ru, "x", 0, [.inl 4], 1, rfl, r4, by simp, by simp; exact keyl_int 4, fun G5 k5 => ?_⟩
  rw [kx]
  show if (readsB c2 lb c1 && fitsRow c1 [.inl 4]) = true then _ else _
  rw [if_pos (by decide +kernel)]
  have e1 : rowOf c2 lb c1 [.inl 4] = [.int 4, .str ""] := by rfl
  have e2 : eq3 (.nod .tuF [.int 4, .str ""]) (.tup [.int 4, .str ""]) = true := by decide +kernel
  have g1 : gd 60 (.nod .tuF [.int 4, .str ""]) = true := by decide +kernel
  have g2 : gd 60 (.tup [.int 4, .str ""]) = true := by decide +kernel
  have r5 := r4.kp0 k5
  simp [e1, e2, g1, g2, r5.ob, List.lookup]
  refine ⟨r, s, u, tb', ru, "x", 1, [.inl 4, .inr "z"], 0, rfl, r5, by simp, by simp; exact ⟨keyl_int 4, keyl_lit _ (by decide +kernel) (by decide +kernel) (by decide +kernel)⟩, fun G6 k6 => ?_⟩
  rw [kx]
  show if (readsB c1 [] c2 && fitsRow c2 [.inl 4, .inr "z"]) = true then _ else _
  rw [if_pos (by decide +kernel)]
  have e3 : rowOf c1 [] c2 [.inl 4, .inr "z"] = [.int 4] := by rfl
  have e4 : eq3 (.nod .tuF [.int 4]) (.tup [.int 4]) = true := by decide +kernel
  have g3 : gd 60 (.nod .tuF [.int 4]) = true := by decide +kernel
  have g4 : gd 60 (.tup [.int 4]) = true := by decide +kernel
  simp [e3, e4, g3, g4]
  exact q _
theorem pl_r163 (T : Tx K mg a) {c0 : Addr} (w : Two a G r s u c0 tb ru) (hl : δ.length = 24) (hs : slot δ 19 = some (.ref r)) (q : ∀ G', D3.rt (.bl true) G') : T_law_r163 K a D3 δ G := by
  simp [T_law_r163, hl, TClo]
  refine ⟨by decide, ?_⟩
  refine ⟨by decide, ?_⟩
  exact pl_r175 T w (by simp [hl]) (by simp [hs]) (by simp [hl]) q
theorem pl_r161 (T : Tx K mg a) (hl : δ.length = 24) (q : ∀ G', D3.rt (.bl true) G') : T_law_r161 K a D3 δ G := by
  simp [T_law_r161, hl]
  intro r hr
  unfold sp_Registry_init
  refine ⟨r, rfl, gset_same, fun G1 s u re hs hu k1 => ⟨rfl, ?_⟩⟩
  simp [re.ob, List.lookup]
  intro c hc
  refine mk_sch (cs := c1) (ls := []) hc (.inr ⟨rfl, rfl⟩) cok.1 ld0 rfl (fun G2 k2 sc ld => ⟨rfl, ?_⟩)
  have r2 := re.kp0 k2
  refine ⟨r, s, u, [], [], "x", c, c1, [], rfl, r2, sc, ld re.ou, ld re.os, by simp, by simp, ?_⟩
  rw [if_pos (by show fitsB "back" [] c1 [] = true; rfl)]
  intro G3 tb' r3 kk n3 k3
  have kz : ∀ z, keptOf tb' z = if z = "x" then [(c, c1, [])] else [] := fun z => by
    rw [kk]
    split <;> rfl
  have w : Two a G3 r s u c tb' [] := ⟨r3, by rw [kz, if_pos rfl], by rw [kz, if_neg (by decide +kernel)], rfl, ⟨by simpa using n3, rfl⟩, fun t ht => by
    rw [← kept_mem r3.ns ht, kz]
    split <;> simp⟩
  exact pl_r163 T w (by simp [hl]) (by simp [hl]) q
theorem pl_law (T : Tx K mg a) : ∀ ds G Q3 E3, sp_law K a ds G Q3 E3 → T_law K a (endsOf Q3 E3) (start3 N_law ds) G := by
  rintro ds G Q3 E3 ⟨ns, rfl, hl, k⟩
  simp [T_law]
  refine ⟨ns, rfl, fun p G1 hd hp kp => ?_⟩
  simp [ForRun]
  exact pl_132 T rfl rfl hd fun δ' G2 h1 => pl_r161 T h1 fun G' => RetC.now (k G')
end
end K10
namespace K10
open PySem PySem.Spec PyProof.Rows L2 L3
section
variable {K : PySem.W.Frag} {a : Ad} {mg : Str → Option Value}
theorem len_kind_of : ∀ ds G Q E, sp_kind_of K a ds G Q E → ds.length = 1 := by
  rintro ds G Q E h
  first
    | (obtain ⟨rfl, _⟩ := h; rfl)
    | (obtain ⟨(rfl | ⟨rfl, _⟩), _⟩ := h <;> rfl)
    | (obtain ⟨(⟨rfl, _⟩ | ⟨rfl, _⟩), _⟩ := h <;> rfl)
    | (obtain ⟨_, rfl, _⟩ := h; rfl)
    | (obtain ⟨_, (rfl | ⟨rfl, _⟩), _⟩ := h <;> rfl)
    | (obtain ⟨_, (⟨rfl, _⟩ | ⟨rfl, _⟩), _⟩ := h <;> rfl)
    | (obtain ⟨_, _, rfl, _⟩ := h; rfl)
    | (obtain ⟨_, _, (rfl | ⟨rfl, _⟩), _⟩ := h <;> rfl)
    | (obtain ⟨_, _, (⟨rfl, _⟩ | ⟨rfl, _⟩), _⟩ := h <;> rfl)
    | (obtain ⟨_, _, _, rfl, _⟩ := h; rfl)
    | (obtain ⟨_, _, _, (rfl | ⟨rfl, _⟩), _⟩ := h <;> rfl)
    | (obtain ⟨_, _, _, (⟨rfl, _⟩ | ⟨rfl, _⟩), _⟩ := h <;> rfl)
    | (obtain ⟨_, _, _, _, rfl, _⟩ := h; rfl)
    | (obtain ⟨_, _, _, _, (rfl | ⟨rfl, _⟩), _⟩ := h <;> rfl)
    | (obtain ⟨_, _, _, _, (⟨rfl, _⟩ | ⟨rfl, _⟩), _⟩ := h <;> rfl)
    | (obtain ⟨_, _, _, _, _, rfl, _⟩ := h; rfl)
    | (obtain ⟨_, _, _, _, _, (rfl | ⟨rfl, _⟩), _⟩ := h <;> rfl)
    | (obtain ⟨_, _, _, _, _, (⟨rfl, _⟩ | ⟨rfl, _⟩), _⟩ := h <;> rfl)
    | (obtain ⟨_, _, _, _, _, _, rfl, _⟩ := h; rfl)
    | (obtain ⟨_, _, _, _, _, _, (rfl | ⟨rfl, _⟩), _⟩ := h <;> rfl)
    | (obtain ⟨_, _, _, _, _, _, (⟨rfl, _⟩ | ⟨rfl, _⟩), _⟩ := h <;> rfl)
    | (obtain ⟨_, _, _, _, _, _, _, rfl, _⟩ := h; rfl)
    | (obtain ⟨_, _, _, _, _, _, _, (rfl | ⟨rfl, _⟩), _⟩ := h <;> rfl)
    | (obtain ⟨_, _, _, _, _, _, _, (⟨rfl, _⟩ | ⟨rfl, _⟩), _⟩ := h <;> rfl)
    | (obtain ⟨_, _, _, _, _, _, _, _, rfl, _⟩ := h; rfl)
    | (obtain ⟨_, _, _, _, _, _, _, _, (rfl | ⟨rfl, _⟩), _⟩ := h <;> rfl)
    | (obtain ⟨_, _, _, _, _, _, _, _, (⟨rfl, _⟩ | ⟨rfl, _⟩), _⟩ := h <;> rfl)
    | (obtain ⟨_, _, _, _, _, _, _, _, _, rfl, _⟩ := h; rfl)
    | (obtain ⟨_, _, _, _, _, _, _, _, _, (rfl | ⟨rfl, _⟩), _⟩ := h <;> rfl)
    | (obtain ⟨_, _, _, _, _, _, _, _, _, (⟨rfl, _⟩ | ⟨rfl, _⟩), _⟩ := h <;> rfl)
    | (obtain ⟨_, _, _, _, _, _, _, _, _, _, rfl, _⟩ := h; rfl)
    | (obtain ⟨_, _, _, _, _, _, _, _, _, _, (rfl | ⟨rfl, _⟩), _⟩ := h <;> rfl)
    | (obtain ⟨_, _, _, _, _, _, _, _, _, _, (⟨rfl, _⟩ | ⟨rfl, _⟩), _⟩ := h <;> rfl)
theorem len_Shape_init : ∀ ds G Q E, sp_Shape_init K a ds G Q E → ds.length = 2 := by
  rintro ds G Q E h
  first
    | (obtain ⟨rfl, _⟩ := h; rfl)
    | (obtain ⟨(rfl | ⟨rfl, _⟩), _⟩ := h <;> rfl)
    | (obtain ⟨(⟨rfl, _⟩ | ⟨rfl, _⟩), _⟩ := h <;> rfl)
    | (obtain ⟨_, rfl, _⟩ := h; rfl)
    | (obtain ⟨_, (rfl | ⟨rfl, _⟩), _⟩ := h <;> rfl)
    | (obtain ⟨_, (⟨rfl, _⟩ | ⟨rfl, _⟩), _⟩ := h <;> rfl)
    | (obtain ⟨_, _, rfl, _⟩ := h; rfl)
    | (obtain ⟨_, _, (rfl | ⟨rfl, _⟩), _⟩ := h <;> rfl)
    | (obtain ⟨_, _, (⟨rfl, _⟩ | ⟨rfl, _⟩), _⟩ := h <;> rfl)
    | (obtain ⟨_, _, _, rfl, _⟩ := h; rfl)
    | (obtain ⟨_, _, _, (rfl | ⟨rfl, _⟩), _⟩ := h <;> rfl)
    | (obtain ⟨_, _, _, (⟨rfl, _⟩ | ⟨rfl, _⟩), _⟩ := h <;> rfl)
    | (obtain ⟨_, _, _, _, rfl, _⟩ := h; rfl)
    | (obtain ⟨_, _, _, _, (rfl | ⟨rfl, _⟩), _⟩ := h <;> rfl)
    | (obtain ⟨_, _, _, _, (⟨rfl, _⟩ | ⟨rfl, _⟩), _⟩ := h <;> rfl)
    | (obtain ⟨_, _, _, _, _, rfl, _⟩ := h; rfl)
    | (obtain ⟨_, _, _, _, _, (rfl | ⟨rfl, _⟩), _⟩ := h <;> rfl)
    | (obtain ⟨_, _, _, _, _, (⟨rfl, _⟩ | ⟨rfl, _⟩), _⟩ := h <;> rfl)
    | (obtain ⟨_, _, _, _, _, _, rfl, _⟩ := h; rfl)
    | (obtain ⟨_, _, _, _, _, _, (rfl | ⟨rfl, _⟩), _⟩ := h <;> rfl)
    | (obtain ⟨_, _, _, _, _, _, (⟨rfl, _⟩ | ⟨rfl, _⟩), _⟩ := h <;> rfl)
    | (obtain ⟨_, _, _, _, _, _, _, rfl, _⟩ := h; rfl)
    | (obtain ⟨_, _, _, _, _, _, _, (rfl | ⟨rfl, _⟩), _⟩ := h <;> rfl)
    | (obtain ⟨_, _, _, _, _, _, _, (⟨rfl, _⟩ | ⟨rfl, _⟩), _⟩ := h <;> rfl)
    | (obtain ⟨_, _, _, _, _, _, _, _, rfl, _⟩ := h; rfl)
    | (obtain ⟨_, _, _, _, _, _, _, _, (rfl | ⟨rfl, _⟩), _⟩ := h <;> rfl)
    | (obtain ⟨_, _, _, _, _, _, _, _, (⟨rfl, _⟩ | ⟨rfl, _⟩), _⟩ := h <;> rfl)
    | (obtain ⟨_, _, _, _, _, _, _, _, _, rfl, _⟩ := h; rfl)
    | (obtain ⟨_, _, _, _, _, _, _, _, _, (rfl | ⟨rfl, _⟩), _⟩ := h <;> rfl)
    | (obtain ⟨_, _, _, _, _, _, _, _, _, (⟨rfl, _⟩ | ⟨rfl, _⟩), _⟩ := h <;> rfl)
    | (obtain ⟨_, _, _, _, _, _, _, _, _, _, rfl, _⟩ := h; rfl)
    | (obtain ⟨_, _, _, _, _, _, _, _, _, _, (rfl | ⟨rfl, _⟩), _⟩ := h <;> rfl)
    | (obtain ⟨_, _, _, _, _, _, _, _, _, _, (⟨rfl, _⟩ | ⟨rfl, _⟩), _⟩ := h <;> rfl)
theorem len_Shape_kinds : ∀ ds G Q E, sp_Shape_kinds K a ds G Q E → ds.length = 1 := by
  rintro ds G Q E h
  first
    | (obtain ⟨rfl, _⟩ := h; rfl)
    | (obtain ⟨(rfl | ⟨rfl, _⟩), _⟩ := h <;> rfl)
    | (obtain ⟨(⟨rfl, _⟩ | ⟨rfl, _⟩), _⟩ := h <;> rfl)
    | (obtain ⟨_, rfl, _⟩ := h; rfl)
    | (obtain ⟨_, (rfl | ⟨rfl, _⟩), _⟩ := h <;> rfl)
    | (obtain ⟨_, (⟨rfl, _⟩ | ⟨rfl, _⟩), _⟩ := h <;> rfl)
    | (obtain ⟨_, _, rfl, _⟩ := h; rfl)
    | (obtain ⟨_, _, (rfl | ⟨rfl, _⟩), _⟩ := h <;> rfl)
    | (obtain ⟨_, _, (⟨rfl, _⟩ | ⟨rfl, _⟩), _⟩ := h <;> rfl)
    | (obtain ⟨_, _, _, rfl, _⟩ := h; rfl)
    | (obtain ⟨_, _, _, (rfl | ⟨rfl, _⟩), _⟩ := h <;> rfl)
    | (obtain ⟨_, _, _, (⟨rfl, _⟩ | ⟨rfl, _⟩), _⟩ := h <;> rfl)
    | (obtain ⟨_, _, _, _, rfl, _⟩ := h; rfl)
    | (obtain ⟨_, _, _, _, (rfl | ⟨rfl, _⟩), _⟩ := h <;> rfl)
    | (obtain ⟨_, _, _, _, (⟨rfl, _⟩ | ⟨rfl, _⟩), _⟩ := h <;> rfl)
    | (obtain ⟨_, _, _, _, _, rfl, _⟩ := h; rfl)
    | (obtain ⟨_, _, _, _, _, (rfl | ⟨rfl, _⟩), _⟩ := h <;> rfl)
    | (obtain ⟨_, _, _, _, _, (⟨rfl, _⟩ | ⟨rfl, _⟩), _⟩ := h <;> rfl)
    | (obtain ⟨_, _, _, _, _, _, rfl, _⟩ := h; rfl)
    | (obtain ⟨_, _, _, _, _, _, (rfl | ⟨rfl, _⟩), _⟩ := h <;> rfl)
    | (obtain ⟨_, _, _, _, _, _, (⟨rfl, _⟩ | ⟨rfl, _⟩), _⟩ := h <;> rfl)
    | (obtain ⟨_, _, _, _, _, _, _, rfl, _⟩ := h; rfl)
    | (obtain ⟨_, _, _, _, _, _, _, (rfl | ⟨rfl, _⟩), _⟩ := h <;> rfl)
    | (obtain ⟨_, _, _, _, _, _, _, (⟨rfl, _⟩ | ⟨rfl, _⟩), _⟩ := h <;> rfl)
    | (obtain ⟨_, _, _, _, _, _, _, _, rfl, _⟩ := h; rfl)
    | (obtain ⟨_, _, _, _, _, _, _, _, (rfl | ⟨rfl, _⟩), _⟩ := h <;> rfl)
    | (obtain ⟨_, _, _, _, _, _, _, _, (⟨rfl, _⟩ | ⟨rfl, _⟩), _⟩ := h <;> rfl)
    | (obtain ⟨_, _, _, _, _, _, _, _, _, rfl, _⟩ := h; rfl)
    | (obtain ⟨_, _, _, _, _, _, _, _, _, (rfl | ⟨rfl, _⟩), _⟩ := h <;> rfl)
    | (obtain ⟨_, _, _, _, _, _, _, _, _, (⟨rfl, _⟩ | ⟨rfl, _⟩), _⟩ := h <;> rfl)
    | (obtain ⟨_, _, _, _, _, _, _, _, _, _, rfl, _⟩ := h; rfl)
    | (obtain ⟨_, _, _, _, _, _, _, _, _, _, (rfl | ⟨rfl, _⟩), _⟩ := h <;> rfl)
    | (obtain ⟨_, _, _, _, _, _, _, _, _, _, (⟨rfl, _⟩ | ⟨rfl, _⟩), _⟩ := h <;> rfl)
theorem len_Shape_check_row : ∀ ds G Q E, sp_Shape_check_row K a ds G Q E → ds.length = 2 := by
  rintro ds G Q E h
  first
    | (obtain ⟨rfl, _⟩ := h; rfl)
    | (obtain ⟨(rfl | ⟨rfl, _⟩), _⟩ := h <;> rfl)
    | (obtain ⟨(⟨rfl, _⟩ | ⟨rfl, _⟩), _⟩ := h <;> rfl)
    | (obtain ⟨_, rfl, _⟩ := h; rfl)
    | (obtain ⟨_, (rfl | ⟨rfl, _⟩), _⟩ := h <;> rfl)
    | (obtain ⟨_, (⟨rfl, _⟩ | ⟨rfl, _⟩), _⟩ := h <;> rfl)
    | (obtain ⟨_, _, rfl, _⟩ := h; rfl)
    | (obtain ⟨_, _, (rfl | ⟨rfl, _⟩), _⟩ := h <;> rfl)
    | (obtain ⟨_, _, (⟨rfl, _⟩ | ⟨rfl, _⟩), _⟩ := h <;> rfl)
    | (obtain ⟨_, _, _, rfl, _⟩ := h; rfl)
    | (obtain ⟨_, _, _, (rfl | ⟨rfl, _⟩), _⟩ := h <;> rfl)
    | (obtain ⟨_, _, _, (⟨rfl, _⟩ | ⟨rfl, _⟩), _⟩ := h <;> rfl)
    | (obtain ⟨_, _, _, _, rfl, _⟩ := h; rfl)
    | (obtain ⟨_, _, _, _, (rfl | ⟨rfl, _⟩), _⟩ := h <;> rfl)
    | (obtain ⟨_, _, _, _, (⟨rfl, _⟩ | ⟨rfl, _⟩), _⟩ := h <;> rfl)
    | (obtain ⟨_, _, _, _, _, rfl, _⟩ := h; rfl)
    | (obtain ⟨_, _, _, _, _, (rfl | ⟨rfl, _⟩), _⟩ := h <;> rfl)
    | (obtain ⟨_, _, _, _, _, (⟨rfl, _⟩ | ⟨rfl, _⟩), _⟩ := h <;> rfl)
    | (obtain ⟨_, _, _, _, _, _, rfl, _⟩ := h; rfl)
    | (obtain ⟨_, _, _, _, _, _, (rfl | ⟨rfl, _⟩), _⟩ := h <;> rfl)
    | (obtain ⟨_, _, _, _, _, _, (⟨rfl, _⟩ | ⟨rfl, _⟩), _⟩ := h <;> rfl)
    | (obtain ⟨_, _, _, _, _, _, _, rfl, _⟩ := h; rfl)
    | (obtain ⟨_, _, _, _, _, _, _, (rfl | ⟨rfl, _⟩), _⟩ := h <;> rfl)
    | (obtain ⟨_, _, _, _, _, _, _, (⟨rfl, _⟩ | ⟨rfl, _⟩), _⟩ := h <;> rfl)
    | (obtain ⟨_, _, _, _, _, _, _, _, rfl, _⟩ := h; rfl)
    | (obtain ⟨_, _, _, _, _, _, _, _, (rfl | ⟨rfl, _⟩), _⟩ := h <;> rfl)
    | (obtain ⟨_, _, _, _, _, _, _, _, (⟨rfl, _⟩ | ⟨rfl, _⟩), _⟩ := h <;> rfl)
    | (obtain ⟨_, _, _, _, _, _, _, _, _, rfl, _⟩ := h; rfl)
    | (obtain ⟨_, _, _, _, _, _, _, _, _, (rfl | ⟨rfl, _⟩), _⟩ := h <;> rfl)
    | (obtain ⟨_, _, _, _, _, _, _, _, _, (⟨rfl, _⟩ | ⟨rfl, _⟩), _⟩ := h <;> rfl)
    | (obtain ⟨_, _, _, _, _, _, _, _, _, _, rfl, _⟩ := h; rfl)
    | (obtain ⟨_, _, _, _, _, _, _, _, _, _, (rfl | ⟨rfl, _⟩), _⟩ := h <;> rfl)
    | (obtain ⟨_, _, _, _, _, _, _, _, _, _, (⟨rfl, _⟩ | ⟨rfl, _⟩), _⟩ := h <;> rfl)
theorem len_Schema_init : ∀ ds G Q E, sp_Schema_init K a ds G Q E → ds.length = 3 := by
  rintro ds G Q E h
  first
    | (obtain ⟨rfl, _⟩ := h; rfl)
    | (obtain ⟨(rfl | ⟨rfl, _⟩), _⟩ := h <;> rfl)
    | (obtain ⟨(⟨rfl, _⟩ | ⟨rfl, _⟩), _⟩ := h <;> rfl)
    | (obtain ⟨_, rfl, _⟩ := h; rfl)
    | (obtain ⟨_, (rfl | ⟨rfl, _⟩), _⟩ := h <;> rfl)
    | (obtain ⟨_, (⟨rfl, _⟩ | ⟨rfl, _⟩), _⟩ := h <;> rfl)
    | (obtain ⟨_, _, rfl, _⟩ := h; rfl)
    | (obtain ⟨_, _, (rfl | ⟨rfl, _⟩), _⟩ := h <;> rfl)
    | (obtain ⟨_, _, (⟨rfl, _⟩ | ⟨rfl, _⟩), _⟩ := h <;> rfl)
    | (obtain ⟨_, _, _, rfl, _⟩ := h; rfl)
    | (obtain ⟨_, _, _, (rfl | ⟨rfl, _⟩), _⟩ := h <;> rfl)
    | (obtain ⟨_, _, _, (⟨rfl, _⟩ | ⟨rfl, _⟩), _⟩ := h <;> rfl)
    | (obtain ⟨_, _, _, _, rfl, _⟩ := h; rfl)
    | (obtain ⟨_, _, _, _, (rfl | ⟨rfl, _⟩), _⟩ := h <;> rfl)
    | (obtain ⟨_, _, _, _, (⟨rfl, _⟩ | ⟨rfl, _⟩), _⟩ := h <;> rfl)
    | (obtain ⟨_, _, _, _, _, rfl, _⟩ := h; rfl)
    | (obtain ⟨_, _, _, _, _, (rfl | ⟨rfl, _⟩), _⟩ := h <;> rfl)
    | (obtain ⟨_, _, _, _, _, (⟨rfl, _⟩ | ⟨rfl, _⟩), _⟩ := h <;> rfl)
    | (obtain ⟨_, _, _, _, _, _, rfl, _⟩ := h; rfl)
    | (obtain ⟨_, _, _, _, _, _, (rfl | ⟨rfl, _⟩), _⟩ := h <;> rfl)
    | (obtain ⟨_, _, _, _, _, _, (⟨rfl, _⟩ | ⟨rfl, _⟩), _⟩ := h <;> rfl)
    | (obtain ⟨_, _, _, _, _, _, _, rfl, _⟩ := h; rfl)
    | (obtain ⟨_, _, _, _, _, _, _, (rfl | ⟨rfl, _⟩), _⟩ := h <;> rfl)
    | (obtain ⟨_, _, _, _, _, _, _, (⟨rfl, _⟩ | ⟨rfl, _⟩), _⟩ := h <;> rfl)
    | (obtain ⟨_, _, _, _, _, _, _, _, rfl, _⟩ := h; rfl)
    | (obtain ⟨_, _, _, _, _, _, _, _, (rfl | ⟨rfl, _⟩), _⟩ := h <;> rfl)
    | (obtain ⟨_, _, _, _, _, _, _, _, (⟨rfl, _⟩ | ⟨rfl, _⟩), _⟩ := h <;> rfl)
    | (obtain ⟨_, _, _, _, _, _, _, _, _, rfl, _⟩ := h; rfl)
    | (obtain ⟨_, _, _, _, _, _, _, _, _, (rfl | ⟨rfl, _⟩), _⟩ := h <;> rfl)
    | (obtain ⟨_, _, _, _, _, _, _, _, _, (⟨rfl, _⟩ | ⟨rfl, _⟩), _⟩ := h <;> rfl)
    | (obtain ⟨_, _, _, _, _, _, _, _, _, _, rfl, _⟩ := h; rfl)
    | (obtain ⟨_, _, _, _, _, _, _, _, _, _, (rfl | ⟨rfl, _⟩), _⟩ := h <;> rfl)
    | (obtain ⟨_, _, _, _, _, _, _, _, _, _, (⟨rfl, _⟩ | ⟨rfl, _⟩), _⟩ := h <;> rfl)
theorem len_Schema_reads : ∀ ds G Q E, sp_Schema_reads K a ds G Q E → ds.length = 2 := by
  rintro ds G Q E h
  first
    | (obtain ⟨rfl, _⟩ := h; rfl)
    | (obtain ⟨(rfl | ⟨rfl, _⟩), _⟩ := h <;> rfl)
    | (obtain ⟨(⟨rfl, _⟩ | ⟨rfl, _⟩), _⟩ := h <;> rfl)
    | (obtain ⟨_, rfl, _⟩ := h; rfl)
    | (obtain ⟨_, (rfl | ⟨rfl, _⟩), _⟩ := h <;> rfl)
    | (obtain ⟨_, (⟨rfl, _⟩ | ⟨rfl, _⟩), _⟩ := h <;> rfl)
    | (obtain ⟨_, _, rfl, _⟩ := h; rfl)
    | (obtain ⟨_, _, (rfl | ⟨rfl, _⟩), _⟩ := h <;> rfl)
    | (obtain ⟨_, _, (⟨rfl, _⟩ | ⟨rfl, _⟩), _⟩ := h <;> rfl)
    | (obtain ⟨_, _, _, rfl, _⟩ := h; rfl)
    | (obtain ⟨_, _, _, (rfl | ⟨rfl, _⟩), _⟩ := h <;> rfl)
    | (obtain ⟨_, _, _, (⟨rfl, _⟩ | ⟨rfl, _⟩), _⟩ := h <;> rfl)
    | (obtain ⟨_, _, _, _, rfl, _⟩ := h; rfl)
    | (obtain ⟨_, _, _, _, (rfl | ⟨rfl, _⟩), _⟩ := h <;> rfl)
    | (obtain ⟨_, _, _, _, (⟨rfl, _⟩ | ⟨rfl, _⟩), _⟩ := h <;> rfl)
    | (obtain ⟨_, _, _, _, _, rfl, _⟩ := h; rfl)
    | (obtain ⟨_, _, _, _, _, (rfl | ⟨rfl, _⟩), _⟩ := h <;> rfl)
    | (obtain ⟨_, _, _, _, _, (⟨rfl, _⟩ | ⟨rfl, _⟩), _⟩ := h <;> rfl)
    | (obtain ⟨_, _, _, _, _, _, rfl, _⟩ := h; rfl)
    | (obtain ⟨_, _, _, _, _, _, (rfl | ⟨rfl, _⟩), _⟩ := h <;> rfl)
    | (obtain ⟨_, _, _, _, _, _, (⟨rfl, _⟩ | ⟨rfl, _⟩), _⟩ := h <;> rfl)
    | (obtain ⟨_, _, _, _, _, _, _, rfl, _⟩ := h; rfl)
    | (obtain ⟨_, _, _, _, _, _, _, (rfl | ⟨rfl, _⟩), _⟩ := h <;> rfl)
    | (obtain ⟨_, _, _, _, _, _, _, (⟨rfl, _⟩ | ⟨rfl, _⟩), _⟩ := h <;> rfl)
    | (obtain ⟨_, _, _, _, _, _, _, _, rfl, _⟩ := h; rfl)
    | (obtain ⟨_, _, _, _, _, _, _, _, (rfl | ⟨rfl, _⟩), _⟩ := h <;> rfl)
    | (obtain ⟨_, _, _, _, _, _, _, _, (⟨rfl, _⟩ | ⟨rfl, _⟩), _⟩ := h <;> rfl)
    | (obtain ⟨_, _, _, _, _, _, _, _, _, rfl, _⟩ := h; rfl)
    | (obtain ⟨_, _, _, _, _, _, _, _, _, (rfl | ⟨rfl, _⟩), _⟩ := h <;> rfl)
    | (obtain ⟨_, _, _, _, _, _, _, _, _, (⟨rfl, _⟩ | ⟨rfl, _⟩), _⟩ := h <;> rfl)
    | (obtain ⟨_, _, _, _, _, _, _, _, _, _, rfl, _⟩ := h; rfl)
    | (obtain ⟨_, _, _, _, _, _, _, _, _, _, (rfl | ⟨rfl, _⟩), _⟩ := h <;> rfl)
    | (obtain ⟨_, _, _, _, _, _, _, _, _, _, (⟨rfl, _⟩ | ⟨rfl, _⟩), _⟩ := h <;> rfl)
theorem len_Schema_row_from : ∀ ds G Q E, sp_Schema_row_from K a ds G Q E → ds.length = 3 := by
  rintro ds G Q E h
  first
    | (obtain ⟨rfl, _⟩ := h; rfl)
    | (obtain ⟨(rfl | ⟨rfl, _⟩), _⟩ := h <;> rfl)
    | (obtain ⟨(⟨rfl, _⟩ | ⟨rfl, _⟩), _⟩ := h <;> rfl)
    | (obtain ⟨_, rfl, _⟩ := h; rfl)
    | (obtain ⟨_, (rfl | ⟨rfl, _⟩), _⟩ := h <;> rfl)
    | (obtain ⟨_, (⟨rfl, _⟩ | ⟨rfl, _⟩), _⟩ := h <;> rfl)
    | (obtain ⟨_, _, rfl, _⟩ := h; rfl)
    | (obtain ⟨_, _, (rfl | ⟨rfl, _⟩), _⟩ := h <;> rfl)
    | (obtain ⟨_, _, (⟨rfl, _⟩ | ⟨rfl, _⟩), _⟩ := h <;> rfl)
    | (obtain ⟨_, _, _, rfl, _⟩ := h; rfl)
    | (obtain ⟨_, _, _, (rfl | ⟨rfl, _⟩), _⟩ := h <;> rfl)
    | (obtain ⟨_, _, _, (⟨rfl, _⟩ | ⟨rfl, _⟩), _⟩ := h <;> rfl)
    | (obtain ⟨_, _, _, _, rfl, _⟩ := h; rfl)
    | (obtain ⟨_, _, _, _, (rfl | ⟨rfl, _⟩), _⟩ := h <;> rfl)
    | (obtain ⟨_, _, _, _, (⟨rfl, _⟩ | ⟨rfl, _⟩), _⟩ := h <;> rfl)
    | (obtain ⟨_, _, _, _, _, rfl, _⟩ := h; rfl)
    | (obtain ⟨_, _, _, _, _, (rfl | ⟨rfl, _⟩), _⟩ := h <;> rfl)
    | (obtain ⟨_, _, _, _, _, (⟨rfl, _⟩ | ⟨rfl, _⟩), _⟩ := h <;> rfl)
    | (obtain ⟨_, _, _, _, _, _, rfl, _⟩ := h; rfl)
    | (obtain ⟨_, _, _, _, _, _, (rfl | ⟨rfl, _⟩), _⟩ := h <;> rfl)
    | (obtain ⟨_, _, _, _, _, _, (⟨rfl, _⟩ | ⟨rfl, _⟩), _⟩ := h <;> rfl)
    | (obtain ⟨_, _, _, _, _, _, _, rfl, _⟩ := h; rfl)
    | (obtain ⟨_, _, _, _, _, _, _, (rfl | ⟨rfl, _⟩), _⟩ := h <;> rfl)
    | (obtain ⟨_, _, _, _, _, _, _, (⟨rfl, _⟩ | ⟨rfl, _⟩), _⟩ := h <;> rfl)
    | (obtain ⟨_, _, _, _, _, _, _, _, rfl, _⟩ := h; rfl)
    | (obtain ⟨_, _, _, _, _, _, _, _, (rfl | ⟨rfl, _⟩), _⟩ := h <;> rfl)
    | (obtain ⟨_, _, _, _, _, _, _, _, (⟨rfl, _⟩ | ⟨rfl, _⟩), _⟩ := h <;> rfl)
    | (obtain ⟨_, _, _, _, _, _, _, _, _, rfl, _⟩ := h; rfl)
    | (obtain ⟨_, _, _, _, _, _, _, _, _, (rfl | ⟨rfl, _⟩), _⟩ := h <;> rfl)
    | (obtain ⟨_, _, _, _, _, _, _, _, _, (⟨rfl, _⟩ | ⟨rfl, _⟩), _⟩ := h <;> rfl)
    | (obtain ⟨_, _, _, _, _, _, _, _, _, _, rfl, _⟩ := h; rfl)
    | (obtain ⟨_, _, _, _, _, _, _, _, _, _, (rfl | ⟨rfl, _⟩), _⟩ := h <;> rfl)
    | (obtain ⟨_, _, _, _, _, _, _, _, _, _, (⟨rfl, _⟩ | ⟨rfl, _⟩), _⟩ := h <;> rfl)
theorem len_Registry_init : ∀ ds G Q E, sp_Registry_init K a ds G Q E → ds.length = 1 := by
  rintro ds G Q E h
  first
    | (obtain ⟨rfl, _⟩ := h; rfl)
    | (obtain ⟨(rfl | ⟨rfl, _⟩), _⟩ := h <;> rfl)
    | (obtain ⟨(⟨rfl, _⟩ | ⟨rfl, _⟩), _⟩ := h <;> rfl)
    | (obtain ⟨_, rfl, _⟩ := h; rfl)
    | (obtain ⟨_, (rfl | ⟨rfl, _⟩), _⟩ := h <;> rfl)
    | (obtain ⟨_, (⟨rfl, _⟩ | ⟨rfl, _⟩), _⟩ := h <;> rfl)
    | (obtain ⟨_, _, rfl, _⟩ := h; rfl)
    | (obtain ⟨_, _, (rfl | ⟨rfl, _⟩), _⟩ := h <;> rfl)
    | (obtain ⟨_, _, (⟨rfl, _⟩ | ⟨rfl, _⟩), _⟩ := h <;> rfl)
    | (obtain ⟨_, _, _, rfl, _⟩ := h; rfl)
    | (obtain ⟨_, _, _, (rfl | ⟨rfl, _⟩), _⟩ := h <;> rfl)
    | (obtain ⟨_, _, _, (⟨rfl, _⟩ | ⟨rfl, _⟩), _⟩ := h <;> rfl)
    | (obtain ⟨_, _, _, _, rfl, _⟩ := h; rfl)
    | (obtain ⟨_, _, _, _, (rfl | ⟨rfl, _⟩), _⟩ := h <;> rfl)
    | (obtain ⟨_, _, _, _, (⟨rfl, _⟩ | ⟨rfl, _⟩), _⟩ := h <;> rfl)
    | (obtain ⟨_, _, _, _, _, rfl, _⟩ := h; rfl)
    | (obtain ⟨_, _, _, _, _, (rfl | ⟨rfl, _⟩), _⟩ := h <;> rfl)
    | (obtain ⟨_, _, _, _, _, (⟨rfl, _⟩ | ⟨rfl, _⟩), _⟩ := h <;> rfl)
    | (obtain ⟨_, _, _, _, _, _, rfl, _⟩ := h; rfl)
    | (obtain ⟨_, _, _, _, _, _, (rfl | ⟨rfl, _⟩), _⟩ := h <;> rfl)
    | (obtain ⟨_, _, _, _, _, _, (⟨rfl, _⟩ | ⟨rfl, _⟩), _⟩ := h <;> rfl)
    | (obtain ⟨_, _, _, _, _, _, _, rfl, _⟩ := h; rfl)
    | (obtain ⟨_, _, _, _, _, _, _, (rfl | ⟨rfl, _⟩), _⟩ := h <;> rfl)
    | (obtain ⟨_, _, _, _, _, _, _, (⟨rfl, _⟩ | ⟨rfl, _⟩), _⟩ := h <;> rfl)
    | (obtain ⟨_, _, _, _, _, _, _, _, rfl, _⟩ := h; rfl)
    | (obtain ⟨_, _, _, _, _, _, _, _, (rfl | ⟨rfl, _⟩), _⟩ := h <;> rfl)
    | (obtain ⟨_, _, _, _, _, _, _, _, (⟨rfl, _⟩ | ⟨rfl, _⟩), _⟩ := h <;> rfl)
    | (obtain ⟨_, _, _, _, _, _, _, _, _, rfl, _⟩ := h; rfl)
    | (obtain ⟨_, _, _, _, _, _, _, _, _, (rfl | ⟨rfl, _⟩), _⟩ := h <;> rfl)
    | (obtain ⟨_, _, _, _, _, _, _, _, _, (⟨rfl, _⟩ | ⟨rfl, _⟩), _⟩ := h <;> rfl)
    | (obtain ⟨_, _, _, _, _, _, _, _, _, _, rfl, _⟩ := h; rfl)
    | (obtain ⟨_, _, _, _, _, _, _, _, _, _, (rfl | ⟨rfl, _⟩), _⟩ := h <;> rfl)
    | (obtain ⟨_, _, _, _, _, _, _, _, _, _, (⟨rfl, _⟩ | ⟨rfl, _⟩), _⟩ := h <;> rfl)
theorem len_Registry_put_rule : ∀ ds G Q E, sp_Registry_put_rule K a ds G Q E → ds.length = 3 := by
  rintro ds G Q E h
  first
    | (obtain ⟨rfl, _⟩ := h; rfl)
    | (obtain ⟨(rfl | ⟨rfl, _⟩), _⟩ := h <;> rfl)
    | (obtain ⟨(⟨rfl, _⟩ | ⟨rfl, _⟩), _⟩ := h <;> rfl)
    | (obtain ⟨_, rfl, _⟩ := h; rfl)
    | (obtain ⟨_, (rfl | ⟨rfl, _⟩), _⟩ := h <;> rfl)
    | (obtain ⟨_, (⟨rfl, _⟩ | ⟨rfl, _⟩), _⟩ := h <;> rfl)
    | (obtain ⟨_, _, rfl, _⟩ := h; rfl)
    | (obtain ⟨_, _, (rfl | ⟨rfl, _⟩), _⟩ := h <;> rfl)
    | (obtain ⟨_, _, (⟨rfl, _⟩ | ⟨rfl, _⟩), _⟩ := h <;> rfl)
    | (obtain ⟨_, _, _, rfl, _⟩ := h; rfl)
    | (obtain ⟨_, _, _, (rfl | ⟨rfl, _⟩), _⟩ := h <;> rfl)
    | (obtain ⟨_, _, _, (⟨rfl, _⟩ | ⟨rfl, _⟩), _⟩ := h <;> rfl)
    | (obtain ⟨_, _, _, _, rfl, _⟩ := h; rfl)
    | (obtain ⟨_, _, _, _, (rfl | ⟨rfl, _⟩), _⟩ := h <;> rfl)
    | (obtain ⟨_, _, _, _, (⟨rfl, _⟩ | ⟨rfl, _⟩), _⟩ := h <;> rfl)
    | (obtain ⟨_, _, _, _, _, rfl, _⟩ := h; rfl)
    | (obtain ⟨_, _, _, _, _, (rfl | ⟨rfl, _⟩), _⟩ := h <;> rfl)
    | (obtain ⟨_, _, _, _, _, (⟨rfl, _⟩ | ⟨rfl, _⟩), _⟩ := h <;> rfl)
    | (obtain ⟨_, _, _, _, _, _, rfl, _⟩ := h; rfl)
    | (obtain ⟨_, _, _, _, _, _, (rfl | ⟨rfl, _⟩), _⟩ := h <;> rfl)
    | (obtain ⟨_, _, _, _, _, _, (⟨rfl, _⟩ | ⟨rfl, _⟩), _⟩ := h <;> rfl)
    | (obtain ⟨_, _, _, _, _, _, _, rfl, _⟩ := h; rfl)
    | (obtain ⟨_, _, _, _, _, _, _, (rfl | ⟨rfl, _⟩), _⟩ := h <;> rfl)
    | (obtain ⟨_, _, _, _, _, _, _, (⟨rfl, _⟩ | ⟨rfl, _⟩), _⟩ := h <;> rfl)
    | (obtain ⟨_, _, _, _, _, _, _, _, rfl, _⟩ := h; rfl)
    | (obtain ⟨_, _, _, _, _, _, _, _, (rfl | ⟨rfl, _⟩), _⟩ := h <;> rfl)
    | (obtain ⟨_, _, _, _, _, _, _, _, (⟨rfl, _⟩ | ⟨rfl, _⟩), _⟩ := h <;> rfl)
    | (obtain ⟨_, _, _, _, _, _, _, _, _, rfl, _⟩ := h; rfl)
    | (obtain ⟨_, _, _, _, _, _, _, _, _, (rfl | ⟨rfl, _⟩), _⟩ := h <;> rfl)
    | (obtain ⟨_, _, _, _, _, _, _, _, _, (⟨rfl, _⟩ | ⟨rfl, _⟩), _⟩ := h <;> rfl)
    | (obtain ⟨_, _, _, _, _, _, _, _, _, _, rfl, _⟩ := h; rfl)
    | (obtain ⟨_, _, _, _, _, _, _, _, _, _, (rfl | ⟨rfl, _⟩), _⟩ := h <;> rfl)
    | (obtain ⟨_, _, _, _, _, _, _, _, _, _, (⟨rfl, _⟩ | ⟨rfl, _⟩), _⟩ := h <;> rfl)
theorem len_Registry_fits : ∀ ds G Q E, sp_Registry_fits K a ds G Q E → ds.length = 3 := by
  rintro ds G Q E h
  first
    | (obtain ⟨rfl, _⟩ := h; rfl)
    | (obtain ⟨(rfl | ⟨rfl, _⟩), _⟩ := h <;> rfl)
    | (obtain ⟨(⟨rfl, _⟩ | ⟨rfl, _⟩), _⟩ := h <;> rfl)
    | (obtain ⟨_, rfl, _⟩ := h; rfl)
    | (obtain ⟨_, (rfl | ⟨rfl, _⟩), _⟩ := h <;> rfl)
    | (obtain ⟨_, (⟨rfl, _⟩ | ⟨rfl, _⟩), _⟩ := h <;> rfl)
    | (obtain ⟨_, _, rfl, _⟩ := h; rfl)
    | (obtain ⟨_, _, (rfl | ⟨rfl, _⟩), _⟩ := h <;> rfl)
    | (obtain ⟨_, _, (⟨rfl, _⟩ | ⟨rfl, _⟩), _⟩ := h <;> rfl)
    | (obtain ⟨_, _, _, rfl, _⟩ := h; rfl)
    | (obtain ⟨_, _, _, (rfl | ⟨rfl, _⟩), _⟩ := h <;> rfl)
    | (obtain ⟨_, _, _, (⟨rfl, _⟩ | ⟨rfl, _⟩), _⟩ := h <;> rfl)
    | (obtain ⟨_, _, _, _, rfl, _⟩ := h; rfl)
    | (obtain ⟨_, _, _, _, (rfl | ⟨rfl, _⟩), _⟩ := h <;> rfl)
    | (obtain ⟨_, _, _, _, (⟨rfl, _⟩ | ⟨rfl, _⟩), _⟩ := h <;> rfl)
    | (obtain ⟨_, _, _, _, _, rfl, _⟩ := h; rfl)
    | (obtain ⟨_, _, _, _, _, (rfl | ⟨rfl, _⟩), _⟩ := h <;> rfl)
    | (obtain ⟨_, _, _, _, _, (⟨rfl, _⟩ | ⟨rfl, _⟩), _⟩ := h <;> rfl)
    | (obtain ⟨_, _, _, _, _, _, rfl, _⟩ := h; rfl)
    | (obtain ⟨_, _, _, _, _, _, (rfl | ⟨rfl, _⟩), _⟩ := h <;> rfl)
    | (obtain ⟨_, _, _, _, _, _, (⟨rfl, _⟩ | ⟨rfl, _⟩), _⟩ := h <;> rfl)
    | (obtain ⟨_, _, _, _, _, _, _, rfl, _⟩ := h; rfl)
    | (obtain ⟨_, _, _, _, _, _, _, (rfl | ⟨rfl, _⟩), _⟩ := h <;> rfl)
    | (obtain ⟨_, _, _, _, _, _, _, (⟨rfl, _⟩ | ⟨rfl, _⟩), _⟩ := h <;> rfl)
    | (obtain ⟨_, _, _, _, _, _, _, _, rfl, _⟩ := h; rfl)
    | (obtain ⟨_, _, _, _, _, _, _, _, (rfl | ⟨rfl, _⟩), _⟩ := h <;> rfl)
    | (obtain ⟨_, _, _, _, _, _, _, _, (⟨rfl, _⟩ | ⟨rfl, _⟩), _⟩ := h <;> rfl)
    | (obtain ⟨_, _, _, _, _, _, _, _, _, rfl, _⟩ := h; rfl)
    | (obtain ⟨_, _, _, _, _, _, _, _, _, (rfl | ⟨rfl, _⟩), _⟩ := h <;> rfl)
    | (obtain ⟨_, _, _, _, _, _, _, _, _, (⟨rfl, _⟩ | ⟨rfl, _⟩), _⟩ := h <;> rfl)
    | (obtain ⟨_, _, _, _, _, _, _, _, _, _, rfl, _⟩ := h; rfl)
    | (obtain ⟨_, _, _, _, _, _, _, _, _, _, (rfl | ⟨rfl, _⟩), _⟩ := h <;> rfl)
    | (obtain ⟨_, _, _, _, _, _, _, _, _, _, (⟨rfl, _⟩ | ⟨rfl, _⟩), _⟩ := h <;> rfl)
theorem len_Registry_add : ∀ ds G Q E, sp_Registry_add K a ds G Q E → ds.length = 3 := by
  rintro ds G Q E h
  first
    | (obtain ⟨rfl, _⟩ := h; rfl)
    | (obtain ⟨(rfl | ⟨rfl, _⟩), _⟩ := h <;> rfl)
    | (obtain ⟨(⟨rfl, _⟩ | ⟨rfl, _⟩), _⟩ := h <;> rfl)
    | (obtain ⟨_, rfl, _⟩ := h; rfl)
    | (obtain ⟨_, (rfl | ⟨rfl, _⟩), _⟩ := h <;> rfl)
    | (obtain ⟨_, (⟨rfl, _⟩ | ⟨rfl, _⟩), _⟩ := h <;> rfl)
    | (obtain ⟨_, _, rfl, _⟩ := h; rfl)
    | (obtain ⟨_, _, (rfl | ⟨rfl, _⟩), _⟩ := h <;> rfl)
    | (obtain ⟨_, _, (⟨rfl, _⟩ | ⟨rfl, _⟩), _⟩ := h <;> rfl)
    | (obtain ⟨_, _, _, rfl, _⟩ := h; rfl)
    | (obtain ⟨_, _, _, (rfl | ⟨rfl, _⟩), _⟩ := h <;> rfl)
    | (obtain ⟨_, _, _, (⟨rfl, _⟩ | ⟨rfl, _⟩), _⟩ := h <;> rfl)
    | (obtain ⟨_, _, _, _, rfl, _⟩ := h; rfl)
    | (obtain ⟨_, _, _, _, (rfl | ⟨rfl, _⟩), _⟩ := h <;> rfl)
    | (obtain ⟨_, _, _, _, (⟨rfl, _⟩ | ⟨rfl, _⟩), _⟩ := h <;> rfl)
    | (obtain ⟨_, _, _, _, _, rfl, _⟩ := h; rfl)
    | (obtain ⟨_, _, _, _, _, (rfl | ⟨rfl, _⟩), _⟩ := h <;> rfl)
    | (obtain ⟨_, _, _, _, _, (⟨rfl, _⟩ | ⟨rfl, _⟩), _⟩ := h <;> rfl)
    | (obtain ⟨_, _, _, _, _, _, rfl, _⟩ := h; rfl)
    | (obtain ⟨_, _, _, _, _, _, (rfl | ⟨rfl, _⟩), _⟩ := h <;> rfl)
    | (obtain ⟨_, _, _, _, _, _, (⟨rfl, _⟩ | ⟨rfl, _⟩), _⟩ := h <;> rfl)
    | (obtain ⟨_, _, _, _, _, _, _, rfl, _⟩ := h; rfl)
    | (obtain ⟨_, _, _, _, _, _, _, (rfl | ⟨rfl, _⟩), _⟩ := h <;> rfl)
    | (obtain ⟨_, _, _, _, _, _, _, (⟨rfl, _⟩ | ⟨rfl, _⟩), _⟩ := h <;> rfl)
    | (obtain ⟨_, _, _, _, _, _, _, _, rfl, _⟩ := h; rfl)
    | (obtain ⟨_, _, _, _, _, _, _, _, (rfl | ⟨rfl, _⟩), _⟩ := h <;> rfl)
    | (obtain ⟨_, _, _, _, _, _, _, _, (⟨rfl, _⟩ | ⟨rfl, _⟩), _⟩ := h <;> rfl)
    | (obtain ⟨_, _, _, _, _, _, _, _, _, rfl, _⟩ := h; rfl)
    | (obtain ⟨_, _, _, _, _, _, _, _, _, (rfl | ⟨rfl, _⟩), _⟩ := h <;> rfl)
    | (obtain ⟨_, _, _, _, _, _, _, _, _, (⟨rfl, _⟩ | ⟨rfl, _⟩), _⟩ := h <;> rfl)
    | (obtain ⟨_, _, _, _, _, _, _, _, _, _, rfl, _⟩ := h; rfl)
    | (obtain ⟨_, _, _, _, _, _, _, _, _, _, (rfl | ⟨rfl, _⟩), _⟩ := h <;> rfl)
    | (obtain ⟨_, _, _, _, _, _, _, _, _, _, (⟨rfl, _⟩ | ⟨rfl, _⟩), _⟩ := h <;> rfl)
theorem len_Registry_read : ∀ ds G Q E, sp_Registry_read K a ds G Q E → ds.length = 5 := by
  rintro ds G Q E h
  first
    | (obtain ⟨rfl, _⟩ := h; rfl)
    | (obtain ⟨(rfl | ⟨rfl, _⟩), _⟩ := h <;> rfl)
    | (obtain ⟨(⟨rfl, _⟩ | ⟨rfl, _⟩), _⟩ := h <;> rfl)
    | (obtain ⟨_, rfl, _⟩ := h; rfl)
    | (obtain ⟨_, (rfl | ⟨rfl, _⟩), _⟩ := h <;> rfl)
    | (obtain ⟨_, (⟨rfl, _⟩ | ⟨rfl, _⟩), _⟩ := h <;> rfl)
    | (obtain ⟨_, _, rfl, _⟩ := h; rfl)
    | (obtain ⟨_, _, (rfl | ⟨rfl, _⟩), _⟩ := h <;> rfl)
    | (obtain ⟨_, _, (⟨rfl, _⟩ | ⟨rfl, _⟩), _⟩ := h <;> rfl)
    | (obtain ⟨_, _, _, rfl, _⟩ := h; rfl)
    | (obtain ⟨_, _, _, (rfl | ⟨rfl, _⟩), _⟩ := h <;> rfl)
    | (obtain ⟨_, _, _, (⟨rfl, _⟩ | ⟨rfl, _⟩), _⟩ := h <;> rfl)
    | (obtain ⟨_, _, _, _, rfl, _⟩ := h; rfl)
    | (obtain ⟨_, _, _, _, (rfl | ⟨rfl, _⟩), _⟩ := h <;> rfl)
    | (obtain ⟨_, _, _, _, (⟨rfl, _⟩ | ⟨rfl, _⟩), _⟩ := h <;> rfl)
    | (obtain ⟨_, _, _, _, _, rfl, _⟩ := h; rfl)
    | (obtain ⟨_, _, _, _, _, (rfl | ⟨rfl, _⟩), _⟩ := h <;> rfl)
    | (obtain ⟨_, _, _, _, _, (⟨rfl, _⟩ | ⟨rfl, _⟩), _⟩ := h <;> rfl)
    | (obtain ⟨_, _, _, _, _, _, rfl, _⟩ := h; rfl)
    | (obtain ⟨_, _, _, _, _, _, (rfl | ⟨rfl, _⟩), _⟩ := h <;> rfl)
    | (obtain ⟨_, _, _, _, _, _, (⟨rfl, _⟩ | ⟨rfl, _⟩), _⟩ := h <;> rfl)
    | (obtain ⟨_, _, _, _, _, _, _, rfl, _⟩ := h; rfl)
    | (obtain ⟨_, _, _, _, _, _, _, (rfl | ⟨rfl, _⟩), _⟩ := h <;> rfl)
    | (obtain ⟨_, _, _, _, _, _, _, (⟨rfl, _⟩ | ⟨rfl, _⟩), _⟩ := h <;> rfl)
    | (obtain ⟨_, _, _, _, _, _, _, _, rfl, _⟩ := h; rfl)
    | (obtain ⟨_, _, _, _, _, _, _, _, (rfl | ⟨rfl, _⟩), _⟩ := h <;> rfl)
    | (obtain ⟨_, _, _, _, _, _, _, _, (⟨rfl, _⟩ | ⟨rfl, _⟩), _⟩ := h <;> rfl)
    | (obtain ⟨_, _, _, _, _, _, _, _, _, rfl, _⟩ := h; rfl)
    | (obtain ⟨_, _, _, _, _, _, _, _, _, (rfl | ⟨rfl, _⟩), _⟩ := h <;> rfl)
    | (obtain ⟨_, _, _, _, _, _, _, _, _, (⟨rfl, _⟩ | ⟨rfl, _⟩), _⟩ := h <;> rfl)
    | (obtain ⟨_, _, _, _, _, _, _, _, _, _, rfl, _⟩ := h; rfl)
    | (obtain ⟨_, _, _, _, _, _, _, _, _, _, (rfl | ⟨rfl, _⟩), _⟩ := h <;> rfl)
    | (obtain ⟨_, _, _, _, _, _, _, _, _, _, (⟨rfl, _⟩ | ⟨rfl, _⟩), _⟩ := h <;> rfl)
theorem len_law_dice : ∀ ds G Q E, sp_law_dice K a ds G Q E → ds.length = 1 := by
  rintro ds G Q E h
  first
    | (obtain ⟨rfl, _⟩ := h; rfl)
    | (obtain ⟨(rfl | ⟨rfl, _⟩), _⟩ := h <;> rfl)
    | (obtain ⟨(⟨rfl, _⟩ | ⟨rfl, _⟩), _⟩ := h <;> rfl)
    | (obtain ⟨_, rfl, _⟩ := h; rfl)
    | (obtain ⟨_, (rfl | ⟨rfl, _⟩), _⟩ := h <;> rfl)
    | (obtain ⟨_, (⟨rfl, _⟩ | ⟨rfl, _⟩), _⟩ := h <;> rfl)
    | (obtain ⟨_, _, rfl, _⟩ := h; rfl)
    | (obtain ⟨_, _, (rfl | ⟨rfl, _⟩), _⟩ := h <;> rfl)
    | (obtain ⟨_, _, (⟨rfl, _⟩ | ⟨rfl, _⟩), _⟩ := h <;> rfl)
    | (obtain ⟨_, _, _, rfl, _⟩ := h; rfl)
    | (obtain ⟨_, _, _, (rfl | ⟨rfl, _⟩), _⟩ := h <;> rfl)
    | (obtain ⟨_, _, _, (⟨rfl, _⟩ | ⟨rfl, _⟩), _⟩ := h <;> rfl)
    | (obtain ⟨_, _, _, _, rfl, _⟩ := h; rfl)
    | (obtain ⟨_, _, _, _, (rfl | ⟨rfl, _⟩), _⟩ := h <;> rfl)
    | (obtain ⟨_, _, _, _, (⟨rfl, _⟩ | ⟨rfl, _⟩), _⟩ := h <;> rfl)
    | (obtain ⟨_, _, _, _, _, rfl, _⟩ := h; rfl)
    | (obtain ⟨_, _, _, _, _, (rfl | ⟨rfl, _⟩), _⟩ := h <;> rfl)
    | (obtain ⟨_, _, _, _, _, (⟨rfl, _⟩ | ⟨rfl, _⟩), _⟩ := h <;> rfl)
    | (obtain ⟨_, _, _, _, _, _, rfl, _⟩ := h; rfl)
    | (obtain ⟨_, _, _, _, _, _, (rfl | ⟨rfl, _⟩), _⟩ := h <;> rfl)
    | (obtain ⟨_, _, _, _, _, _, (⟨rfl, _⟩ | ⟨rfl, _⟩), _⟩ := h <;> rfl)
    | (obtain ⟨_, _, _, _, _, _, _, rfl, _⟩ := h; rfl)
    | (obtain ⟨_, _, _, _, _, _, _, (rfl | ⟨rfl, _⟩), _⟩ := h <;> rfl)
    | (obtain ⟨_, _, _, _, _, _, _, (⟨rfl, _⟩ | ⟨rfl, _⟩), _⟩ := h <;> rfl)
    | (obtain ⟨_, _, _, _, _, _, _, _, rfl, _⟩ := h; rfl)
    | (obtain ⟨_, _, _, _, _, _, _, _, (rfl | ⟨rfl, _⟩), _⟩ := h <;> rfl)
    | (obtain ⟨_, _, _, _, _, _, _, _, (⟨rfl, _⟩ | ⟨rfl, _⟩), _⟩ := h <;> rfl)
    | (obtain ⟨_, _, _, _, _, _, _, _, _, rfl, _⟩ := h; rfl)
    | (obtain ⟨_, _, _, _, _, _, _, _, _, (rfl | ⟨rfl, _⟩), _⟩ := h <;> rfl)
    | (obtain ⟨_, _, _, _, _, _, _, _, _, (⟨rfl, _⟩ | ⟨rfl, _⟩), _⟩ := h <;> rfl)
    | (obtain ⟨_, _, _, _, _, _, _, _, _, _, rfl, _⟩ := h; rfl)
    | (obtain ⟨_, _, _, _, _, _, _, _, _, _, (rfl | ⟨rfl, _⟩), _⟩ := h <;> rfl)
    | (obtain ⟨_, _, _, _, _, _, _, _, _, _, (⟨rfl, _⟩ | ⟨rfl, _⟩), _⟩ := h <;> rfl)
theorem len_law_roll : ∀ ds G Q E, sp_law_roll K a ds G Q E → ds.length = 2 := by
  rintro ds G Q E h
  first
    | (obtain ⟨rfl, _⟩ := h; rfl)
    | (obtain ⟨(rfl | ⟨rfl, _⟩), _⟩ := h <;> rfl)
    | (obtain ⟨(⟨rfl, _⟩ | ⟨rfl, _⟩), _⟩ := h <;> rfl)
    | (obtain ⟨_, rfl, _⟩ := h; rfl)
    | (obtain ⟨_, (rfl | ⟨rfl, _⟩), _⟩ := h <;> rfl)
    | (obtain ⟨_, (⟨rfl, _⟩ | ⟨rfl, _⟩), _⟩ := h <;> rfl)
    | (obtain ⟨_, _, rfl, _⟩ := h; rfl)
    | (obtain ⟨_, _, (rfl | ⟨rfl, _⟩), _⟩ := h <;> rfl)
    | (obtain ⟨_, _, (⟨rfl, _⟩ | ⟨rfl, _⟩), _⟩ := h <;> rfl)
    | (obtain ⟨_, _, _, rfl, _⟩ := h; rfl)
    | (obtain ⟨_, _, _, (rfl | ⟨rfl, _⟩), _⟩ := h <;> rfl)
    | (obtain ⟨_, _, _, (⟨rfl, _⟩ | ⟨rfl, _⟩), _⟩ := h <;> rfl)
    | (obtain ⟨_, _, _, _, rfl, _⟩ := h; rfl)
    | (obtain ⟨_, _, _, _, (rfl | ⟨rfl, _⟩), _⟩ := h <;> rfl)
    | (obtain ⟨_, _, _, _, (⟨rfl, _⟩ | ⟨rfl, _⟩), _⟩ := h <;> rfl)
    | (obtain ⟨_, _, _, _, _, rfl, _⟩ := h; rfl)
    | (obtain ⟨_, _, _, _, _, (rfl | ⟨rfl, _⟩), _⟩ := h <;> rfl)
    | (obtain ⟨_, _, _, _, _, (⟨rfl, _⟩ | ⟨rfl, _⟩), _⟩ := h <;> rfl)
    | (obtain ⟨_, _, _, _, _, _, rfl, _⟩ := h; rfl)
    | (obtain ⟨_, _, _, _, _, _, (rfl | ⟨rfl, _⟩), _⟩ := h <;> rfl)
    | (obtain ⟨_, _, _, _, _, _, (⟨rfl, _⟩ | ⟨rfl, _⟩), _⟩ := h <;> rfl)
    | (obtain ⟨_, _, _, _, _, _, _, rfl, _⟩ := h; rfl)
    | (obtain ⟨_, _, _, _, _, _, _, (rfl | ⟨rfl, _⟩), _⟩ := h <;> rfl)
    | (obtain ⟨_, _, _, _, _, _, _, (⟨rfl, _⟩ | ⟨rfl, _⟩), _⟩ := h <;> rfl)
    | (obtain ⟨_, _, _, _, _, _, _, _, rfl, _⟩ := h; rfl)
    | (obtain ⟨_, _, _, _, _, _, _, _, (rfl | ⟨rfl, _⟩), _⟩ := h <;> rfl)
    | (obtain ⟨_, _, _, _, _, _, _, _, (⟨rfl, _⟩ | ⟨rfl, _⟩), _⟩ := h <;> rfl)
    | (obtain ⟨_, _, _, _, _, _, _, _, _, rfl, _⟩ := h; rfl)
    | (obtain ⟨_, _, _, _, _, _, _, _, _, (rfl | ⟨rfl, _⟩), _⟩ := h <;> rfl)
    | (obtain ⟨_, _, _, _, _, _, _, _, _, (⟨rfl, _⟩ | ⟨rfl, _⟩), _⟩ := h <;> rfl)
    | (obtain ⟨_, _, _, _, _, _, _, _, _, _, rfl, _⟩ := h; rfl)
    | (obtain ⟨_, _, _, _, _, _, _, _, _, _, (rfl | ⟨rfl, _⟩), _⟩ := h <;> rfl)
    | (obtain ⟨_, _, _, _, _, _, _, _, _, _, (⟨rfl, _⟩ | ⟨rfl, _⟩), _⟩ := h <;> rfl)
theorem len_law_rounds : ∀ ds G Q E, sp_law_rounds K a ds G Q E → ds.length = 2 := by
  rintro ds G Q E h
  first
    | (obtain ⟨rfl, _⟩ := h; rfl)
    | (obtain ⟨(rfl | ⟨rfl, _⟩), _⟩ := h <;> rfl)
    | (obtain ⟨(⟨rfl, _⟩ | ⟨rfl, _⟩), _⟩ := h <;> rfl)
    | (obtain ⟨_, rfl, _⟩ := h; rfl)
    | (obtain ⟨_, (rfl | ⟨rfl, _⟩), _⟩ := h <;> rfl)
    | (obtain ⟨_, (⟨rfl, _⟩ | ⟨rfl, _⟩), _⟩ := h <;> rfl)
    | (obtain ⟨_, _, rfl, _⟩ := h; rfl)
    | (obtain ⟨_, _, (rfl | ⟨rfl, _⟩), _⟩ := h <;> rfl)
    | (obtain ⟨_, _, (⟨rfl, _⟩ | ⟨rfl, _⟩), _⟩ := h <;> rfl)
    | (obtain ⟨_, _, _, rfl, _⟩ := h; rfl)
    | (obtain ⟨_, _, _, (rfl | ⟨rfl, _⟩), _⟩ := h <;> rfl)
    | (obtain ⟨_, _, _, (⟨rfl, _⟩ | ⟨rfl, _⟩), _⟩ := h <;> rfl)
    | (obtain ⟨_, _, _, _, rfl, _⟩ := h; rfl)
    | (obtain ⟨_, _, _, _, (rfl | ⟨rfl, _⟩), _⟩ := h <;> rfl)
    | (obtain ⟨_, _, _, _, (⟨rfl, _⟩ | ⟨rfl, _⟩), _⟩ := h <;> rfl)
    | (obtain ⟨_, _, _, _, _, rfl, _⟩ := h; rfl)
    | (obtain ⟨_, _, _, _, _, (rfl | ⟨rfl, _⟩), _⟩ := h <;> rfl)
    | (obtain ⟨_, _, _, _, _, (⟨rfl, _⟩ | ⟨rfl, _⟩), _⟩ := h <;> rfl)
    | (obtain ⟨_, _, _, _, _, _, rfl, _⟩ := h; rfl)
    | (obtain ⟨_, _, _, _, _, _, (rfl | ⟨rfl, _⟩), _⟩ := h <;> rfl)
    | (obtain ⟨_, _, _, _, _, _, (⟨rfl, _⟩ | ⟨rfl, _⟩), _⟩ := h <;> rfl)
    | (obtain ⟨_, _, _, _, _, _, _, rfl, _⟩ := h; rfl)
    | (obtain ⟨_, _, _, _, _, _, _, (rfl | ⟨rfl, _⟩), _⟩ := h <;> rfl)
    | (obtain ⟨_, _, _, _, _, _, _, (⟨rfl, _⟩ | ⟨rfl, _⟩), _⟩ := h <;> rfl)
    | (obtain ⟨_, _, _, _, _, _, _, _, rfl, _⟩ := h; rfl)
    | (obtain ⟨_, _, _, _, _, _, _, _, (rfl | ⟨rfl, _⟩), _⟩ := h <;> rfl)
    | (obtain ⟨_, _, _, _, _, _, _, _, (⟨rfl, _⟩ | ⟨rfl, _⟩), _⟩ := h <;> rfl)
    | (obtain ⟨_, _, _, _, _, _, _, _, _, rfl, _⟩ := h; rfl)
    | (obtain ⟨_, _, _, _, _, _, _, _, _, (rfl | ⟨rfl, _⟩), _⟩ := h <;> rfl)
    | (obtain ⟨_, _, _, _, _, _, _, _, _, (⟨rfl, _⟩ | ⟨rfl, _⟩), _⟩ := h <;> rfl)
    | (obtain ⟨_, _, _, _, _, _, _, _, _, _, rfl, _⟩ := h; rfl)
    | (obtain ⟨_, _, _, _, _, _, _, _, _, _, (rfl | ⟨rfl, _⟩), _⟩ := h <;> rfl)
    | (obtain ⟨_, _, _, _, _, _, _, _, _, _, (⟨rfl, _⟩ | ⟨rfl, _⟩), _⟩ := h <;> rfl)
theorem len_law_schema : ∀ ds G Q E, sp_law_schema K a ds G Q E → ds.length = 1 := by
  rintro ds G Q E h
  first
    | (obtain ⟨rfl, _⟩ := h; rfl)
    | (obtain ⟨(rfl | ⟨rfl, _⟩), _⟩ := h <;> rfl)
    | (obtain ⟨(⟨rfl, _⟩ | ⟨rfl, _⟩), _⟩ := h <;> rfl)
    | (obtain ⟨_, rfl, _⟩ := h; rfl)
    | (obtain ⟨_, (rfl | ⟨rfl, _⟩), _⟩ := h <;> rfl)
    | (obtain ⟨_, (⟨rfl, _⟩ | ⟨rfl, _⟩), _⟩ := h <;> rfl)
    | (obtain ⟨_, _, rfl, _⟩ := h; rfl)
    | (obtain ⟨_, _, (rfl | ⟨rfl, _⟩), _⟩ := h <;> rfl)
    | (obtain ⟨_, _, (⟨rfl, _⟩ | ⟨rfl, _⟩), _⟩ := h <;> rfl)
    | (obtain ⟨_, _, _, rfl, _⟩ := h; rfl)
    | (obtain ⟨_, _, _, (rfl | ⟨rfl, _⟩), _⟩ := h <;> rfl)
    | (obtain ⟨_, _, _, (⟨rfl, _⟩ | ⟨rfl, _⟩), _⟩ := h <;> rfl)
    | (obtain ⟨_, _, _, _, rfl, _⟩ := h; rfl)
    | (obtain ⟨_, _, _, _, (rfl | ⟨rfl, _⟩), _⟩ := h <;> rfl)
    | (obtain ⟨_, _, _, _, (⟨rfl, _⟩ | ⟨rfl, _⟩), _⟩ := h <;> rfl)
    | (obtain ⟨_, _, _, _, _, rfl, _⟩ := h; rfl)
    | (obtain ⟨_, _, _, _, _, (rfl | ⟨rfl, _⟩), _⟩ := h <;> rfl)
    | (obtain ⟨_, _, _, _, _, (⟨rfl, _⟩ | ⟨rfl, _⟩), _⟩ := h <;> rfl)
    | (obtain ⟨_, _, _, _, _, _, rfl, _⟩ := h; rfl)
    | (obtain ⟨_, _, _, _, _, _, (rfl | ⟨rfl, _⟩), _⟩ := h <;> rfl)
    | (obtain ⟨_, _, _, _, _, _, (⟨rfl, _⟩ | ⟨rfl, _⟩), _⟩ := h <;> rfl)
    | (obtain ⟨_, _, _, _, _, _, _, rfl, _⟩ := h; rfl)
    | (obtain ⟨_, _, _, _, _, _, _, (rfl | ⟨rfl, _⟩), _⟩ := h <;> rfl)
    | (obtain ⟨_, _, _, _, _, _, _, (⟨rfl, _⟩ | ⟨rfl, _⟩), _⟩ := h <;> rfl)
    | (obtain ⟨_, _, _, _, _, _, _, _, rfl, _⟩ := h; rfl)
    | (obtain ⟨_, _, _, _, _, _, _, _, (rfl | ⟨rfl, _⟩), _⟩ := h <;> rfl)
    | (obtain ⟨_, _, _, _, _, _, _, _, (⟨rfl, _⟩ | ⟨rfl, _⟩), _⟩ := h <;> rfl)
    | (obtain ⟨_, _, _, _, _, _, _, _, _, rfl, _⟩ := h; rfl)
    | (obtain ⟨_, _, _, _, _, _, _, _, _, (rfl | ⟨rfl, _⟩), _⟩ := h <;> rfl)
    | (obtain ⟨_, _, _, _, _, _, _, _, _, (⟨rfl, _⟩ | ⟨rfl, _⟩), _⟩ := h <;> rfl)
    | (obtain ⟨_, _, _, _, _, _, _, _, _, _, rfl, _⟩ := h; rfl)
    | (obtain ⟨_, _, _, _, _, _, _, _, _, _, (rfl | ⟨rfl, _⟩), _⟩ := h <;> rfl)
    | (obtain ⟨_, _, _, _, _, _, _, _, _, _, (⟨rfl, _⟩ | ⟨rfl, _⟩), _⟩ := h <;> rfl)
theorem len_law_reads : ∀ ds G Q E, sp_law_reads K a ds G Q E → ds.length = 2 := by
  rintro ds G Q E h
  first
    | (obtain ⟨rfl, _⟩ := h; rfl)
    | (obtain ⟨(rfl | ⟨rfl, _⟩), _⟩ := h <;> rfl)
    | (obtain ⟨(⟨rfl, _⟩ | ⟨rfl, _⟩), _⟩ := h <;> rfl)
    | (obtain ⟨_, rfl, _⟩ := h; rfl)
    | (obtain ⟨_, (rfl | ⟨rfl, _⟩), _⟩ := h <;> rfl)
    | (obtain ⟨_, (⟨rfl, _⟩ | ⟨rfl, _⟩), _⟩ := h <;> rfl)
    | (obtain ⟨_, _, rfl, _⟩ := h; rfl)
    | (obtain ⟨_, _, (rfl | ⟨rfl, _⟩), _⟩ := h <;> rfl)
    | (obtain ⟨_, _, (⟨rfl, _⟩ | ⟨rfl, _⟩), _⟩ := h <;> rfl)
    | (obtain ⟨_, _, _, rfl, _⟩ := h; rfl)
    | (obtain ⟨_, _, _, (rfl | ⟨rfl, _⟩), _⟩ := h <;> rfl)
    | (obtain ⟨_, _, _, (⟨rfl, _⟩ | ⟨rfl, _⟩), _⟩ := h <;> rfl)
    | (obtain ⟨_, _, _, _, rfl, _⟩ := h; rfl)
    | (obtain ⟨_, _, _, _, (rfl | ⟨rfl, _⟩), _⟩ := h <;> rfl)
    | (obtain ⟨_, _, _, _, (⟨rfl, _⟩ | ⟨rfl, _⟩), _⟩ := h <;> rfl)
    | (obtain ⟨_, _, _, _, _, rfl, _⟩ := h; rfl)
    | (obtain ⟨_, _, _, _, _, (rfl | ⟨rfl, _⟩), _⟩ := h <;> rfl)
    | (obtain ⟨_, _, _, _, _, (⟨rfl, _⟩ | ⟨rfl, _⟩), _⟩ := h <;> rfl)
    | (obtain ⟨_, _, _, _, _, _, rfl, _⟩ := h; rfl)
    | (obtain ⟨_, _, _, _, _, _, (rfl | ⟨rfl, _⟩), _⟩ := h <;> rfl)
    | (obtain ⟨_, _, _, _, _, _, (⟨rfl, _⟩ | ⟨rfl, _⟩), _⟩ := h <;> rfl)
    | (obtain ⟨_, _, _, _, _, _, _, rfl, _⟩ := h; rfl)
    | (obtain ⟨_, _, _, _, _, _, _, (rfl | ⟨rfl, _⟩), _⟩ := h <;> rfl)
    | (obtain ⟨_, _, _, _, _, _, _, (⟨rfl, _⟩ | ⟨rfl, _⟩), _⟩ := h <;> rfl)
    | (obtain ⟨_, _, _, _, _, _, _, _, rfl, _⟩ := h; rfl)
    | (obtain ⟨_, _, _, _, _, _, _, _, (rfl | ⟨rfl, _⟩), _⟩ := h <;> rfl)
    | (obtain ⟨_, _, _, _, _, _, _, _, (⟨rfl, _⟩ | ⟨rfl, _⟩), _⟩ := h <;> rfl)
    | (obtain ⟨_, _, _, _, _, _, _, _, _, rfl, _⟩ := h; rfl)
    | (obtain ⟨_, _, _, _, _, _, _, _, _, (rfl | ⟨rfl, _⟩), _⟩ := h <;> rfl)
    | (obtain ⟨_, _, _, _, _, _, _, _, _, (⟨rfl, _⟩ | ⟨rfl, _⟩), _⟩ := h <;> rfl)
    | (obtain ⟨_, _, _, _, _, _, _, _, _, _, rfl, _⟩ := h; rfl)
    | (obtain ⟨_, _, _, _, _, _, _, _, _, _, (rfl | ⟨rfl, _⟩), _⟩ := h <;> rfl)
    | (obtain ⟨_, _, _, _, _, _, _, _, _, _, (⟨rfl, _⟩ | ⟨rfl, _⟩), _⟩ := h <;> rfl)
theorem len_law_fits : ∀ ds G Q E, sp_law_fits K a ds G Q E → ds.length = 3 := by
  rintro ds G Q E h
  first
    | (obtain ⟨rfl, _⟩ := h; rfl)
    | (obtain ⟨(rfl | ⟨rfl, _⟩), _⟩ := h <;> rfl)
    | (obtain ⟨(⟨rfl, _⟩ | ⟨rfl, _⟩), _⟩ := h <;> rfl)
    | (obtain ⟨_, rfl, _⟩ := h; rfl)
    | (obtain ⟨_, (rfl | ⟨rfl, _⟩), _⟩ := h <;> rfl)
    | (obtain ⟨_, (⟨rfl, _⟩ | ⟨rfl, _⟩), _⟩ := h <;> rfl)
    | (obtain ⟨_, _, rfl, _⟩ := h; rfl)
    | (obtain ⟨_, _, (rfl | ⟨rfl, _⟩), _⟩ := h <;> rfl)
    | (obtain ⟨_, _, (⟨rfl, _⟩ | ⟨rfl, _⟩), _⟩ := h <;> rfl)
    | (obtain ⟨_, _, _, rfl, _⟩ := h; rfl)
    | (obtain ⟨_, _, _, (rfl | ⟨rfl, _⟩), _⟩ := h <;> rfl)
    | (obtain ⟨_, _, _, (⟨rfl, _⟩ | ⟨rfl, _⟩), _⟩ := h <;> rfl)
    | (obtain ⟨_, _, _, _, rfl, _⟩ := h; rfl)
    | (obtain ⟨_, _, _, _, (rfl | ⟨rfl, _⟩), _⟩ := h <;> rfl)
    | (obtain ⟨_, _, _, _, (⟨rfl, _⟩ | ⟨rfl, _⟩), _⟩ := h <;> rfl)
    | (obtain ⟨_, _, _, _, _, rfl, _⟩ := h; rfl)
    | (obtain ⟨_, _, _, _, _, (rfl | ⟨rfl, _⟩), _⟩ := h <;> rfl)
    | (obtain ⟨_, _, _, _, _, (⟨rfl, _⟩ | ⟨rfl, _⟩), _⟩ := h <;> rfl)
    | (obtain ⟨_, _, _, _, _, _, rfl, _⟩ := h; rfl)
    | (obtain ⟨_, _, _, _, _, _, (rfl | ⟨rfl, _⟩), _⟩ := h <;> rfl)
    | (obtain ⟨_, _, _, _, _, _, (⟨rfl, _⟩ | ⟨rfl, _⟩), _⟩ := h <;> rfl)
    | (obtain ⟨_, _, _, _, _, _, _, rfl, _⟩ := h; rfl)
    | (obtain ⟨_, _, _, _, _, _, _, (rfl | ⟨rfl, _⟩), _⟩ := h <;> rfl)
    | (obtain ⟨_, _, _, _, _, _, _, (⟨rfl, _⟩ | ⟨rfl, _⟩), _⟩ := h <;> rfl)
    | (obtain ⟨_, _, _, _, _, _, _, _, rfl, _⟩ := h; rfl)
    | (obtain ⟨_, _, _, _, _, _, _, _, (rfl | ⟨rfl, _⟩), _⟩ := h <;> rfl)
    | (obtain ⟨_, _, _, _, _, _, _, _, (⟨rfl, _⟩ | ⟨rfl, _⟩), _⟩ := h <;> rfl)
    | (obtain ⟨_, _, _, _, _, _, _, _, _, rfl, _⟩ := h; rfl)
    | (obtain ⟨_, _, _, _, _, _, _, _, _, (rfl | ⟨rfl, _⟩), _⟩ := h <;> rfl)
    | (obtain ⟨_, _, _, _, _, _, _, _, _, (⟨rfl, _⟩ | ⟨rfl, _⟩), _⟩ := h <;> rfl)
    | (obtain ⟨_, _, _, _, _, _, _, _, _, _, rfl, _⟩ := h; rfl)
    | (obtain ⟨_, _, _, _, _, _, _, _, _, _, (rfl | ⟨rfl, _⟩), _⟩ := h <;> rfl)
    | (obtain ⟨_, _, _, _, _, _, _, _, _, _, (⟨rfl, _⟩ | ⟨rfl, _⟩), _⟩ := h <;> rfl)
theorem len_law : ∀ ds G Q E, sp_law K a ds G Q E → ds.length = 1 := by
  rintro ds G Q E ⟨_, rfl, _⟩
  rfl
theorem law_at {l : PySem.W.OpenLaw} {w : World} {h : Heap} {fa c_law P_law c_kind_of P_kind_of c_Shape_init P_Shape_init c_Shape_kinds P_Shape_kinds c_Shape_check_row P_Shape_check_row c_Schema_init P_Schema_init c_Schema_reads P_Schema_reads c_Schema_row_from P_Schema_row_from c_Registry_fits P_Registry_fits : Addr} (T : Tx K mg a) (hfa : fa = a.f_law) (hcs : ∀ p ∈ [(c_law, P_law), (c_kind_of, P_kind_of), (c_Shape_init, P_Shape_init), (c_Shape_kinds, P_Shape_kinds), (c_Shape_check_row, P_Shape_check_row), (c_Schema_init, P_Schema_init), (c_Schema_reads, P_Schema_reads), (c_Schema_row_from, P_Schema_row_from), (c_Registry_fits, P_Registry_fits)], PySem.W.CodeHd h p.1 p.2 ∧ K.lookup p.2 = none ∧ h.get? p.2 = some { cls := .none, data := .fields #[] }) (hnd : ([(c_law, P_law), (c_kind_of, P_kind_of), (c_Shape_init, P_Shape_init), (c_Shape_kinds, P_Shape_kinds), (c_Shape_check_row, P_Shape_check_row), (c_Schema_init, P_Schema_init), (c_Schema_reads, P_Schema_reads), (c_Schema_row_from, P_Schema_row_from), (c_Registry_fits, P_Registry_fits)].map (·.2)).Nodup) (hc_law : a.d_law.code = .ref c_law) (hc_kind_of : a.d_kind_of.code = .ref c_kind_of) (hc_Shape_init : a.d_Shape_init.code = .ref c_Shape_init) (hc_Shape_kinds : a.d_Shape_kinds.code = .ref c_Shape_kinds) (hc_Shape_check_row : a.d_Shape_check_row.code = .ref c_Shape_check_row) (hc_Schema_init : a.d_Schema_init.code = .ref c_Schema_init) (hc_Schema_reads : a.d_Schema_reads.code = .ref c_Schema_reads) (hc_Schema_row_from : a.d_Schema_row_from.code = .ref c_Schema_row_from) (hc_Registry_fits : a.d_Registry_fits.code = .ref c_Registry_fits)
    (hb : ∀ (s : Shared) (u : Value), BindsTo s a.d_law ⟨[u], []⟩ [("script", u)]) : LamX.LawAtS l w K (L2.CX l.prog w) 24 63 "script" mg fa h := by
  subst hfa
  have tu : ∀ (P : Addr) (q : Str), (P, q) ∈ [(P_law, lq_law), (P_kind_of, lq_kind_of), (P_Shape_init, lq_Shape_init), (P_Shape_kinds, lq_Shape_kinds), (P_Shape_check_row, lq_Shape_check_row), (P_Schema_init, lq_Schema_init), (P_Schema_reads, lq_Schema_reads), (P_Schema_row_from, lq_Schema_row_from), (P_Registry_fits, lq_Registry_fits)] → ∀ p ∈ [(P_law, lq_law), (P_kind_of, lq_kind_of), (P_Shape_init, lq_Shape_init), (P_Shape_kinds, lq_Shape_kinds), (P_Shape_check_row, lq_Shape_check_row), (P_Schema_init, lq_Schema_init), (P_Schema_reads, lq_Schema_reads), (P_Schema_row_from, lq_Schema_row_from), (P_Registry_fits, lq_Registry_fits)], p.1 = P → p.2 = q := fun P q m => tab_uniq hnd m
  refine ⟨a.d_law, [(c_law, P_law), (c_kind_of, P_kind_of), (c_Shape_init, P_Shape_init), (c_Shape_kinds, P_Shape_kinds), (c_Shape_check_row, P_Shape_check_row), (c_Schema_init, P_Schema_init), (c_Schema_reads, P_Schema_reads), (c_Schema_row_from, P_Schema_row_from), (c_Registry_fits, P_Registry_fits)], (fun vs H Q E => ∀ L, liftSp K (Gam_law [(P_law, lq_law), (P_kind_of, lq_kind_of), (P_Shape_init, lq_Shape_init), (P_Shape_kinds, lq_Shape_kinds), (P_Shape_check_row, lq_Shape_check_row), (P_Schema_init, lq_Schema_init), (P_Schema_reads, lq_Schema_reads), (P_Schema_row_from, lq_Schema_row_from), (P_Registry_fits, lq_Registry_fits)] L) (sp_law K a) vs H Q E), fun p hp => (hcs p hp).2.2, fun p hp => (hcs p hp).2.1, fun p hp => (hcs p hp).1, hb, ?_, ?_⟩
  · intro H r ns hl _ hT hS
    intro L
    refine ⟨[.nod .ro (ns.map .int)], fun _ => none, fun d _ => d = .bl true, fun _ _ => False, ⟨_, [], rfl, ⟨r, _, rfl, ?_, ints_dl ns⟩, rfl⟩, ⟨(fun _ _ z => by cases z), ?_⟩, ⟨ns, rfl, hl, fun _ => rfl⟩, fun d v G' H' _ _ dv e => ?_, fun _ _ _ _ _ z => z⟩
    · rcases hS with q | q
      · exact .inl ⟨rfl, q⟩
      · exact .inr (.inr q)
    · exact tabs_start hT
    · have e' : d = .bl true := e
      rw [e'] at dv
      exact dv
  · intro base KX G TB
    have F_kind_of := fun L => ok_kind_of (P := l.prog) (w := w) (base := base) (Γ := (Gam_law [(P_law, lq_law), (P_kind_of, lq_kind_of), (P_Shape_init, lq_Shape_init), (P_Shape_kinds, lq_Shape_kinds), (P_Shape_check_row, lq_Shape_check_row), (P_Schema_init, lq_Schema_init), (P_Schema_reads, lq_Schema_reads), (P_Schema_row_from, lq_Schema_row_from), (P_Registry_fits, lq_Registry_fits)] L)) T  (TB _ (.tail _ (.head _))) (.tail _ (.head _)) (tu _ _ (.tail _ (.head _))) hc_kind_of len_kind_of (pl_kind_of)
    have F_Shape_init := fun L => ok_Shape_init (P := l.prog) (w := w) (base := base) (Γ := (Gam_law [(P_law, lq_law), (P_kind_of, lq_kind_of), (P_Shape_init, lq_Shape_init), (P_Shape_kinds, lq_Shape_kinds), (P_Shape_check_row, lq_Shape_check_row), (P_Schema_init, lq_Schema_init), (P_Schema_reads, lq_Schema_reads), (P_Schema_row_from, lq_Schema_row_from), (P_Registry_fits, lq_Registry_fits)] L)) T  (TB _ (.tail _ (.tail _ (.head _)))) (.tail _ (.tail _ (.head _))) (tu _ _ (.tail _ (.tail _ (.head _)))) hc_Shape_init len_Shape_init (pl_Shape_init T)
    have F_Shape_kinds := fun L => ok_Shape_kinds (P := l.prog) (w := w) (base := base) (Γ := (Gam_law [(P_law, lq_law), (P_kind_of, lq_kind_of), (P_Shape_init, lq_Shape_init), (P_Shape_kinds, lq_Shape_kinds), (P_Shape_check_row, lq_Shape_check_row), (P_Schema_init, lq_Schema_init), (P_Schema_reads, lq_Schema_reads), (P_Schema_row_from, lq_Schema_row_from), (P_Registry_fits, lq_Registry_fits)] L)) T  (TB _ (.tail _ (.tail _ (.tail _ (.head _))))) (.tail _ (.tail _ (.tail _ (.head _)))) (tu _ _ (.tail _ (.tail _ (.tail _ (.head _))))) hc_Shape_kinds len_Shape_kinds (pl_Shape_kinds T)
    have F_Shape_check_row := fun L => ok_Shape_check_row (P := l.prog) (w := w) (base := base) (Γ := (Gam_law [(P_law, lq_law), (P_kind_of, lq_kind_of), (P_Shape_init, lq_Shape_init), (P_Shape_kinds, lq_Shape_kinds), (P_Shape_check_row, lq_Shape_check_row), (P_Schema_init, lq_Schema_init), (P_Schema_reads, lq_Schema_reads), (P_Schema_row_from, lq_Schema_row_from), (P_Registry_fits, lq_Registry_fits)] L)) T (F_kind_of L) (F_Shape_kinds L) (TB _ (.tail _ (.tail _ (.tail _ (.tail _ (.head _)))))) (.tail _ (.tail _ (.tail _ (.tail _ (.head _))))) (tu _ _ (.tail _ (.tail _ (.tail _ (.tail _ (.head _)))))) hc_Shape_check_row len_Shape_check_row (pl_Shape_check_row T)
    have F_Schema_init := fun L => ok_Schema_init (P := l.prog) (w := w) (base := base) (Γ := (Gam_law [(P_law, lq_law), (P_kind_of, lq_kind_of), (P_Shape_init, lq_Shape_init), (P_Shape_kinds, lq_Shape_kinds), (P_Shape_check_row, lq_Shape_check_row), (P_Schema_init, lq_Schema_init), (P_Schema_reads, lq_Schema_reads), (P_Schema_row_from, lq_Schema_row_from), (P_Registry_fits, lq_Registry_fits)] L)) T (F_Shape_init L) (F_kind_of L) (TB _ (.tail _ (.tail _ (.tail _ (.tail _ (.tail _ (.head _))))))) (.tail _ (.tail _ (.tail _ (.tail _ (.tail _ (.head _)))))) (tu _ _ (.tail _ (.tail _ (.tail _ (.tail _ (.tail _ (.head _))))))) hc_Schema_init len_Schema_init (pl_Schema_init T)
    have F_Schema_reads := fun L => ok_Schema_reads (P := l.prog) (w := w) (base := base) (Γ := (Gam_law [(P_law, lq_law), (P_kind_of, lq_kind_of), (P_Shape_init, lq_Shape_init), (P_Shape_kinds, lq_Shape_kinds), (P_Shape_check_row, lq_Shape_check_row), (P_Schema_init, lq_Schema_init), (P_Schema_reads, lq_Schema_reads), (P_Schema_row_from, lq_Schema_row_from), (P_Registry_fits, lq_Registry_fits)] L)) T  (TB _ (.tail _ (.tail _ (.tail _ (.tail _ (.tail _ (.tail _ (.head _)))))))) (.tail _ (.tail _ (.tail _ (.tail _ (.tail _ (.tail _ (.head _))))))) (tu _ _ (.tail _ (.tail _ (.tail _ (.tail _ (.tail _ (.tail _ (.head _)))))))) hc_Schema_reads len_Schema_reads (pl_Schema_reads T)
    have F_Schema_row_from := fun L => ok_Schema_row_from (P := l.prog) (w := w) (base := base) (Γ := (Gam_law [(P_law, lq_law), (P_kind_of, lq_kind_of), (P_Shape_init, lq_Shape_init), (P_Shape_kinds, lq_Shape_kinds), (P_Shape_check_row, lq_Shape_check_row), (P_Schema_init, lq_Schema_init), (P_Schema_reads, lq_Schema_reads), (P_Schema_row_from, lq_Schema_row_from), (P_Registry_fits, lq_Registry_fits)] L)) T (F_Schema_reads L) (F_Shape_check_row L) (TB _ (.tail _ (.tail _ (.tail _ (.tail _ (.tail _ (.tail _ (.tail _ (.head _))))))))) (.tail _ (.tail _ (.tail _ (.tail _ (.tail _ (.tail _ (.tail _ (.head _)))))))) (tu _ _ (.tail _ (.tail _ (.tail _ (.tail _ (.tail _ (.tail _ (.tail _ (.head _))))))))) hc_Schema_row_from len_Schema_row_from (pl_Schema_row_from T)
    have F_Registry_init := fun L => ok_Registry_init (P := l.prog) (w := w) (base := base) (Γ := (Gam_law [(P_law, lq_law), (P_kind_of, lq_kind_of), (P_Shape_init, lq_Shape_init), (P_Shape_kinds, lq_Shape_kinds), (P_Shape_check_row, lq_Shape_check_row), (P_Schema_init, lq_Schema_init), (P_Schema_reads, lq_Schema_reads), (P_Schema_row_from, lq_Schema_row_from), (P_Registry_fits, lq_Registry_fits)] L)) T  len_Registry_init (pl_Registry_init T)
    have F_Registry_put_rule := fun L => ok_Registry_put_rule (P := l.prog) (w := w) (base := base) (Γ := (Gam_law [(P_law, lq_law), (P_kind_of, lq_kind_of), (P_Shape_init, lq_Shape_init), (P_Shape_kinds, lq_Shape_kinds), (P_Shape_check_row, lq_Shape_check_row), (P_Schema_init, lq_Schema_init), (P_Schema_reads, lq_Schema_reads), (P_Schema_row_from, lq_Schema_row_from), (P_Registry_fits, lq_Registry_fits)] L)) T  len_Registry_put_rule (pl_Registry_put_rule T)
    have F_Registry_fits := fun L => ok_Registry_fits (P := l.prog) (w := w) (base := base) (Γ := (Gam_law [(P_law, lq_law), (P_kind_of, lq_kind_of), (P_Shape_init, lq_Shape_init), (P_Shape_kinds, lq_Shape_kinds), (P_Shape_check_row, lq_Shape_check_row), (P_Schema_init, lq_Schema_init), (P_Schema_reads, lq_Schema_reads), (P_Schema_row_from, lq_Schema_row_from), (P_Registry_fits, lq_Registry_fits)] L)) T (F_Schema_reads L) (TB _ (.tail _ (.tail _ (.tail _ (.tail _ (.tail _ (.tail _ (.tail _ (.tail _ (.head _)))))))))) (.tail _ (.tail _ (.tail _ (.tail _ (.tail _ (.tail _ (.tail _ (.tail _ (.head _))))))))) (tu _ _ (.tail _ (.tail _ (.tail _ (.tail _ (.tail _ (.tail _ (.tail _ (.tail _ (.head _)))))))))) hc_Registry_fits len_Registry_fits (pl_Registry_fits T)
    have F_Registry_add := fun L => ok_Registry_add (P := l.prog) (w := w) (base := base) (Γ := (Gam_law [(P_law, lq_law), (P_kind_of, lq_kind_of), (P_Shape_init, lq_Shape_init), (P_Shape_kinds, lq_Shape_kinds), (P_Shape_check_row, lq_Shape_check_row), (P_Schema_init, lq_Schema_init), (P_Schema_reads, lq_Schema_reads), (P_Schema_row_from, lq_Schema_row_from), (P_Registry_fits, lq_Registry_fits)] L)) T (F_Registry_fits L) len_Registry_add (pl_Registry_add T)
    have F_Registry_read := fun L => ok_Registry_read (P := l.prog) (w := w) (base := base) (Γ := (Gam_law [(P_law, lq_law), (P_kind_of, lq_kind_of), (P_Shape_init, lq_Shape_init), (P_Shape_kinds, lq_Shape_kinds), (P_Shape_check_row, lq_Shape_check_row), (P_Schema_init, lq_Schema_init), (P_Schema_reads, lq_Schema_reads), (P_Schema_row_from, lq_Schema_row_from), (P_Registry_fits, lq_Registry_fits)] L)) T (F_Schema_row_from L) len_Registry_read (pl_Registry_read T)
    have F_law_dice := fun L => ok_law_dice (P := l.prog) (w := w) (base := base) (Γ := (Gam_law [(P_law, lq_law), (P_kind_of, lq_kind_of), (P_Shape_init, lq_Shape_init), (P_Shape_kinds, lq_Shape_kinds), (P_Shape_check_row, lq_Shape_check_row), (P_Schema_init, lq_Schema_init), (P_Schema_reads, lq_Schema_reads), (P_Schema_row_from, lq_Schema_row_from), (P_Registry_fits, lq_Registry_fits)] L)) T  len_law_dice (pl_dice)
    have F_law_roll := fun L => ok_law_roll (P := l.prog) (w := w) (base := base) (Γ := (Gam_law [(P_law, lq_law), (P_kind_of, lq_kind_of), (P_Shape_init, lq_Shape_init), (P_Shape_kinds, lq_Shape_kinds), (P_Shape_check_row, lq_Shape_check_row), (P_Schema_init, lq_Schema_init), (P_Schema_reads, lq_Schema_reads), (P_Schema_row_from, lq_Schema_row_from), (P_Registry_fits, lq_Registry_fits)] L)) T  len_law_roll (pl_roll)
    have F_law_rounds := fun L => ok_law_rounds (P := l.prog) (w := w) (base := base) (Γ := (Gam_law [(P_law, lq_law), (P_kind_of, lq_kind_of), (P_Shape_init, lq_Shape_init), (P_Shape_kinds, lq_Shape_kinds), (P_Shape_check_row, lq_Shape_check_row), (P_Schema_init, lq_Schema_init), (P_Schema_reads, lq_Schema_reads), (P_Schema_row_from, lq_Schema_row_from), (P_Registry_fits, lq_Registry_fits)] L)) T (F_law_dice L) len_law_rounds (pl_rounds)
    have F_law_schema := fun L => ok_law_schema (P := l.prog) (w := w) (base := base) (Γ := (Gam_law [(P_law, lq_law), (P_kind_of, lq_kind_of), (P_Shape_init, lq_Shape_init), (P_Shape_kinds, lq_Shape_kinds), (P_Shape_check_row, lq_Shape_check_row), (P_Schema_init, lq_Schema_init), (P_Schema_reads, lq_Schema_reads), (P_Schema_row_from, lq_Schema_row_from), (P_Registry_fits, lq_Registry_fits)] L)) T (F_law_roll L) len_law_schema (pl_law_schema)
    have F_law_reads := fun L => ok_law_reads (P := l.prog) (w := w) (base := base) (Γ := (Gam_law [(P_law, lq_law), (P_kind_of, lq_kind_of), (P_Shape_init, lq_Shape_init), (P_Shape_kinds, lq_Shape_kinds), (P_Shape_check_row, lq_Shape_check_row), (P_Schema_init, lq_Schema_init), (P_Schema_reads, lq_Schema_reads), (P_Schema_row_from, lq_Schema_row_from), (P_Registry_fits, lq_Registry_fits)] L)) T  len_law_reads (pl_law_reads)
    have F_law_fits := fun L => ok_law_fits (P := l.prog) (w := w) (base := base) (Γ := (Gam_law [(P_law, lq_law), (P_kind_of, lq_kind_of), (P_Shape_init, lq_Shape_init), (P_Shape_kinds, lq_Shape_kinds), (P_Shape_check_row, lq_Shape_check_row), (P_Schema_init, lq_Schema_init), (P_Schema_reads, lq_Schema_reads), (P_Schema_row_from, lq_Schema_row_from), (P_Registry_fits, lq_Registry_fits)] L)) T (F_law_reads L) len_law_fits (pl_law_fits)
    exact fn3G (fun L => (Gam_law [(P_law, lq_law), (P_kind_of, lq_kind_of), (P_Shape_init, lq_Shape_init), (P_Shape_kinds, lq_Shape_kinds), (P_Shape_check_row, lq_Shape_check_row), (P_Schema_init, lq_Schema_init), (P_Schema_reads, lq_Schema_reads), (P_Schema_row_from, lq_Schema_row_from), (P_Registry_fits, lq_Registry_fits)] L)) T.u_law.a sc_law len_law fun cdv A outer s H E hcd hr => ⟨_, w_law T cdv A outer s H E (F_law_rounds s.heap.objs.size) (F_Registry_init s.heap.objs.size) (F_law_roll s.heap.objs.size) (F_Registry_put_rule s.heap.objs.size) (F_law_schema s.heap.objs.size) (F_Schema_init s.heap.objs.size) (F_law_fits s.heap.objs.size) (F_Registry_add s.heap.objs.size) (F_Registry_fits s.heap.objs.size) (F_law_reads s.heap.objs.size) (F_Registry_read s.heap.objs.size) (F_Schema_row_from s.heap.objs.size) (F_Schema_reads s.heap.objs.size) (TB _ (.head _)) (.head _) (tu _ _ (.head _)) (hcd.symm.trans hc_law) hr, pl_law T⟩
end
theorem all_mk {l : PySem.W.OpenLaw} {w : World} {K : PySem.W.Frag} {h : Heap} {mg : Str → Option Value} {fa ca_law P_law ca_kind_of P_kind_of ca_Shape_init P_Shape_init ca_Shape_kinds P_Shape_kinds ca_Shape_check_row P_Shape_check_row ca_Schema_init P_Schema_init ca_Schema_reads P_Schema_reads ca_Schema_row_from P_Schema_row_from ca_Registry_fits P_Registry_fits : Addr} (X : K.In h) (G : h.Ns mainGlobals mg) (hfa : mg "law" = some (.ref fa)) (hP : ∀ P ∈ [P_law, P_kind_of, P_Shape_init, P_Shape_kinds, P_Shape_check_row, P_Schema_init, P_Schema_reads, P_Schema_row_from, P_Registry_fits], h.get? P = some (PySem.W.tabObj #[]))
    {Registry RowError Schema Shape f_kind_of f_Shape_init f_Shape_kinds f_Shape_check_row f_Schema_init f_Schema_reads f_Schema_row_from f_Registry_init f_Registry_put_rule f_Registry_fits f_Registry_add f_Registry_read f_law_dice f_law_roll f_law_rounds f_law_told f_law_schema f_law_reads f_law_fits f_law kt_KINDS dt_Schema_init tt_Schema_init_0 : Addr}
    {nk_KINDS nT_Schema_init nt_Schema_init_0 : Nat}
    {tc_KINDS_0 tc_KINDS_1 tc_LETTERS tc_MOST_COLUMNS : Nat}
    {od_kind_of an_kind_of od_Shape_init an_Shape_init od_Shape_kinds an_Shape_kinds od_Shape_check_row an_Shape_check_row od_Schema_init an_Schema_init odT_Schema_init od_Schema_reads an_Schema_reads od_Schema_row_from an_Schema_row_from od_Registry_init an_Registry_init od_Registry_put_rule an_Registry_put_rule od_Registry_fits an_Registry_fits od_Registry_add an_Registry_add od_Registry_read an_Registry_read od_law_dice an_law_dice od_law_roll an_law_roll od_law_rounds an_law_rounds od_law_told an_law_told od_law_schema an_law_schema od_law_reads an_law_reads od_law_fits an_law_fits od_law an_law : Option Addr} {slk_KINDS sl_kind_of sl_Shape_init sl_Shape_kinds sl_Shape_check_row sl_Schema_init slT_Schema_init slt_Schema_init_0 sl_Schema_reads sl_Schema_row_from sl_Registry_init sl_Registry_put_rule sl_Registry_fits sl_Registry_add sl_Registry_read sl_law_dice sl_law_roll sl_law_rounds sl_law_told sl_law_schema sl_law_reads sl_law_fits sl_law : Array (Option Value)} {oc_kind_of kV_kind_of dc_kind_of pm_kind_of ct_kind_of oc_Shape_init kV_Shape_init dc_Shape_init pm_Shape_init ct_Shape_init oc_Shape_kinds kV_Shape_kinds dc_Shape_kinds pm_Shape_kinds ct_Shape_kinds oc_Shape_check_row kV_Shape_check_row dc_Shape_check_row pm_Shape_check_row ct_Shape_check_row oc_Schema_init kV_Schema_init dc_Schema_init pm_Schema_init ct_Schema_init oT_Schema_init oc_Schema_reads kV_Schema_reads dc_Schema_reads pm_Schema_reads ct_Schema_reads oc_Schema_row_from kV_Schema_row_from dc_Schema_row_from pm_Schema_row_from ct_Schema_row_from oc_Registry_init kV_Registry_init dc_Registry_init pm_Registry_init ct_Registry_init cd_Registry_init oc_Registry_put_rule kV_Registry_put_rule dc_Registry_put_rule pm_Registry_put_rule ct_Registry_put_rule cd_Registry_put_rule oc_Registry_fits kV_Registry_fits dc_Registry_fits pm_Registry_fits ct_Registry_fits oc_Registry_add kV_Registry_add dc_Registry_add pm_Registry_add ct_Registry_add cd_Registry_add oc_Registry_read kV_Registry_read dc_Registry_read pm_Registry_read ct_Registry_read cd_Registry_read oc_law_dice kV_law_dice dc_law_dice pm_law_dice ct_law_dice cd_law_dice oc_law_roll kV_law_roll dc_law_roll pm_law_roll ct_law_roll cd_law_roll oc_law_rounds kV_law_rounds dc_law_rounds pm_law_rounds ct_law_rounds cd_law_rounds oc_law_told kV_law_told dc_law_told pm_law_told ct_law_told cd_law_told oc_law_schema kV_law_schema dc_law_schema pm_law_schema ct_law_schema cd_law_schema oc_law_reads kV_law_reads dc_law_reads pm_law_reads ct_law_reads cd_law_reads oc_law_fits kV_law_fits dc_law_fits pm_law_fits ct_law_fits cd_law_fits oc_law kV_law dc_law pm_law ct_law : Value}
    (z_n_abs : PySem.W.nsIn K mainGlobals "abs" = some none)
    (z_n_all : PySem.W.nsIn K mainGlobals "all" = some none)
    (z_n_any : PySem.W.nsIn K mainGlobals "any" = some none)
    (z_n_bool : PySem.W.nsIn K mainGlobals "bool" = some none)
    (z_n_dict : PySem.W.nsIn K mainGlobals "dict" = some none)
    (z_n_enumerate : PySem.W.nsIn K mainGlobals "enumerate" = some none)
    (z_n_int : PySem.W.nsIn K mainGlobals "int" = some none)
    (z_n_isinstance : PySem.W.nsIn K mainGlobals "isinstance" = some none)
    (z_n_len : PySem.W.nsIn K mainGlobals "len" = some none)
    (z_n_range : PySem.W.nsIn K mainGlobals "range" = some none)
    (z_n_str : PySem.W.nsIn K mainGlobals "str" = some none)
    (z_n_tuple : PySem.W.nsIn K mainGlobals "tuple" = some none)
    (z_n_zip : PySem.W.nsIn K mainGlobals "zip" = some none)
    (z_cg_KINDS : PySem.W.nsIn K mainGlobals "KINDS" = some (some (.ref kt_KINDS)))
    (lk_KINDS : K.lookup kt_KINDS = some ⟨.type "tuple", none, .seq #[.str "int" tc_KINDS_0, .str "text" tc_KINDS_1] nk_KINDS, slk_KINDS⟩)
    (z_cg_LETTERS : PySem.W.nsIn K mainGlobals "LETTERS" = some (some (.str z_LETTERS tc_LETTERS)))
    (z_cg_MOST_COLUMNS : PySem.W.nsIn K mainGlobals "MOST_COLUMNS" = some (some (.int 20 tc_MOST_COLUMNS)))
    (z_g_Registry : PySem.W.nsIn K mainGlobals "Registry" = some (some (.ref Registry)))
    (pg_Registry : PySem.W.plainGet K Registry Str.empty = true)
    (hd_Registry : PySem.W.hasDictIn K Registry = true)
    (po_Registry : PySem.W.plainOver K Registry = true)
    (sa_Registry : PySem.W.findIn K (.ref Registry) "__setattr__" = some (some (.builtin "object.__setattr__")))
    (mk_Registry : PySem.W.makesIn K Registry = true)
    (at_f_Registry_init : PySem.W.findIn K (.ref Registry) "__init__" = some (some (.ref f_Registry_init)))
    (fn_f_Registry_init : PySem.W.isFn K (.ref f_Registry_init) = true)
    (kp_Registry : PySem.W.keepIn K (.ref Registry) = true)
    (na_Registry_schemas : PySem.W.findIn K (.ref Registry) "schemas" = some none)
    (na_Registry_rules : PySem.W.findIn K (.ref Registry) "rules" = some none)
    (at_f_Registry_put_rule : PySem.W.findIn K (.ref Registry) "put_rule" = some (some (.ref f_Registry_put_rule)))
    (fn_f_Registry_put_rule : PySem.W.isFn K (.ref f_Registry_put_rule) = true)
    (kp_f_Registry_put_rule : PySem.W.keepIn K (.ref f_Registry_put_rule) = true)
    (at_f_Registry_fits : PySem.W.findIn K (.ref Registry) "fits" = some (some (.ref f_Registry_fits)))
    (fn_f_Registry_fits : PySem.W.isFn K (.ref f_Registry_fits) = true)
    (kp_f_Registry_fits : PySem.W.keepIn K (.ref f_Registry_fits) = true)
    (at_f_Registry_add : PySem.W.findIn K (.ref Registry) "add" = some (some (.ref f_Registry_add)))
    (fn_f_Registry_add : PySem.W.isFn K (.ref f_Registry_add) = true)
    (kp_f_Registry_add : PySem.W.keepIn K (.ref f_Registry_add) = true)
    (at_f_Registry_read : PySem.W.findIn K (.ref Registry) "read" = some (some (.ref f_Registry_read)))
    (fn_f_Registry_read : PySem.W.isFn K (.ref f_Registry_read) = true)
    (kp_f_Registry_read : PySem.W.keepIn K (.ref f_Registry_read) = true)
    (z_g_RowError : PySem.W.nsIn K mainGlobals "RowError" = some (some (.ref RowError)))
    (x_RowError : PySem.W.excIn K RowError [.type "ValueError", .type "Exception", .type "BaseException", .type "object"] "ValueError.__new__" = true)
    (kc_RowError : PySem.W.keepIn K (.ref RowError) = true)
    (xb_RowError : PySem.W.subIn K (.ref RowError) (.type "BaseException") = some true)
    (xt_RowError : PySem.W.typeIn K (.ref RowError) = some (.type "type"))
    (ic_RowError : PySem.W.isClsIn K RowError = true)
    (ss_RowError : PySem.W.subIn K (.ref RowError) (.ref RowError) = some true)
    (z_g_Schema : PySem.W.nsIn K mainGlobals "Schema" = some (some (.ref Schema)))
    (pg_Schema : PySem.W.plainGet K Schema Str.empty = true)
    (hd_Schema : PySem.W.hasDictIn K Schema = true)
    (po_Schema : PySem.W.plainOver K Schema = true)
    (sa_Schema : PySem.W.findIn K (.ref Schema) "__setattr__" = some (some (.builtin "object.__setattr__")))
    (mk_Schema : PySem.W.makesIn K Schema = true)
    (at_f_Schema_init : PySem.W.findIn K (.ref Schema) "__init__" = some (some (.ref f_Schema_init)))
    (fn_f_Schema_init : PySem.W.isFn K (.ref f_Schema_init) = true)
    (kp_Schema : PySem.W.keepIn K (.ref Schema) = true)
    (na_Schema_shape : PySem.W.findIn K (.ref Schema) "shape" = some none)
    (na_Schema_lacking : PySem.W.findIn K (.ref Schema) "lacking" = some none)
    (at_f_Schema_reads : PySem.W.findIn K (.ref Schema) "reads" = some (some (.ref f_Schema_reads)))
    (fn_f_Schema_reads : PySem.W.isFn K (.ref f_Schema_reads) = true)
    (kp_f_Schema_reads : PySem.W.keepIn K (.ref f_Schema_reads) = true)
    (at_f_Schema_row_from : PySem.W.findIn K (.ref Schema) "row_from" = some (some (.ref f_Schema_row_from)))
    (fn_f_Schema_row_from : PySem.W.isFn K (.ref f_Schema_row_from) = true)
    (kp_f_Schema_row_from : PySem.W.keepIn K (.ref f_Schema_row_from) = true)
    (z_g_Shape : PySem.W.nsIn K mainGlobals "Shape" = some (some (.ref Shape)))
    (pg_Shape : PySem.W.plainGet K Shape Str.empty = true)
    (hd_Shape : PySem.W.hasDictIn K Shape = true)
    (po_Shape : PySem.W.plainOver K Shape = true)
    (sa_Shape : PySem.W.findIn K (.ref Shape) "__setattr__" = some (some (.builtin "object.__setattr__")))
    (mk_Shape : PySem.W.makesIn K Shape = true)
    (at_f_Shape_init : PySem.W.findIn K (.ref Shape) "__init__" = some (some (.ref f_Shape_init)))
    (fn_f_Shape_init : PySem.W.isFn K (.ref f_Shape_init) = true)
    (kp_Shape : PySem.W.keepIn K (.ref Shape) = true)
    (na_Shape_columns : PySem.W.findIn K (.ref Shape) "columns" = some none)
    (at_f_Shape_kinds : PySem.W.findIn K (.ref Shape) "kinds" = some (some (.ref f_Shape_kinds)))
    (fn_f_Shape_kinds : PySem.W.isFn K (.ref f_Shape_kinds) = true)
    (kp_f_Shape_kinds : PySem.W.keepIn K (.ref f_Shape_kinds) = true)
    (at_f_Shape_check_row : PySem.W.findIn K (.ref Shape) "check_row" = some (some (.ref f_Shape_check_row)))
    (fn_f_Shape_check_row : PySem.W.isFn K (.ref f_Shape_check_row) = true)
    (kp_f_Shape_check_row : PySem.W.keepIn K (.ref f_Shape_check_row) = true)
    (z_g_kind_of : PySem.W.nsIn K mainGlobals "kind_of" = some (some (.ref f_kind_of)))
    (k_kind_of : PySem.W.keepIn K (.ref f_kind_of) = true)
    (l_kind_of : K.lookup f_kind_of = some ⟨oc_kind_of, od_kind_of, .func (PySem.W.fnOf "kind_of" "kind_of" (defArgs s_kind_of) (defBody s_kind_of) (defScope s_kind_of) .none kV_kind_of dc_kind_of pm_kind_of an_kind_of (.ref ca_kind_of) ct_kind_of), sl_kind_of⟩)
    (c_kind_of : PySem.W.codeIn K (.ref ca_kind_of) "kind_of" = true)
    (l_Shape_init : K.lookup f_Shape_init = some ⟨oc_Shape_init, od_Shape_init, .func (PySem.W.fnOf "__init__" "Shape.__init__" (defArgs s_Shape_init) (defBody s_Shape_init) (defScope s_Shape_init) .none kV_Shape_init dc_Shape_init pm_Shape_init an_Shape_init (.ref ca_Shape_init) ct_Shape_init), sl_Shape_init⟩)
    (c_Shape_init : PySem.W.codeIn K (.ref ca_Shape_init) "Shape.__init__" = true)
    (kp_f_Shape_init : PySem.W.keepIn K (.ref f_Shape_init) = true)
    (l_Shape_kinds : K.lookup f_Shape_kinds = some ⟨oc_Shape_kinds, od_Shape_kinds, .func (PySem.W.fnOf "kinds" "Shape.kinds" (defArgs s_Shape_kinds) (defBody s_Shape_kinds) (defScope s_Shape_kinds) .none kV_Shape_kinds dc_Shape_kinds pm_Shape_kinds an_Shape_kinds (.ref ca_Shape_kinds) ct_Shape_kinds), sl_Shape_kinds⟩)
    (c_Shape_kinds : PySem.W.codeIn K (.ref ca_Shape_kinds) "Shape.kinds" = true)
    (l_Shape_check_row : K.lookup f_Shape_check_row = some ⟨oc_Shape_check_row, od_Shape_check_row, .func (PySem.W.fnOf "check_row" "Shape.check_row" (defArgs s_Shape_check_row) (defBody s_Shape_check_row) (defScope s_Shape_check_row) .none kV_Shape_check_row dc_Shape_check_row pm_Shape_check_row an_Shape_check_row (.ref ca_Shape_check_row) ct_Shape_check_row), sl_Shape_check_row⟩)
    (c_Shape_check_row : PySem.W.codeIn K (.ref ca_Shape_check_row) "Shape.check_row" = true)
    (l_Schema_init : K.lookup f_Schema_init = some ⟨oc_Schema_init, od_Schema_init, .func (PySem.W.fnOf "__init__" "Schema.__init__" (defArgs s_Schema_init) (defBody s_Schema_init) (defScope s_Schema_init) (.ref dt_Schema_init) kV_Schema_init dc_Schema_init pm_Schema_init an_Schema_init (.ref ca_Schema_init) ct_Schema_init), sl_Schema_init⟩)
    (c_Schema_init : PySem.W.codeIn K (.ref ca_Schema_init) "Schema.__init__" = true)
    (kp_f_Schema_init : PySem.W.keepIn K (.ref f_Schema_init) = true)
    (lt_Schema_init : K.lookup dt_Schema_init = some ⟨oT_Schema_init, odT_Schema_init, .seq #[.ref tt_Schema_init_0] nT_Schema_init, slT_Schema_init⟩)
    (ltt_Schema_init_0 : K.lookup tt_Schema_init_0 = some ⟨.type "tuple", none, .seq #[] nt_Schema_init_0, slt_Schema_init_0⟩)
    (l_Schema_reads : K.lookup f_Schema_reads = some ⟨oc_Schema_reads, od_Schema_reads, .func (PySem.W.fnOf "reads" "Schema.reads" (defArgs s_Schema_reads) (defBody s_Schema_reads) (defScope s_Schema_reads) .none kV_Schema_reads dc_Schema_reads pm_Schema_reads an_Schema_reads (.ref ca_Schema_reads) ct_Schema_reads), sl_Schema_reads⟩)
    (c_Schema_reads : PySem.W.codeIn K (.ref ca_Schema_reads) "Schema.reads" = true)
    (l_Schema_row_from : K.lookup f_Schema_row_from = some ⟨oc_Schema_row_from, od_Schema_row_from, .func (PySem.W.fnOf "row_from" "Schema.row_from" (defArgs s_Schema_row_from) (defBody s_Schema_row_from) (defScope s_Schema_row_from) .none kV_Schema_row_from dc_Schema_row_from pm_Schema_row_from an_Schema_row_from (.ref ca_Schema_row_from) ct_Schema_row_from), sl_Schema_row_from⟩)
    (c_Schema_row_from : PySem.W.codeIn K (.ref ca_Schema_row_from) "Schema.row_from" = true)
    (l_Registry_init : K.lookup f_Registry_init = some ⟨oc_Registry_init, od_Registry_init, .func (PySem.W.fnOf "__init__" "Registry.__init__" (defArgs s_Registry_init) (defBody s_Registry_init) (defScope s_Registry_init) .none kV_Registry_init dc_Registry_init pm_Registry_init an_Registry_init cd_Registry_init ct_Registry_init), sl_Registry_init⟩)
    (c_Registry_init : PySem.W.codeIn K cd_Registry_init "Registry.__init__" = true)
    (kp_f_Registry_init : PySem.W.keepIn K (.ref f_Registry_init) = true)
    (l_Registry_put_rule : K.lookup f_Registry_put_rule = some ⟨oc_Registry_put_rule, od_Registry_put_rule, .func (PySem.W.fnOf "put_rule" "Registry.put_rule" (defArgs s_Registry_put_rule) (defBody s_Registry_put_rule) (defScope s_Registry_put_rule) .none kV_Registry_put_rule dc_Registry_put_rule pm_Registry_put_rule an_Registry_put_rule cd_Registry_put_rule ct_Registry_put_rule), sl_Registry_put_rule⟩)
    (c_Registry_put_rule : PySem.W.codeIn K cd_Registry_put_rule "Registry.put_rule" = true)
    (l_Registry_fits : K.lookup f_Registry_fits = some ⟨oc_Registry_fits, od_Registry_fits, .func (PySem.W.fnOf "fits" "Registry.fits" (defArgs s_Registry_fits) (defBody s_Registry_fits) (defScope s_Registry_fits) .none kV_Registry_fits dc_Registry_fits pm_Registry_fits an_Registry_fits (.ref ca_Registry_fits) ct_Registry_fits), sl_Registry_fits⟩)
    (c_Registry_fits : PySem.W.codeIn K (.ref ca_Registry_fits) "Registry.fits" = true)
    (l_Registry_add : K.lookup f_Registry_add = some ⟨oc_Registry_add, od_Registry_add, .func (PySem.W.fnOf "add" "Registry.add" (defArgs s_Registry_add) (defBody s_Registry_add) (defScope s_Registry_add) .none kV_Registry_add dc_Registry_add pm_Registry_add an_Registry_add cd_Registry_add ct_Registry_add), sl_Registry_add⟩)
    (c_Registry_add : PySem.W.codeIn K cd_Registry_add "Registry.add" = true)
    (l_Registry_read : K.lookup f_Registry_read = some ⟨oc_Registry_read, od_Registry_read, .func (PySem.W.fnOf "read" "Registry.read" (defArgs s_Registry_read) (defBody s_Registry_read) (defScope s_Registry_read) .none kV_Registry_read dc_Registry_read pm_Registry_read an_Registry_read cd_Registry_read ct_Registry_read), sl_Registry_read⟩)
    (c_Registry_read : PySem.W.codeIn K cd_Registry_read "Registry.read" = true)
    (z_g_law_dice : PySem.W.nsIn K mainGlobals "_law_dice" = some (some (.ref f_law_dice)))
    (k_law_dice : PySem.W.keepIn K (.ref f_law_dice) = true)
    (l_law_dice : K.lookup f_law_dice = some ⟨oc_law_dice, od_law_dice, .func (PySem.W.fnOf "_law_dice" "_law_dice" (defArgs s_law_dice) (defBody s_law_dice) (defScope s_law_dice) .none kV_law_dice dc_law_dice pm_law_dice an_law_dice cd_law_dice ct_law_dice), sl_law_dice⟩)
    (c_law_dice : PySem.W.codeIn K cd_law_dice "_law_dice" = true)
    (z_g_law_roll : PySem.W.nsIn K mainGlobals "_law_roll" = some (some (.ref f_law_roll)))
    (k_law_roll : PySem.W.keepIn K (.ref f_law_roll) = true)
    (l_law_roll : K.lookup f_law_roll = some ⟨oc_law_roll, od_law_roll, .func (PySem.W.fnOf "_law_roll" "_law_roll" (defArgs s_law_roll) (defBody s_law_roll) (defScope s_law_roll) .none kV_law_roll dc_law_roll pm_law_roll an_law_roll cd_law_roll ct_law_roll), sl_law_roll⟩)
    (c_law_roll : PySem.W.codeIn K cd_law_roll "_law_roll" = true)
    (z_g_law_rounds : PySem.W.nsIn K mainGlobals "_law_rounds" = some (some (.ref f_law_rounds)))
    (k_law_rounds : PySem.W.keepIn K (.ref f_law_rounds) = true)
    (l_law_rounds : K.lookup f_law_rounds = some ⟨oc_law_rounds, od_law_rounds, .func (PySem.W.fnOf "_law_rounds" "_law_rounds" (defArgs s_law_rounds) (defBody s_law_rounds) (defScope s_law_rounds) .none kV_law_rounds dc_law_rounds pm_law_rounds an_law_rounds cd_law_rounds ct_law_rounds), sl_law_rounds⟩)
    (c_law_rounds : PySem.W.codeIn K cd_law_rounds "_law_rounds" = true)
    (z_g_law_told : PySem.W.nsIn K mainGlobals "_law_told" = some (some (.ref f_law_told)))
    (k_law_told : PySem.W.keepIn K (.ref f_law_told) = true)
    (l_law_told : K.lookup f_law_told = some ⟨oc_law_told, od_law_told, .func (PySem.W.fnOf "_law_told" "_law_told" (defArgs s_law_told) (defBody s_law_told) (defScope s_law_told) .none kV_law_told dc_law_told pm_law_told an_law_told cd_law_told ct_law_told), sl_law_told⟩)
    (c_law_told : PySem.W.codeIn K cd_law_told "_law_told" = true)
    (z_g_law_schema : PySem.W.nsIn K mainGlobals "_law_schema" = some (some (.ref f_law_schema)))
    (k_law_schema : PySem.W.keepIn K (.ref f_law_schema) = true)
    (l_law_schema : K.lookup f_law_schema = some ⟨oc_law_schema, od_law_schema, .func (PySem.W.fnOf "_law_schema" "_law_schema" (defArgs s_law_schema) (defBody s_law_schema) (defScope s_law_schema) .none kV_law_schema dc_law_schema pm_law_schema an_law_schema cd_law_schema ct_law_schema), sl_law_schema⟩)
    (c_law_schema : PySem.W.codeIn K cd_law_schema "_law_schema" = true)
    (z_g_law_reads : PySem.W.nsIn K mainGlobals "_law_reads" = some (some (.ref f_law_reads)))
    (k_law_reads : PySem.W.keepIn K (.ref f_law_reads) = true)
    (l_law_reads : K.lookup f_law_reads = some ⟨oc_law_reads, od_law_reads, .func (PySem.W.fnOf "_law_reads" "_law_reads" (defArgs s_law_reads) (defBody s_law_reads) (defScope s_law_reads) .none kV_law_reads dc_law_reads pm_law_reads an_law_reads cd_law_reads ct_law_reads), sl_law_reads⟩)
    (c_law_reads : PySem.W.codeIn K cd_law_reads "_law_reads" = true)
    (z_g_law_fits : PySem.W.nsIn K mainGlobals "_law_fits" = some (some (.ref f_law_fits)))
    (k_law_fits : PySem.W.keepIn K (.ref f_law_fits) = true)
    (l_law_fits : K.lookup f_law_fits = some ⟨oc_law_fits, od_law_fits, .func (PySem.W.fnOf "_law_fits" "_law_fits" (defArgs s_law_fits) (defBody s_law_fits) (defScope s_law_fits) .none kV_law_fits dc_law_fits pm_law_fits an_law_fits cd_law_fits ct_law_fits), sl_law_fits⟩)
    (c_law_fits : PySem.W.codeIn K cd_law_fits "_law_fits" = true)
    (z_law : PySem.W.nsIn K mainGlobals "law" = some (some (.ref f_law)))
    (l_law : K.lookup f_law = some ⟨oc_law, od_law, .func (PySem.W.fnOf "law" "law" (defArgs s_law) (defBody s_law) (defScope s_law) .none kV_law dc_law pm_law an_law (.ref ca_law) ct_law), sl_law⟩)
    (c_law : PySem.W.codeIn K (.ref ca_law) "law" = true)
    (kp_f_law : PySem.W.keepIn K (.ref f_law) = true)
    (hcd_law : PySem.W.codeHdIn K ca_law P_law = true)
    (hnP_law : K.lookup P_law = none)
    (hcd_kind_of : PySem.W.codeHdIn K ca_kind_of P_kind_of = true)
    (hnP_kind_of : K.lookup P_kind_of = none)
    (hcd_Shape_init : PySem.W.codeHdIn K ca_Shape_init P_Shape_init = true)
    (hnP_Shape_init : K.lookup P_Shape_init = none)
    (hcd_Shape_kinds : PySem.W.codeHdIn K ca_Shape_kinds P_Shape_kinds = true)
    (hnP_Shape_kinds : K.lookup P_Shape_kinds = none)
    (hcd_Shape_check_row : PySem.W.codeHdIn K ca_Shape_check_row P_Shape_check_row = true)
    (hnP_Shape_check_row : K.lookup P_Shape_check_row = none)
    (hcd_Schema_init : PySem.W.codeHdIn K ca_Schema_init P_Schema_init = true)
    (hnP_Schema_init : K.lookup P_Schema_init = none)
    (hcd_Schema_reads : PySem.W.codeHdIn K ca_Schema_reads P_Schema_reads = true)
    (hnP_Schema_reads : K.lookup P_Schema_reads = none)
    (hcd_Schema_row_from : PySem.W.codeHdIn K ca_Schema_row_from P_Schema_row_from = true)
    (hnP_Schema_row_from : K.lookup P_Schema_row_from = none)
    (hcd_Registry_fits : PySem.W.codeHdIn K ca_Registry_fits P_Registry_fits = true)
    (hnP_Registry_fits : K.lookup P_Registry_fits = none)
    (hnd : ([P_law, P_kind_of, P_Shape_init, P_Shape_kinds, P_Shape_check_row, P_Schema_init, P_Schema_reads, P_Schema_row_from, P_Registry_fits] : List Addr).Nodup)
    : LamX.LawAtS l w K (L2.CX l.prog w) 24 63 "script" mg fa h := by
  have e : f_law = fa := by
    have z := hfa.symm.trans (PySem.W.mg_of X G z_law)
    cases z
    rfl
  subst e
  have F_kind_of := fun_mk (st := s_kind_of) l_kind_of c_kind_of k_kind_of
  have F_Shape_init := fun_mk (st := s_Shape_init) l_Shape_init c_Shape_init kp_f_Shape_init
  have F_Shape_kinds := fun_mk (st := s_Shape_kinds) l_Shape_kinds c_Shape_kinds kp_f_Shape_kinds
  have F_Shape_check_row := fun_mk (st := s_Shape_check_row) l_Shape_check_row c_Shape_check_row kp_f_Shape_check_row
  have D_Schema_init := fd_mk (st := s_Schema_init) (dvs := [.ref tt_Schema_init_0]) l_Schema_init c_Schema_init kp_f_Schema_init lt_Schema_init (.cons rfl .nil) (by simp)
  have F_Schema_reads := fun_mk (st := s_Schema_reads) l_Schema_reads c_Schema_reads kp_f_Schema_reads
  have F_Schema_row_from := fun_mk (st := s_Schema_row_from) l_Schema_row_from c_Schema_row_from kp_f_Schema_row_from
  have F_Registry_init := fun_mk (st := s_Registry_init) l_Registry_init c_Registry_init kp_f_Registry_init
  have F_Registry_put_rule := fun_mk (st := s_Registry_put_rule) l_Registry_put_rule c_Registry_put_rule kp_f_Registry_put_rule
  have F_Registry_fits := fun_mk (st := s_Registry_fits) l_Registry_fits c_Registry_fits kp_f_Registry_fits
  have F_Registry_add := fun_mk (st := s_Registry_add) l_Registry_add c_Registry_add kp_f_Registry_add
  have F_Registry_read := fun_mk (st := s_Registry_read) l_Registry_read c_Registry_read kp_f_Registry_read
  have F_law_dice := fun_mk (st := s_law_dice) l_law_dice c_law_dice k_law_dice
  have F_law_roll := fun_mk (st := s_law_roll) l_law_roll c_law_roll k_law_roll
  have F_law_rounds := fun_mk (st := s_law_rounds) l_law_rounds c_law_rounds k_law_rounds
  have F_law_told := fun_mk (st := s_law_told) l_law_told c_law_told k_law_told
  have F_law_schema := fun_mk (st := s_law_schema) l_law_schema c_law_schema k_law_schema
  have F_law_reads := fun_mk (st := s_law_reads) l_law_reads c_law_reads k_law_reads
  have F_law_fits := fun_mk (st := s_law_fits) l_law_fits c_law_fits k_law_fits
  have F_law := fun_mk (st := s_law) l_law c_law kp_f_law
  have B_kind_of := F_kind_of.binds (ps := ["value"]) fun _ _ _ _ _ _ us hl => match us, hl with | [_], _ => rfl
  have B_Shape_init := F_Shape_init.binds (ps := ["self", "columns"]) fun _ _ _ _ _ _ us hl => match us, hl with | [_, _], _ => rfl
  have B_Shape_kinds := F_Shape_kinds.binds (ps := ["self"]) fun _ _ _ _ _ _ us hl => match us, hl with | [_], _ => rfl
  have B_Shape_check_row := F_Shape_check_row.binds (ps := ["self", "row"]) fun _ _ _ _ _ _ us hl => match us, hl with | [_, _], _ => rfl
  have B_Schema_init := b_full (D_Schema_init.binds1 (ps := ["self", "columns", "lacking"]) 3 1 (by simp) rfl fun _ _ _ _ _ _ _ us its hl hi => match us, its, hl, hi with | [_, _, _], [_], _, _ => ⟨_, rfl, rfl⟩)
  obtain ⟨ds_dd_Schema_init_1, v_dd_Schema_init_1, b_dd_Schema_init_1⟩ := D_Schema_init.binds1 (ps := ["self", "columns", "lacking"]) 2 0 (by simp) rfl fun _ _ _ _ _ _ _ us its hl hi => match us, its, hl, hi with | [_, _], [_], _, _ => ⟨_, rfl, rfl⟩
  have B_Schema_reads := F_Schema_reads.binds (ps := ["self", "other"]) fun _ _ _ _ _ _ us hl => match us, hl with | [_, _], _ => rfl
  have B_Schema_row_from := F_Schema_row_from.binds (ps := ["self", "other", "row"]) fun _ _ _ _ _ _ us hl => match us, hl with | [_, _, _], _ => rfl
  have B_Registry_init := F_Registry_init.binds (ps := ["self"]) fun _ _ _ _ _ _ us hl => match us, hl with | [_], _ => rfl
  have B_Registry_put_rule := F_Registry_put_rule.binds (ps := ["self", "subject", "rule"]) fun _ _ _ _ _ _ us hl => match us, hl with | [_, _, _], _ => rfl
  have B_Registry_fits := F_Registry_fits.binds (ps := ["self", "subject", "schema"]) fun _ _ _ _ _ _ us hl => match us, hl with | [_, _, _], _ => rfl
  have B_Registry_add := F_Registry_add.binds (ps := ["self", "subject", "schema"]) fun _ _ _ _ _ _ us hl => match us, hl with | [_, _, _], _ => rfl
  have B_Registry_read := F_Registry_read.binds (ps := ["self", "subject", "number", "row", "wanted"]) fun _ _ _ _ _ _ us hl => match us, hl with | [_, _, _, _, _], _ => rfl
  have B_law_dice := F_law_dice.binds (ps := ["cell"]) fun _ _ _ _ _ _ us hl => match us, hl with | [_], _ => rfl
  have B_law_roll := F_law_roll.binds (ps := ["dice", "many"]) fun _ _ _ _ _ _ us hl => match us, hl with | [_, _], _ => rfl
  have B_law_rounds := F_law_rounds.binds (ps := ["script", "most"]) fun _ _ _ _ _ _ us hl => match us, hl with | [_, _], _ => rfl
  have B_law_told := F_law_told.binds (ps := ["what"]) fun _ _ _ _ _ _ us hl => match us, hl with | [_], _ => rfl
  have B_law_schema := F_law_schema.binds (ps := ["dice"]) fun _ _ _ _ _ _ us hl => match us, hl with | [_], _ => rfl
  have B_law_reads := F_law_reads.binds (ps := ["one", "other"]) fun _ _ _ _ _ _ us hl => match us, hl with | [_, _], _ => rfl
  have B_law_fits := F_law_fits.binds (ps := ["rule", "rows", "fresh"]) fun _ _ _ _ _ _ us hl => match us, hl with | [_, _, _], _ => rfl
  have B_law := F_law.binds (ps := ["script"]) fun _ _ _ _ _ _ us hl => match us, hl with | [_], _ => rfl
  let a : Ad := { Registry := Registry, RowError := RowError, Schema := Schema, Shape := Shape, f_kind_of := f_kind_of, d_kind_of := PySem.W.fnOf "kind_of" "kind_of" (defArgs s_kind_of) (defBody s_kind_of) (defScope s_kind_of) .none kV_kind_of dc_kind_of pm_kind_of an_kind_of (.ref ca_kind_of) ct_kind_of, f_Shape_init := f_Shape_init, d_Shape_init := PySem.W.fnOf "__init__" "Shape.__init__" (defArgs s_Shape_init) (defBody s_Shape_init) (defScope s_Shape_init) .none kV_Shape_init dc_Shape_init pm_Shape_init an_Shape_init (.ref ca_Shape_init) ct_Shape_init, f_Shape_kinds := f_Shape_kinds, d_Shape_kinds := PySem.W.fnOf "kinds" "Shape.kinds" (defArgs s_Shape_kinds) (defBody s_Shape_kinds) (defScope s_Shape_kinds) .none kV_Shape_kinds dc_Shape_kinds pm_Shape_kinds an_Shape_kinds (.ref ca_Shape_kinds) ct_Shape_kinds, f_Shape_check_row := f_Shape_check_row, d_Shape_check_row := PySem.W.fnOf "check_row" "Shape.check_row" (defArgs s_Shape_check_row) (defBody s_Shape_check_row) (defScope s_Shape_check_row) .none kV_Shape_check_row dc_Shape_check_row pm_Shape_check_row an_Shape_check_row (.ref ca_Shape_check_row) ct_Shape_check_row, f_Schema_init := f_Schema_init, d_Schema_init := PySem.W.fnOf "__init__" "Schema.__init__" (defArgs s_Schema_init) (defBody s_Schema_init) (defScope s_Schema_init) (.ref dt_Schema_init) kV_Schema_init dc_Schema_init pm_Schema_init an_Schema_init (.ref ca_Schema_init) ct_Schema_init, f_Schema_reads := f_Schema_reads, d_Schema_reads := PySem.W.fnOf "reads" "Schema.reads" (defArgs s_Schema_reads) (defBody s_Schema_reads) (defScope s_Schema_reads) .none kV_Schema_reads dc_Schema_reads pm_Schema_reads an_Schema_reads (.ref ca_Schema_reads) ct_Schema_reads, f_Schema_row_from := f_Schema_row_from, d_Schema_row_from := PySem.W.fnOf "row_from" "Schema.row_from" (defArgs s_Schema_row_from) (defBody s_Schema_row_from) (defScope s_Schema_row_from) .none kV_Schema_row_from dc_Schema_row_from pm_Schema_row_from an_Schema_row_from (.ref ca_Schema_row_from) ct_Schema_row_from, f_Registry_init := f_Registry_init, d_Registry_init := PySem.W.fnOf "__init__" "Registry.__init__" (defArgs s_Registry_init) (defBody s_Registry_init) (defScope s_Registry_init) .none kV_Registry_init dc_Registry_init pm_Registry_init an_Registry_init cd_Registry_init ct_Registry_init, f_Registry_put_rule := f_Registry_put_rule, d_Registry_put_rule := PySem.W.fnOf "put_rule" "Registry.put_rule" (defArgs s_Registry_put_rule) (defBody s_Registry_put_rule) (defScope s_Registry_put_rule) .none kV_Registry_put_rule dc_Registry_put_rule pm_Registry_put_rule an_Registry_put_rule cd_Registry_put_rule ct_Registry_put_rule, f_Registry_fits := f_Registry_fits, d_Registry_fits := PySem.W.fnOf "fits" "Registry.fits" (defArgs s_Registry_fits) (defBody s_Registry_fits) (defScope s_Registry_fits) .none kV_Registry_fits dc_Registry_fits pm_Registry_fits an_Registry_fits (.ref ca_Registry_fits) ct_Registry_fits, f_Registry_add := f_Registry_add, d_Registry_add := PySem.W.fnOf "add" "Registry.add" (defArgs s_Registry_add) (defBody s_Registry_add) (defScope s_Registry_add) .none kV_Registry_add dc_Registry_add pm_Registry_add an_Registry_add cd_Registry_add ct_Registry_add, f_Registry_read := f_Registry_read, d_Registry_read := PySem.W.fnOf "read" "Registry.read" (defArgs s_Registry_read) (defBody s_Registry_read) (defScope s_Registry_read) .none kV_Registry_read dc_Registry_read pm_Registry_read an_Registry_read cd_Registry_read ct_Registry_read, f_law_dice := f_law_dice, d_law_dice := PySem.W.fnOf "_law_dice" "_law_dice" (defArgs s_law_dice) (defBody s_law_dice) (defScope s_law_dice) .none kV_law_dice dc_law_dice pm_law_dice an_law_dice cd_law_dice ct_law_dice, f_law_roll := f_law_roll, d_law_roll := PySem.W.fnOf "_law_roll" "_law_roll" (defArgs s_law_roll) (defBody s_law_roll) (defScope s_law_roll) .none kV_law_roll dc_law_roll pm_law_roll an_law_roll cd_law_roll ct_law_roll, f_law_rounds := f_law_rounds, d_law_rounds := PySem.W.fnOf "_law_rounds" "_law_rounds" (defArgs s_law_rounds) (defBody s_law_rounds) (defScope s_law_rounds) .none kV_law_rounds dc_law_rounds pm_law_rounds an_law_rounds cd_law_rounds ct_law_rounds, f_law_told := f_law_told, d_law_told := PySem.W.fnOf "_law_told" "_law_told" (defArgs s_law_told) (defBody s_law_told) (defScope s_law_told) .none kV_law_told dc_law_told pm_law_told an_law_told cd_law_told ct_law_told, f_law_schema := f_law_schema, d_law_schema := PySem.W.fnOf "_law_schema" "_law_schema" (defArgs s_law_schema) (defBody s_law_schema) (defScope s_law_schema) .none kV_law_schema dc_law_schema pm_law_schema an_law_schema cd_law_schema ct_law_schema, f_law_reads := f_law_reads, d_law_reads := PySem.W.fnOf "_law_reads" "_law_reads" (defArgs s_law_reads) (defBody s_law_reads) (defScope s_law_reads) .none kV_law_reads dc_law_reads pm_law_reads an_law_reads cd_law_reads ct_law_reads, f_law_fits := f_law_fits, d_law_fits := PySem.W.fnOf "_law_fits" "_law_fits" (defArgs s_law_fits) (defBody s_law_fits) (defScope s_law_fits) .none kV_law_fits dc_law_fits pm_law_fits an_law_fits cd_law_fits ct_law_fits, f_law := f_law, d_law := PySem.W.fnOf "law" "law" (defArgs s_law) (defBody s_law) (defScope s_law) .none kV_law dc_law pm_law an_law (.ref ca_law) ct_law }
  have T : Tx K mg a := {
    n_abs := PySem.W.mg_none_of X G z_n_abs,
    n_all := PySem.W.mg_none_of X G z_n_all,
    n_any := PySem.W.mg_none_of X G z_n_any,
    n_bool := PySem.W.mg_none_of X G z_n_bool,
    n_dict := PySem.W.mg_none_of X G z_n_dict,
    n_enumerate := PySem.W.mg_none_of X G z_n_enumerate,
    n_int := PySem.W.mg_none_of X G z_n_int,
    n_isinstance := PySem.W.mg_none_of X G z_n_isinstance,
    n_len := PySem.W.mg_none_of X G z_n_len,
    n_range := PySem.W.mg_none_of X G z_n_range,
    n_str := PySem.W.mg_none_of X G z_n_str,
    n_tuple := PySem.W.mg_none_of X G z_n_tuple,
    n_zip := PySem.W.mg_none_of X G z_n_zip,
    cg_KINDS := ⟨.ref kt_KINDS, _, PySem.W.mg_of X G z_cg_KINDS, rfl, fun Γ H G => tuK_of (vs := [.str "int", .str "text"]) lk_KINDS (by show 2 ≤ sizeLine; decide) (.cons ⟨_, rfl⟩ (.cons ⟨_, rfl⟩ .nil)) ⟨_, _, rfl, rfl, ⟨_, _, rfl, rfl, rfl⟩⟩⟩,
    cg_LETTERS := ⟨.str z_LETTERS, _, PySem.W.mg_of X G z_cg_LETTERS, ⟨_, rfl⟩, fun _ _ _ => rfl⟩,
    cg_MOST_COLUMNS := ⟨.int 20, _, PySem.W.mg_of X G z_cg_MOST_COLUMNS, ⟨_, rfl⟩, fun _ _ _ => rfl⟩,
    g_Registry := PySem.W.mg_of X G z_g_Registry,
    c_Registry := ⟨pg_Registry, hd_Registry, po_Registry, sa_Registry⟩,
    mk_Registry := ⟨mk_Registry, at_f_Registry_init, fn_f_Registry_init, kp_Registry⟩,
    na_Registry_schemas := na_Registry_schemas,
    na_Registry_rules := na_Registry_rules,
    m_Registry_put_rule := ⟨at_f_Registry_put_rule, fn_f_Registry_put_rule, kp_f_Registry_put_rule⟩,
    m_Registry_fits := ⟨at_f_Registry_fits, fn_f_Registry_fits, kp_f_Registry_fits⟩,
    m_Registry_add := ⟨at_f_Registry_add, fn_f_Registry_add, kp_f_Registry_add⟩,
    m_Registry_read := ⟨at_f_Registry_read, fn_f_Registry_read, kp_f_Registry_read⟩,
    g_RowError := PySem.W.mg_of X G z_g_RowError,
    x_RowError := x_RowError,
    kc_RowError := kc_RowError,
    xb_RowError := xb_RowError,
    xt_RowError := xt_RowError,
    xm_RowError := exm_self xb_RowError ic_RowError xt_RowError ss_RowError,
    g_Schema := PySem.W.mg_of X G z_g_Schema,
    c_Schema := ⟨pg_Schema, hd_Schema, po_Schema, sa_Schema⟩,
    mk_Schema := ⟨mk_Schema, at_f_Schema_init, fn_f_Schema_init, kp_Schema⟩,
    na_Schema_shape := na_Schema_shape,
    na_Schema_lacking := na_Schema_lacking,
    m_Schema_reads := ⟨at_f_Schema_reads, fn_f_Schema_reads, kp_f_Schema_reads⟩,
    m_Schema_row_from := ⟨at_f_Schema_row_from, fn_f_Schema_row_from, kp_f_Schema_row_from⟩,
    g_Shape := PySem.W.mg_of X G z_g_Shape,
    c_Shape := ⟨pg_Shape, hd_Shape, po_Shape, sa_Shape⟩,
    mk_Shape := ⟨mk_Shape, at_f_Shape_init, fn_f_Shape_init, kp_Shape⟩,
    na_Shape_columns := na_Shape_columns,
    m_Shape_kinds := ⟨at_f_Shape_kinds, fn_f_Shape_kinds, kp_f_Shape_kinds⟩,
    m_Shape_check_row := ⟨at_f_Shape_check_row, fn_f_Shape_check_row, kp_f_Shape_check_row⟩,
    b_kind_of := B_kind_of,
    g_kind_of := PySem.W.mg_of X G z_g_kind_of,
    k_kind_of := k_kind_of,
    u_kind_of := F_kind_of,
    b_Shape_init := B_Shape_init,
    u_Shape_init := F_Shape_init,
    b_Shape_kinds := B_Shape_kinds,
    u_Shape_kinds := F_Shape_kinds,
    b_Shape_check_row := B_Shape_check_row,
    u_Shape_check_row := F_Shape_check_row,
    b_Schema_init := B_Schema_init,
    dd_Schema_init_1 := ⟨_, ds_dd_Schema_init_1, fun Γ H G => ⟨_, _, rfl, tuK_nil ltt_Schema_init_0, rfl⟩, v_dd_Schema_init_1, b_dd_Schema_init_1⟩,
    u_Schema_init := D_Schema_init.a,
    b_Schema_reads := B_Schema_reads,
    u_Schema_reads := F_Schema_reads,
    b_Schema_row_from := B_Schema_row_from,
    u_Schema_row_from := F_Schema_row_from,
    b_Registry_init := B_Registry_init,
    u_Registry_init := F_Registry_init,
    b_Registry_put_rule := B_Registry_put_rule,
    u_Registry_put_rule := F_Registry_put_rule,
    b_Registry_fits := B_Registry_fits,
    u_Registry_fits := F_Registry_fits,
    b_Registry_add := B_Registry_add,
    u_Registry_add := F_Registry_add,
    b_Registry_read := B_Registry_read,
    u_Registry_read := F_Registry_read,
    b_law_dice := B_law_dice,
    g_law_dice := PySem.W.mg_of X G z_g_law_dice,
    k_law_dice := k_law_dice,
    u_law_dice := F_law_dice,
    b_law_roll := B_law_roll,
    g_law_roll := PySem.W.mg_of X G z_g_law_roll,
    k_law_roll := k_law_roll,
    u_law_roll := F_law_roll,
    b_law_rounds := B_law_rounds,
    g_law_rounds := PySem.W.mg_of X G z_g_law_rounds,
    k_law_rounds := k_law_rounds,
    u_law_rounds := F_law_rounds,
    b_law_told := B_law_told,
    g_law_told := PySem.W.mg_of X G z_g_law_told,
    k_law_told := k_law_told,
    u_law_told := F_law_told,
    b_law_schema := B_law_schema,
    g_law_schema := PySem.W.mg_of X G z_g_law_schema,
    k_law_schema := k_law_schema,
    u_law_schema := F_law_schema,
    b_law_reads := B_law_reads,
    g_law_reads := PySem.W.mg_of X G z_g_law_reads,
    k_law_reads := k_law_reads,
    u_law_reads := F_law_reads,
    b_law_fits := B_law_fits,
    g_law_fits := PySem.W.mg_of X G z_g_law_fits,
    k_law_fits := k_law_fits,
    u_law_fits := F_law_fits,
    b_law := B_law,
    u_law := F_law }
  exact law_at T rfl (List.forall_mem_cons.mpr ⟨⟨PySem.W.codeHd_of_K X hcd_law, hnP_law, hP _ (.head _)⟩, (List.forall_mem_cons.mpr ⟨⟨PySem.W.codeHd_of_K X hcd_kind_of, hnP_kind_of, hP _ (.tail _ (.head _))⟩, (List.forall_mem_cons.mpr ⟨⟨PySem.W.codeHd_of_K X hcd_Shape_init, hnP_Shape_init, hP _ (.tail _ (.tail _ (.head _)))⟩, (List.forall_mem_cons.mpr ⟨⟨PySem.W.codeHd_of_K X hcd_Shape_kinds, hnP_Shape_kinds, hP _ (.tail _ (.tail _ (.tail _ (.head _))))⟩, (List.forall_mem_cons.mpr ⟨⟨PySem.W.codeHd_of_K X hcd_Shape_check_row, hnP_Shape_check_row, hP _ (.tail _ (.tail _ (.tail _ (.tail _ (.head _)))))⟩, (List.forall_mem_cons.mpr ⟨⟨PySem.W.codeHd_of_K X hcd_Schema_init, hnP_Schema_init, hP _ (.tail _ (.tail _ (.tail _ (.tail _ (.tail _ (.head _))))))⟩, (List.forall_mem_cons.mpr ⟨⟨PySem.W.codeHd_of_K X hcd_Schema_reads, hnP_Schema_reads, hP _ (.tail _ (.tail _ (.tail _ (.tail _ (.tail _ (.tail _ (.head _)))))))⟩, (List.forall_mem_cons.mpr ⟨⟨PySem.W.codeHd_of_K X hcd_Schema_row_from, hnP_Schema_row_from, hP _ (.tail _ (.tail _ (.tail _ (.tail _ (.tail _ (.tail _ (.tail _ (.head _))))))))⟩, (List.forall_mem_cons.mpr ⟨⟨PySem.W.codeHd_of_K X hcd_Registry_fits, hnP_Registry_fits, hP _ (.tail _ (.tail _ (.tail _ (.tail _ (.tail _ (.tail _ (.tail _ (.tail _ (.head _)))))))))⟩, (fun _ z => by cases z)⟩)⟩)⟩)⟩)⟩)⟩)⟩)⟩)⟩) hnd rfl rfl rfl rfl rfl rfl rfl rfl rfl fun s v => .of_eq rfl
end K10
local macro_rules | `(tactic| o_head ($f $k $a $e $t)) => do
  match t with
  | `($p :: []) => `(tactic| o_head ($f $k $a $e ($p :: 49 :: 63 :: 75 :: 82 :: 105 :: 112 :: 119 :: 152 :: [])))
  | _ => Lean.Macro.throwUnsupported

open PySem PySem.W PyProof.Rows in
set_option maxRecDepth 100000 in
set_option maxHeartbeats 0 in
theorem PySem.Challenge.cw_streamstack_k10_rows_of_other_shapes_holds : PySem.Challenge.rw_streamstack_k10_rows_of_other_shapes.Holds := by
  w_on; o_law; k_head; (case hw => w_witness2)
  k_fill
  refine LamX.walk_ofTs (l := PySem.Challenge.rw_streamstack_k10_rows_of_other_shapes) (n := 63) (k := 24) (CX := fun w => L2.CX PySem.Challenge.rw_streamstack_k10_rows_of_other_shapes.prog w) (x := "script") rfl (by decide) rfl ⟨rfl, by decide, by decide⟩ (fun w h Y => PySem.W.km_in_of Y) ?F (fun w H s e s' z => let ⟨_, _, _, _, _, _, _, _, _, _, _, _, q⟩ := z; q)
  case F =>
    intro w mg fa h Y KX G hmg
    refine' K10.all_mk KX G hmg (PySem.W.km_tabs_of Y) ?z_n_abs ?z_n_all ?z_n_any ?z_n_bool ?z_n_dict ?z_n_enumerate ?z_n_int ?z_n_isinstance ?z_n_len ?z_n_range ?z_n_str ?z_n_tuple ?z_n_zip ?z_cg_KINDS ?lk_KINDS ?z_cg_LETTERS ?z_cg_MOST_COLUMNS ?z_g_Registry ?pg_Registry ?hd_Registry ?po_Registry ?sa_Registry ?mk_Registry ?at_f_Registry_init ?fn_f_Registry_init ?kp_Registry ?na_Registry_schemas ?na_Registry_rules ?at_f_Registry_put_rule ?fn_f_Registry_put_rule ?kp_f_Registry_put_rule ?at_f_Registry_fits ?fn_f_Registry_fits ?kp_f_Registry_fits ?at_f_Registry_add ?fn_f_Registry_add ?kp_f_Registry_add ?at_f_Registry_read ?fn_f_Registry_read ?kp_f_Registry_read ?z_g_RowError ?x_RowError ?kc_RowError ?xb_RowError ?xt_RowError ?ic_RowError ?ss_RowError ?z_g_Schema ?pg_Schema ?hd_Schema ?po_Schema ?sa_Schema ?mk_Schema ?at_f_Schema_init ?fn_f_Schema_init ?kp_Schema ?na_Schema_shape ?na_Schema_lacking ?at_f_Schema_reads ?fn_f_Schema_reads ?kp_f_Schema_reads ?at_f_Schema_row_from ?fn_f_Schema_row_from ?kp_f_Schema_row_from ?z_g_Shape ?pg_Shape ?hd_Shape ?po_Shape ?sa_Shape ?mk_Shape ?at_f_Shape_init ?fn_f_Shape_init ?kp_Shape ?na_Shape_columns ?at_f_Shape_kinds ?fn_f_Shape_kinds ?kp_f_Shape_kinds ?at_f_Shape_check_row ?fn_f_Shape_check_row ?kp_f_Shape_check_row ?z_g_kind_of ?k_kind_of ?l_kind_of ?c_kind_of ?l_Shape_init ?c_Shape_init ?kp_f_Shape_init ?l_Shape_kinds ?c_Shape_kinds ?l_Shape_check_row ?c_Shape_check_row ?l_Schema_init ?c_Schema_init ?kp_f_Schema_init ?lt_Schema_init ?ltt_Schema_init_0 ?l_Schema_reads ?c_Schema_reads ?l_Schema_row_from ?c_Schema_row_from ?l_Registry_init ?c_Registry_init ?kp_f_Registry_init ?l_Registry_put_rule ?c_Registry_put_rule ?l_Registry_fits ?c_Registry_fits ?l_Registry_add ?c_Registry_add ?l_Registry_read ?c_Registry_read ?z_g_law_dice ?k_law_dice ?l_law_dice ?c_law_dice ?z_g_law_roll ?k_law_roll ?l_law_roll ?c_law_roll ?z_g_law_rounds ?k_law_rounds ?l_law_rounds ?c_law_rounds ?z_g_law_told ?k_law_told ?l_law_told ?c_law_told ?z_g_law_schema ?k_law_schema ?l_law_schema ?c_law_schema ?z_g_law_reads ?k_law_reads ?l_law_reads ?c_law_reads ?z_g_law_fits ?k_law_fits ?l_law_fits ?c_law_fits ?z_law ?l_law ?c_law ?kp_f_law ?hcd_law ?hnP_law ?hcd_kind_of ?hnP_kind_of ?hcd_Shape_init ?hnP_Shape_init ?hcd_Shape_kinds ?hnP_Shape_kinds ?hcd_Shape_check_row ?hnP_Shape_check_row ?hcd_Schema_init ?hnP_Schema_init ?hcd_Schema_reads ?hnP_Schema_reads ?hcd_Schema_row_from ?hnP_Schema_row_from ?hcd_Registry_fits ?hnP_Registry_fits ?hnd
    (case z_n_abs => k_is)
    (case z_n_all => k_is)
    (case z_n_any => k_is)
    (case z_n_bool => k_is)
    (case z_n_dict => k_is)
    (case z_n_enumerate => k_is)
    (case z_n_int => k_is)
    (case z_n_isinstance => k_is)
    (case z_n_len => k_is)
    (case z_n_range => k_is)
    (case z_n_str => k_is)
    (case z_n_tuple => k_is)
    (case z_n_zip => k_is)
    (case z_cg_KINDS => k_is)
    (case lk_KINDS => k_is)
    (case z_cg_LETTERS => k_is)
    (case z_cg_MOST_COLUMNS => k_is)
    (case z_g_Registry => k_is)
    (case pg_Registry => k_is)
    (case hd_Registry => k_is)
    (case po_Registry => k_is)
    (case sa_Registry => k_is)
    (case mk_Registry => k_is)
    (case at_f_Registry_init => k_is)
    (case fn_f_Registry_init => k_is)
    (case kp_Registry => k_is)
    (case na_Registry_schemas => k_is)
    (case na_Registry_rules => k_is)
    (case at_f_Registry_put_rule => k_is)
    (case fn_f_Registry_put_rule => k_is)
    (case kp_f_Registry_put_rule => k_is)
    (case at_f_Registry_fits => k_is)
    (case fn_f_Registry_fits => k_is)
    (case kp_f_Registry_fits => k_is)
    (case at_f_Registry_add => k_is)
    (case fn_f_Registry_add => k_is)
    (case kp_f_Registry_add => k_is)
    (case at_f_Registry_read => k_is)
    (case fn_f_Registry_read => k_is)
    (case kp_f_Registry_read => k_is)
    (case z_g_RowError => k_is)
    (case x_RowError => first | k_exc | kernel_rfl)
    (case kc_RowError => k_is)
    (case xb_RowError => k_is)
    (case xt_RowError => k_is)
    (case ic_RowError => k_is)
    (case ss_RowError => first | rfl | k_is)
    (case z_g_Schema => k_is)
    (case pg_Schema => k_is)
    (case hd_Schema => k_is)
    (case po_Schema => k_is)
    (case sa_Schema => k_is)
    (case mk_Schema => k_is)
    (case at_f_Schema_init => k_is)
    (case fn_f_Schema_init => k_is)
    (case kp_Schema => k_is)
    (case na_Schema_shape => k_is)
    (case na_Schema_lacking => k_is)
    (case at_f_Schema_reads => k_is)
    (case fn_f_Schema_reads => k_is)
    (case kp_f_Schema_reads => k_is)
    (case at_f_Schema_row_from => k_is)
    (case fn_f_Schema_row_from => k_is)
    (case kp_f_Schema_row_from => k_is)
    (case z_g_Shape => k_is)
    (case pg_Shape => k_is)
    (case hd_Shape => k_is)
    (case po_Shape => k_is)
    (case sa_Shape => k_is)
    (case mk_Shape => k_is)
    (case at_f_Shape_init => k_is)
    (case fn_f_Shape_init => k_is)
    (case kp_Shape => k_is)
    (case na_Shape_columns => k_is)
    (case at_f_Shape_kinds => k_is)
    (case fn_f_Shape_kinds => k_is)
    (case kp_f_Shape_kinds => k_is)
    (case at_f_Shape_check_row => k_is)
    (case fn_f_Shape_check_row => k_is)
    (case kp_f_Shape_check_row => k_is)
    (case z_g_kind_of => k_is)
    (case k_kind_of => k_is)
    (case l_kind_of => k_is)
    (case c_kind_of => k_is)
    (case l_Shape_init => k_is)
    (case c_Shape_init => k_is)
    (case kp_f_Shape_init => k_is)
    (case l_Shape_kinds => k_is)
    (case c_Shape_kinds => k_is)
    (case l_Shape_check_row => k_is)
    (case c_Shape_check_row => k_is)
    (case l_Schema_init => k_is)
    (case c_Schema_init => k_is)
    (case kp_f_Schema_init => k_is)
    (case lt_Schema_init => k_is)
    (case ltt_Schema_init_0 => k_is)
    (case l_Schema_reads => k_is)
    (case c_Schema_reads => k_is)
    (case l_Schema_row_from => k_is)
    (case c_Schema_row_from => k_is)
    (case l_Registry_init => k_is)
    (case c_Registry_init => k_is)
    (case kp_f_Registry_init => k_is)
    (case l_Registry_put_rule => k_is)
    (case c_Registry_put_rule => k_is)
    (case l_Registry_fits => k_is)
    (case c_Registry_fits => k_is)
    (case l_Registry_add => k_is)
    (case c_Registry_add => k_is)
    (case l_Registry_read => k_is)
    (case c_Registry_read => k_is)
    (case z_g_law_dice => k_is)
    (case k_law_dice => k_is)
    (case l_law_dice => k_is)
    (case c_law_dice => k_is)
    (case z_g_law_roll => k_is)
    (case k_law_roll => k_is)
    (case l_law_roll => k_is)
    (case c_law_roll => k_is)
    (case z_g_law_rounds => k_is)
    (case k_law_rounds => k_is)
    (case l_law_rounds => k_is)
    (case c_law_rounds => k_is)
    (case z_g_law_told => k_is)
    (case k_law_told => k_is)
    (case l_law_told => k_is)
    (case c_law_told => k_is)
    (case z_g_law_schema => k_is)
    (case k_law_schema => k_is)
    (case l_law_schema => k_is)
    (case c_law_schema => k_is)
    (case z_g_law_reads => k_is)
    (case k_law_reads => k_is)
    (case l_law_reads => k_is)
    (case c_law_reads => k_is)
    (case z_g_law_fits => k_is)
    (case k_law_fits => k_is)
    (case l_law_fits => k_is)
    (case c_law_fits => k_is)
    (case z_law => k_is)
    (case l_law => k_is)
    (case c_law => k_is)
    (case kp_f_law => k_is)
    (case hcd_law => first | kernel_rfl | rfl | decide +kernel)
    (case hnP_law => first | kernel_rfl | rfl | decide +kernel)
    (case hcd_kind_of => first | kernel_rfl | rfl | decide +kernel)
    (case hnP_kind_of => first | kernel_rfl | rfl | decide +kernel)
    (case hcd_Shape_init => first | kernel_rfl | rfl | decide +kernel)
    (case hnP_Shape_init => first | kernel_rfl | rfl | decide +kernel)
    (case hcd_Shape_kinds => first | kernel_rfl | rfl | decide +kernel)
    (case hnP_Shape_kinds => first | kernel_rfl | rfl | decide +kernel)
    (case hcd_Shape_check_row => first | kernel_rfl | rfl | decide +kernel)
    (case hnP_Shape_check_row => first | kernel_rfl | rfl | decide +kernel)
    (case hcd_Schema_init => first | kernel_rfl | rfl | decide +kernel)
    (case hnP_Schema_init => first | kernel_rfl | rfl | decide +kernel)
    (case hcd_Schema_reads => first | kernel_rfl | rfl | decide +kernel)
    (case hnP_Schema_reads => first | kernel_rfl | rfl | decide +kernel)
    (case hcd_Schema_row_from => first | kernel_rfl | rfl | decide +kernel)
    (case hnP_Schema_row_from => first | kernel_rfl | rfl | decide +kernel)
    (case hcd_Registry_fits => first | kernel_rfl | rfl | decide +kernel)
    (case hnP_Registry_fits => first | kernel_rfl | rfl | decide +kernel)
    (case hnd => first | kernel_rfl | rfl | decide +kernel)
