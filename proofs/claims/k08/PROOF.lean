import PyProof.Rows.All
import Wide.All
import OpenK.AllK
import Wide.FinOn
import HandS.ForMost
import HandS.ForExc
import HandS.Lambda
import HandS.EndTab
import HandS.DictComp
import HandS.Deep
import HandS.SortInts
import HandS.SortRule
import HandS.TupAny
import HandS.Small
import HandS.DictTup
import HandS.Style
import HandS.WordsDict
import PySem.Challenge.RW_streamstack_k08_times_and_windows
set_option Elab.async false
set_option linter.all false
set_option maxRecDepth 100000
set_option maxHeartbeats 4000000
set_option autoImplicit false
/-! L3, part a: data by value, the owned heap, what a step keeps. -/
namespace L3
open PySem L2

/-- then, with what is there -/
@[simp] def onS {α : Type} : Option α → (α → Prop) → Prop
  | some a, k => k a
  | none, _ => False
theorem onS_iff {α : Type} {o : Option α} {k : α → Prop} : onS o k ↔ ∃ a, o = some a ∧ k a := by
  cases o <;> simp [onS]
@[simp] def noS {α : Type} : Option α → Prop
  | some _ => False
  | none => True
theorem noS_iff {α : Type} {o : Option α} : noS o ↔ o = none := by
  cases o <;> simp [noS]
inductive Tag where
  | tup | lst | ro | tuK
  | dK (ks : List Key) | dT (ks : List (List Key))
  | obj (C : Addr) (ns : List Str)

inductive D where
  | non | bl (b : Bool) | int (i : Int) | str (x : Str) | ref (a : Addr) | clo (i : Nat)
  | nod (t : Tag) (xs : List D)

abbrev D.tup (xs : List D) : D := .nod .tup xs
abbrev D.lst (xs : List D) : D := .nod .lst xs
abbrev D.dK (kvs : List (Key × D)) : D := .nod (.dK (kvs.map (·.1))) (kvs.map (·.2))
abbrev D.dT (kvs : List (List Key × D)) : D := .nod (.dT (kvs.map (·.1))) (kvs.map (·.2))
abbrev D.obj (C : Addr) (fs : List (Str × D)) : D := .nod (.obj C (fs.map (·.1))) (fs.map (·.2))

/-- what is owned: it may still be changed -/
inductive GO where
  | lst (xs : List D)
  | dK (kvs : List (Key × D)) | dT (kvs : List (List Key × D))
  | ins (C : Addr) (fs : List (Str × D))
  /-- a dict while it is walked; a thing that is hidden -/
  | lkK (kvs : List (Key × D)) | lkT (kvs : List (List Key × D))
  | hid

/-- it may be written -/
def GO.wr : GO → Bool
  | .lkK _ => false
  | .lkT _ => false
  | .hid => false
  | _ => true
/-- it is walked -/
def GO.lk : GO → Bool
  | .lkK _ => true
  | .lkT _ => true
  | _ => false
theorem GO.wr_lk {g : GO} (h : g.wr = true) (h2 : g.lk = true) : False := by cases g <;> first | (cases h; done) | (cases h2; done)

abbrev Gp := Addr → Option GO
def gset (G : Gp) (a : Addr) (o : GO) : Gp := fun b => if b = a then some o else G b
def gdel (G : Gp) (a : Addr) : Gp := fun b => if b = a then none else G b
theorem gset_same {G : Gp} {a : Addr} {o : GO} : gset G a o a = some o := if_pos rfl
theorem gset_ne {G : Gp} {a b : Addr} {o : GO} (h : b ≠ a) : gset G a o b = G b := if_neg h
theorem gdel_same {G : Gp} {a : Addr} : gdel G a a = none := if_pos rfl
theorem gdel_ne {G : Gp} {a b : Addr} (h : b ≠ a) : gdel G a b = G b := if_neg h

/-- what is to be seen -/
def vis (G : Gp) : Gp := fun a => match G a with | some .hid => none | o => o
theorem vis_some {G : Gp} {a : Addr} {g : GO} (h : vis G a = some g) : G a = some g := by
  unfold vis at h
  split at h
  · cases h
  · exact h
theorem vis_none {G : Gp} {a : Addr} (h : G a = none) : vis G a = none := by
  unfold vis; rw [h]
theorem vis_gset {G : Gp} {a : Addr} {o : GO} (h : o ≠ .hid) : vis (gset G a o) = gset (vis G) a o := by
  funext b
  unfold vis gset
  by_cases e : b = a
  · rw [if_pos e, if_pos e]; cases o <;> first | rfl | exact absurd rfl h
  · rw [if_neg e, if_neg e]
theorem vis_gdel {G : Gp} {a : Addr} : vis (gdel G a) = gdel (vis G) a := by
  funext b
  unfold vis gdel
  by_cases e : b = a
  · rw [if_pos e, if_pos e]
  · rw [if_neg e, if_neg e]
theorem vis_hide {G : Gp} {a : Addr} (h : G a = none) : vis (gset G a .hid) = vis G := by
  funext b
  unfold vis gset
  by_cases e : b = a
  · rw [if_pos e, e, h]
  · rw [if_neg e]
/-- the visible part is replaced -/
def ovl (G G' : Gp) : Gp := fun a => match G a with | some .hid => some .hid | _ => G' a
theorem vis_ovl {G G' : Gp} (h : ∀ a, G a = some .hid → G' a = none) (h2 : ∀ a, G' a ≠ some .hid) : vis (ovl G G') = G' := by
  funext a
  unfold vis ovl
  split
  · rename_i e
    split at e
    · rename_i e2; exact (h a e2).symm
    · exact absurd e (h2 a)
  · rename_i e
    split
    · rename_i e2
      rw [e2] at e
      exact absurd rfl e
    · rfl

/-- the things that are fixed: tables of code objects; what stands at a closure -/
structure Gm where
  T : List (Addr × Str)
  clo : Nat → Addr → Addr → HO
  cq : Nat → Str

def NoTbl (o : HO) : Prop := ∀ ps, o ≠ .tbl ps
section
variable (K : PySem.W.Frag) (Γ : Gm) (H : Hp) (G : Gp)
def TagAt : Tag → Addr → List V → Prop
  | .tup, a, vs => H a = some (.tup vs)
  | .tuK, a, vs => SqT K (fun _ => none) a vs
  | .lst, a, vs => G a = none ∧ H a = some (.lst vs)
  | .ro, a, vs => (G a = none ∧ Rd H a (.lst vs)) ∨ SqL K (fun _ => none) a vs
  | .dK ks, a, vs => G a = none ∧ ks.length = vs.length ∧ Rd H a (.dK (ks.zip vs))
  | .dT ks, a, vs => G a = none ∧ ks.length = vs.length ∧ Rd H a (.dT (ks.zip vs))
  | .obj C ns, a, vs => G a = none ∧ ns.length = vs.length ∧ ∃ dx, H a = some (.ins C dx (ns.zip vs))
mutual
def Dat : D → V → Prop
  | .non, v => v = .non
  | .bl b, v => v = .bl b
  | .int i, v => v = .int i
  | .str x, v => v = .str x
  | .ref a, v => v = .ref a
  | .clo i, v => ∃ f c, v = .ref f ∧ G f = none ∧ G c = none ∧ H f = some (Γ.clo i f c) ∧ H c = some (LamX.CodeO c (Γ.cq i)) ∧ ∃ φ, Γ.clo i f c = .ext φ
  | .nod t xs, v => ∃ a vs, v = .ref a ∧ TagAt K H G t a vs ∧ DatL xs vs
def DatL : List D → List V → Prop
  | [], vs => vs = []
  | d :: ds, vs => ∃ v r, vs = v :: r ∧ Dat d v ∧ DatL ds r
end
/-- pairs with the same keys -/
abbrev DatF {κ : Type} : List (κ × D) → List (κ × V) → Prop := Paired fun (p : κ × D) (q : κ × V) => p.1 = q.1 ∧ Dat K Γ H G p.2 q.2
def GOk (a : Addr) : GO → Prop
  | .lst ds => ∃ vs, H a = some (.lst vs) ∧ DatL K Γ H G ds vs
  | .dK kvs => ∃ vs, H a = some (.dK vs) ∧ DatF K Γ H G kvs vs
  | .dT kvs => ∃ vs, H a = some (.dT vs) ∧ DatF K Γ H G kvs vs
  | .ins C fs => ∃ dx vs, H a = some (.ins C dx vs) ∧ DatF K Γ H G fs vs
  | .lkK kvs => ∃ o vs, H a = some (.frz o (.dK vs)) ∧ DatF K Γ H G kvs vs
  | .lkT kvs => ∃ o vs, H a = some (.frz o (.dT vs)) ∧ DatF K Γ H G kvs vs
  | .hid => ∃ o, H a = some o ∧ NoTbl o ∧ (∀ φ, o ≠ .ext φ)
structure HpR : Prop where
  own : ∀ a g, G a = some g → GOk K Γ H G a g
  tab : LamX.Tabs Γ.T H
end

/-- what is kept where hidden things may change: tuples, and all that is not owned -/
structure Step0 (K : PySem.W.Frag) (H : Hp) (G : Gp) (H' : Hp) (G' : Gp) : Prop where
  tup : ∀ b xs, H b = some (.tup xs) → H' b = some (.tup xs)
  frm : ∀ a o, H a = some o → G a = none → NoTbl o → H' a = some o
  hid : ∀ a, G a = some .hid → G' a = some .hid
  own : ∀ a o, H a = some o → G a = none → NoTbl o → G' a = none ∧ ∃ o', H' a = some o'
  lck : ∀ a g, G a = some g → g.lk = true → G' a = some g ∧ ∀ o, H a = some o → H' a = some o
/-- what a step keeps -/
structure Step (K : PySem.W.Frag) (H : Hp) (G : Gp) (H' : Hp) (G' : Gp) : Prop extends Step0 K H G H' G' where
  frh : ∀ a o, H a = some o → G a = some .hid → NoTbl o → H' a = some o

section
variable {K : PySem.W.Frag} {Γ : Gm} {H H' H1 H2 : Hp} {G G' G1 G2 : Gp}
theorem Step0.refl : Step0 K H G H G := ⟨fun _ _ h => h, fun _ _ h _ _ => h, fun _ h => h, fun _ o h n _ => ⟨n, o, h⟩, fun _ _ h _ => ⟨h, fun _ e => e⟩⟩
theorem Step0.trans (a : Step0 K H G H1 G1) (b : Step0 K H1 G1 H2 G2) : Step0 K H G H2 G2 where
  tup := fun p xs h => b.tup p xs (a.tup p xs h)
  frm := fun p o h n nt => b.frm p o (a.frm p o h n nt) (a.own p o h n nt).1 nt
  hid := fun p h => b.hid p (a.hid p h)
  own := fun p o h n nt => b.own p o (a.frm p o h n nt) (a.own p o h n nt).1 nt
  lck := fun p g h l => by
    obtain ⟨h1, k1⟩ := a.lck p g h l
    obtain ⟨h2, k2⟩ := b.lck p g h1 l
    exact ⟨h2, fun o e => k2 o (k1 o e)⟩
theorem Step.refl : Step K H G H G := ⟨Step0.refl, fun _ _ h _ _ => h⟩
theorem Step.trans (a : Step K H G H1 G1) (b : Step K H1 G1 H2 G2) : Step K H G H2 G2 :=
  ⟨a.toStep0.trans b.toStep0, fun p o h n nt => b.frh p o (a.frh p o h n nt) (a.hid p n) nt⟩
theorem noTbl_lst {xs : List V} : NoTbl (.lst xs) := fun _ q => by cases q
theorem noTbl_dK {xs : List (Key × V)} : NoTbl (.dK xs) := fun _ q => by cases q
theorem noTbl_dT {xs : List (List Key × V)} : NoTbl (.dT xs) := fun _ q => by cases q
theorem noTbl_ins {C dx : Addr} {xs : List (Str × V)} : NoTbl (.ins C dx xs) := fun _ q => by cases q
theorem noTbl_tup {xs : List V} : NoTbl (.tup xs) := fun _ q => by cases q
theorem noTbl_frz {o : Obj} {u : HO} : NoTbl (.frz o u) := fun _ q => by cases q
structure StepD (K : PySem.W.Frag) (H : Hp) (G : Gp) (H' : Hp) (G' : Gp) : Prop where
  tup : ∀ b xs, H b = some (.tup xs) → H' b = some (.tup xs)
  frm : ∀ a o, H a = some o → G a = none → NoTbl o → H' a = some o
  own : ∀ a o, H a = some o → G a = none → NoTbl o → G' a = none ∧ ∃ o', H' a = some o'
theorem Step0.d (s : Step0 K H G H' G') : StepD K H G H' G' := ⟨s.tup, s.frm, s.own⟩
theorem StepD.rd (s : StepD K H G H' G') {a : Addr} {u : HO} (n : G a = none) (hu : NoTbl u) (h : Rd H a u) : G' a = none ∧ Rd H' a u := by
  rcases h with h | ⟨o, h⟩
  · exact ⟨(s.own a _ h n hu).1, .inl (s.frm a _ h n hu)⟩
  · exact ⟨(s.own a _ h n noTbl_frz).1, .inr ⟨o, s.frm a _ h n noTbl_frz⟩⟩
theorem TagAt.monoD (s : StepD K H G H' G') {a : Addr} {vs : List V} : ∀ {t : Tag}, TagAt K H G t a vs → TagAt K H' G' t a vs
  | .tup, h => s.tup _ _ h
  | .tuK, h => h
  | .lst, h => ⟨(s.own a _ h.2 h.1 noTbl_lst).1, s.frm a _ h.2 h.1 noTbl_lst⟩
  | .ro, h => by
    rcases h with h | h
    · exact .inl (s.rd h.1 noTbl_lst h.2)
    · exact .inr h
  | .dK ks, h => ⟨(s.rd h.1 noTbl_dK h.2.2).1, h.2.1, (s.rd h.1 noTbl_dK h.2.2).2⟩
  | .dT ks, h => ⟨(s.rd h.1 noTbl_dT h.2.2).1, h.2.1, (s.rd h.1 noTbl_dT h.2.2).2⟩
  | .obj C ns, h => by
    obtain ⟨n, l, dx, e⟩ := h
    exact ⟨(s.own a _ e n noTbl_ins).1, l, dx, s.frm a _ e n noTbl_ins⟩
mutual
theorem Dat.monoD (s : StepD K H G H' G') : ∀ {d : D} {v : V}, Dat K Γ H G d v → Dat K Γ H' G' d v
  | .non, _, h => h
  | .bl _, _, h => h
  | .int _, _, h => h
  | .str _, _, h => h
  | .ref _, _, h => h
  | .clo i, v, h => by
    obtain ⟨f, c, e, n, n2, hf, hc, nt⟩ := h
    have t1 : NoTbl (Γ.clo i f c) := fun ps z => by obtain ⟨φ, q⟩ := nt; rw [q] at z; cases z
    have t2 : NoTbl (LamX.CodeO c (Γ.cq i)) := fun ps z => by unfold LamX.CodeO at z; cases z
    exact ⟨f, c, e, (s.own f _ hf n t1).1, (s.own c _ hc n2 t2).1, s.frm f _ hf n t1, s.frm c _ hc n2 t2, nt⟩
  | .nod t xs, v, h => by
    obtain ⟨a, vs, e, ht, hl⟩ := h
    exact ⟨a, vs, e, ht.monoD s, DatL.monoD s hl⟩
theorem DatL.monoD (s : StepD K H G H' G') : ∀ {ds : List D} {vs : List V}, DatL K Γ H G ds vs → DatL K Γ H' G' ds vs
  | [], _, h => h
  | d :: ds, vs, h => by
    obtain ⟨v, r, e, h1, h2⟩ := h
    exact ⟨v, r, e, Dat.monoD s h1, DatL.monoD s h2⟩
end
theorem TagAt.mono0 (s : Step0 K H G H' G') {a : Addr} {vs : List V} {t : Tag} (h : TagAt K H G t a vs) : TagAt K H' G' t a vs := h.monoD s.d
theorem Dat.mono0 (s : Step0 K H G H' G') {d : D} {v : V} (h : Dat K Γ H G d v) : Dat K Γ H' G' d v := h.monoD s.d
theorem DatL.mono0 (s : Step0 K H G H' G') {ds : List D} {vs : List V} (h : DatL K Γ H G ds vs) : DatL K Γ H' G' ds vs := h.monoD s.d
theorem DatF.monoD {κ : Type} (s : StepD K H G H' G') {fs : List (κ × D)} {vs : List (κ × V)} (h : DatF K Γ H G fs vs) : DatF K Γ H' G' fs vs := Paired.mapP h fun _ _ q => ⟨q.1, q.2.monoD s⟩
theorem Dat.mono (s : Step K H G H' G') {d : D} {v : V} (h : Dat K Γ H G d v) : Dat K Γ H' G' d v := h.mono0 s.toStep0
theorem DatL.mono (s : Step K H G H' G') {ds : List D} {vs : List V} (h : DatL K Γ H G ds vs) : DatL K Γ H' G' ds vs := h.mono0 s.toStep0
theorem DatF.mono0 {κ : Type} (s : Step0 K H G H' G') {fs : List (κ × D)} {vs : List (κ × V)} (h : DatF K Γ H G fs vs) : DatF K Γ H' G' fs vs := Paired.mapP h fun _ _ q => ⟨q.1, q.2.mono0 s⟩
theorem DatF.mono {κ : Type} (s : Step K H G H' G') {fs : List (κ × D)} {vs : List (κ × V)} (h : DatF K Γ H G fs vs) : DatF K Γ H' G' fs vs := Paired.mapP h fun _ _ q => ⟨q.1, q.2.mono s⟩
theorem DatL.nil : DatL K Γ H G [] [] := rfl
theorem DatL.cons {d : D} {ds : List D} {v : V} {vs : List V} (h : Dat K Γ H G d v) (t : DatL K Γ H G ds vs) : DatL K Γ H G (d :: ds) (v :: vs) := ⟨v, vs, rfl, h, t⟩
theorem DatL.length : ∀ {ds : List D} {vs : List V}, DatL K Γ H G ds vs → ds.length = vs.length
  | [], _, h => by cases (show _ = _ from h); rfl
  | _ :: _, _, h => by
    obtain ⟨v, r, rfl, _, h2⟩ := h
    simp [DatL.length h2]
theorem DatL.append : ∀ {ds es : List D} {vs us : List V}, DatL K Γ H G ds vs → DatL K Γ H G es us → DatL K Γ H G (ds ++ es) (vs ++ us)
  | [], _, _, _, h, t => by cases (show _ = _ from h); exact t
  | _ :: _, _, _, _, h, t => by
    obtain ⟨v, r, rfl, h1, h2⟩ := h
    exact ⟨v, _, rfl, h1, DatL.append h2 t⟩
theorem DatL.get : ∀ {ds : List D} {vs : List V} {i : Nat} {d : D}, DatL K Γ H G ds vs → ds[i]? = some d → ∃ v, vs[i]? = some v ∧ Dat K Γ H G d v
  | [], _, _, _, _, e => by simp at e
  | _ :: _, _, 0, _, h, e => by
    obtain ⟨v, r, rfl, h1, _⟩ := h
    simp at e; subst e
    exact ⟨v, rfl, h1⟩
  | _ :: _, _, i + 1, _, h, e => by
    obtain ⟨v, r, rfl, _, h2⟩ := h
    obtain ⟨u, e1, r1⟩ := DatL.get (i := i) h2 (by simpa using e)
    exact ⟨u, by simpa using e1, r1⟩
theorem DatL.get' : ∀ {ds : List D} {vs : List V} {i : Nat} {v : V}, DatL K Γ H G ds vs → vs[i]? = some v → ∃ d, ds[i]? = some d ∧ Dat K Γ H G d v := fun {ds vs i v} h e => by
  have hl := h.length
  have hi : i < ds.length := by rw [hl]; exact (List.getElem?_eq_some_iff.mp e).1
  obtain ⟨u, e1, r1⟩ := h.get (i := i) (d := ds[i]) (List.getElem?_eq_getElem hi)
  rw [e] at e1; cases e1
  exact ⟨_, List.getElem?_eq_getElem hi, r1⟩
theorem DatL.set {d : D} {v : V} (r : Dat K Γ H G d v) : ∀ {ds : List D} {vs : List V} (i : Nat), DatL K Γ H G ds vs → DatL K Γ H G (ds.set i d) (vs.set i v)
  | [], _, _, h => by cases (show _ = _ from h); rfl
  | _ :: _, _, 0, h => by
    obtain ⟨u, w, rfl, _, h2⟩ := h
    exact ⟨v, w, rfl, r, h2⟩
  | _ :: _, _, i + 1, h => by
    obtain ⟨u, w, rfl, h1, h2⟩ := h
    exact ⟨u, _, rfl, h1, DatL.set r i h2⟩
theorem DatL.take : ∀ {ds : List D} {vs : List V} (n : Nat), DatL K Γ H G ds vs → DatL K Γ H G (ds.take n) (vs.take n)
  | _, _, 0, _ => rfl
  | [], _, _ + 1, h => by cases (show _ = _ from h); rfl
  | _ :: _, _, n + 1, h => by
    obtain ⟨u, w, rfl, h1, h2⟩ := h
    exact ⟨u, _, rfl, h1, DatL.take n h2⟩
theorem DatL.drop : ∀ {ds : List D} {vs : List V} (n : Nat), DatL K Γ H G ds vs → DatL K Γ H G (ds.drop n) (vs.drop n)
  | _, _, 0, h => h
  | [], _, _ + 1, h => by cases (show _ = _ from h); rfl
  | _ :: _, _, n + 1, h => by
    obtain ⟨u, w, rfl, h1, h2⟩ := h
    exact DatL.drop n h2
theorem DatL.reverse : ∀ {ds : List D} {vs : List V}, DatL K Γ H G ds vs → DatL K Γ H G ds.reverse vs.reverse
  | [], _, h => by cases (show _ = _ from h); rfl
  | _ :: _, _, h => by
    obtain ⟨u, w, rfl, h1, h2⟩ := h
    rw [List.reverse_cons, List.reverse_cons]
    exact (DatL.reverse h2).append (DatL.cons h1 DatL.nil)
theorem DatL.split {ds es : List D} : ∀ {vs : List V}, DatL K Γ H G (ds ++ es) vs → ∃ us ws, vs = us ++ ws ∧ DatL K Γ H G ds us ∧ DatL K Γ H G es ws := by
  induction ds with
  | nil => intro vs h; exact ⟨[], vs, rfl, rfl, h⟩
  | cons d ds ih =>
    intro vs h
    obtain ⟨v, r, rfl, h1, h2⟩ := h
    obtain ⟨us, ws, rfl, a, b⟩ := ih h2
    exact ⟨v :: us, ws, rfl, ⟨v, us, rfl, h1, a⟩, b⟩
theorem DatL.ints : ∀ {ns : List Int} {vs : List V}, DatL K Γ H G (ns.map D.int) vs → vs = ns.map V.int
  | [], _, h => h
  | _ :: _, _, h => by
    obtain ⟨v, r, rfl, h1, h2⟩ := h
    rw [DatL.ints h2, show v = _ from h1] <;> rfl
theorem DatL.of_ints : ∀ {ns : List Int}, DatL K Γ H G (ns.map D.int) (ns.map V.int)
  | [] => rfl
  | n :: ns => ⟨_, _, rfl, rfl, DatL.of_ints⟩
end

section
variable {K : PySem.W.Frag} {Γ : Gm} {H : Hp} {G : Gp} {κ : Type}
theorem DatF.of_zip : ∀ {ns : List κ} {ds : List D} {vs : List V}, DatL K Γ H G ds vs → DatF K Γ H G (ns.zip ds) (ns.zip vs)
  | [], _, _, _ => .nil
  | _ :: _, [], _, h => by cases (show _ = _ from h); exact .nil
  | n :: ns, d :: ds, _, h => by
    obtain ⟨v, r, rfl, h1, h2⟩ := h
    exact .cons ⟨rfl, h1⟩ (DatF.of_zip h2)
theorem DatF.snd : ∀ {fs : List (κ × D)} {vs : List (κ × V)}, DatF K Γ H G fs vs → DatL K Γ H G (fs.map (·.2)) (vs.map (·.2))
  | _, _, .nil => rfl
  | _, _, .cons r t => ⟨_, _, rfl, r.2, DatF.snd t⟩
theorem DatF.fst : ∀ {fs : List (κ × D)} {vs : List (κ × V)}, DatF K Γ H G fs vs → vs.map (·.1) = fs.map (·.1)
  | _, _, .nil => rfl
  | _, _, .cons r t => by rw [List.map_cons, List.map_cons, DatF.fst t, r.1]
theorem DatF.length : ∀ {fs : List (κ × D)} {vs : List (κ × V)}, DatF K Γ H G fs vs → fs.length = vs.length
  | _, _, .nil => rfl
  | _, _, .cons r t => by rw [List.length_cons, List.length_cons, DatF.length t]
theorem zip_self : ∀ {α β : Type} (l : List (α × β)), (l.map (·.1)).zip (l.map (·.2)) = l
  | _, _, [] => rfl
  | _, _, (a, b) :: l => by rw [List.map_cons, List.map_cons, List.zip_cons_cons, zip_self l]
theorem DatF.lookup {fs : List (Str × D)} {vs : List (Str × V)} (h : DatF K Γ H G fs vs) (f : Str) {d : D} (e : fs.lookup f = some d) : ∃ v, vs.lookup f = some v ∧ Dat K Γ H G d v := by
  induction h with
  | nil => cases e
  | cons r t ih =>
    rename_i p q l1 l2
    obtain ⟨n, d0⟩ := p
    obtain ⟨n', v0⟩ := q
    obtain ⟨r1, r2⟩ := r
    have r1 : n = n' := r1
    subst r1
    rw [List.lookup_cons] at e ⊢
    cases hb : f == n with
    | true => rw [hb] at e; cases e; exact ⟨v0, rfl, r2⟩
    | false => rw [hb] at e; exact ih e
theorem DatF.lookup_none {fs : List (Str × D)} {vs : List (Str × V)} (h : DatF K Γ H G fs vs) (f : Str) (e : fs.lookup f = none) : vs.lookup f = none := by
  induction h with
  | nil => rfl
  | cons r t ih =>
    rename_i p q l1 l2
    obtain ⟨n, d0⟩ := p
    obtain ⟨n', v0⟩ := q
    obtain ⟨r1, r2⟩ := r
    have r1 : n = n' := r1
    subst r1
    rw [List.lookup_cons] at e ⊢
    cases hb : f == n with
    | true => rw [hb] at e; cases e
    | false => rw [hb] at e; exact ih e
end
def putD (f : Str) (d : D) : List (Str × D) → List (Str × D)
  | [] => [(f, d)]
  | (g, e) :: r => if g = f then (g, d) :: r else (g, e) :: putD f d r
theorem DatF.put {K : PySem.W.Frag} {Γ : Gm} {H : Hp} {G : Gp} {f : Str} {d : D} {v : V} (r : Dat K Γ H G d v) : ∀ {fs : List (Str × D)} {vs : List (Str × V)}, DatF K Γ H G fs vs → DatF K Γ H G (putD f d fs) (putF f v vs)
  | _, _, .nil => .cons ⟨rfl, r⟩ .nil
  | (n, d0) :: l, (n', v0) :: l', .cons q t => by
    have e : n = n' := q.1
    subst e
    by_cases h : n = f
    · show DatF K Γ H G (if n = f then _ else _) (if n = f then _ else _)
      rw [if_pos h, if_pos h]
      exact .cons ⟨rfl, r⟩ t
    · show DatF K Γ H G (if n = f then _ else _) (if n = f then _ else _)
      rw [if_neg h, if_neg h]
      exact .cons q (DatF.put r t)

/-! ### what a new object, a change of an owned one are -/
section
variable {K : PySem.W.Frag} {Γ : Gm} {H H' : Hp} {G G' : Gp} {p : Addr} {o : HO} {g : GO}
theorem own_none (R : HpR K Γ H G) (hp : H p = none) : G p = none := by
  cases e : G p with
  | none => rfl
  | some g =>
    have q := R.own p g e
    cases g with
    | lst ds => obtain ⟨_, q, _⟩ := q; rw [hp] at q; cases q
    | dK ds => obtain ⟨_, q, _⟩ := q; rw [hp] at q; cases q
    | dT ds => obtain ⟨_, q, _⟩ := q; rw [hp] at q; cases q
    | ins C ds => obtain ⟨_, _, q, _⟩ := q; rw [hp] at q; cases q
    | lkK ds => obtain ⟨_, _, q, _⟩ := q; rw [hp] at q; cases q
    | lkT ds => obtain ⟨_, _, q, _⟩ := q; rw [hp] at q; cases q
    | hid => obtain ⟨_, q, _⟩ := q; rw [hp] at q; cases q
theorem own_at (R : HpR K Γ H G) (hp : G p = some g) (hw : g.wr = true) : ∃ o, H p = some o ∧ Mut (some o) ∧ NoTbl o ∧ (∀ xs, o ≠ .tup xs) ∧ ∀ o' u, o ≠ .frz o' u := by
  have q := R.own p g hp
  cases g with
  | lst ds => obtain ⟨_, q, _⟩ := q; exact ⟨_, q, trivial, noTbl_lst, fun _ z => (nomatch z), fun _ _ z => (nomatch z)⟩
  | dK ds => obtain ⟨_, q, _⟩ := q; exact ⟨_, q, trivial, noTbl_dK, fun _ z => (nomatch z), fun _ _ z => (nomatch z)⟩
  | dT ds => obtain ⟨_, q, _⟩ := q; exact ⟨_, q, trivial, noTbl_dT, fun _ z => (nomatch z), fun _ _ z => (nomatch z)⟩
  | ins C ds => obtain ⟨_, _, q, _⟩ := q; exact ⟨_, q, trivial, noTbl_ins, fun _ z => (nomatch z), fun _ _ z => (nomatch z)⟩
  | lkK ds => cases hw
  | lkT ds => cases hw
  | hid => cases hw
/-- a new object that nobody owns -/
theorem Step.new (hp : H p = none) : Step K H G (upd H p o) G where
  frh := fun a u h _ _ => by rw [upd_ne (ne_of_none h hp)]; exact h
  tup := fun b xs h => by rw [upd_ne (ne_of_none h hp)]; exact h
  frm := fun a u h _ _ => by rw [upd_ne (ne_of_none h hp)]; exact h
  hid := fun a h => h
  own := fun a u h n _ => ⟨n, u, by rw [upd_ne (ne_of_none h hp)]; exact h⟩
  lck := fun a g h _ => ⟨h, fun u e => by rw [upd_ne (ne_of_none e hp)]; exact e⟩
/-- a new object that is owned -/
theorem Step.newG (hp : H p = none) (hn : G p = none) : Step K H G (upd H p o) (gset G p g) where
  frh := fun a u h _ _ => by rw [upd_ne (ne_of_none h hp)]; exact h
  tup := fun b xs h => by rw [upd_ne (ne_of_none h hp)]; exact h
  frm := fun a u h _ _ => by rw [upd_ne (ne_of_none h hp)]; exact h
  hid := fun a h => by rw [gset_ne (fun e => by rw [e, hn] at h; cases h)]; exact h
  own := fun a u h n _ => ⟨by rw [gset_ne (ne_of_none h hp)]; exact n, u, by rw [upd_ne (ne_of_none h hp)]; exact h⟩
  lck := fun a g h _ => ⟨by rw [gset_ne (fun e => by rw [e, hn] at h; cases h)]; exact h, fun u e => by rw [upd_ne (ne_of_none e hp)]; exact e⟩
/-- an owned object changes -/
theorem Step.put (hp : H p = some o) (nt : ∀ xs, o ≠ .tup xs) (nf : ∀ o' u, o ≠ .frz o' u) (hg : G p = some g) (hw : g.wr = true) {o' : HO} {g' : GO} : Step K H G (upd H p o') (gset G p g') where
  tup := fun b xs h => by rw [upd_ne (fun e => nt xs (by subst e; rw [hp] at h; exact Option.some.inj h))]; exact h
  frm := fun a u h n _ => by
    have ne : a ≠ p := fun e => by subst e; rw [hg] at n; cases n
    rw [upd_ne ne]; exact h
  frh := fun a u h n _ => by
    have ne : a ≠ p := fun e => by subst e; rw [hg] at n; cases n; cases hw
    rw [upd_ne ne]; exact h
  hid := fun a n => by
    have ne : a ≠ p := fun e => by subst e; rw [hg] at n; cases n; cases hw
    rw [gset_ne ne]; exact n
  own := fun a u h n _ => by
    have ne : a ≠ p := fun e => by subst e; rw [hg] at n; cases n
    exact ⟨by rw [gset_ne ne]; exact n, u, by rw [upd_ne ne]; exact h⟩
  lck := fun a g' h l => by
    have ne : a ≠ p := fun e => by subst e; rw [hg] at h; cases h; exact GO.wr_lk hw l
    exact ⟨by rw [gset_ne ne]; exact h, fun u e => by rw [upd_ne ne]; exact e⟩
theorem tabs_upd {T : List (Addr × Str)} (t : LamX.Tabs T H) (h : H p = none ∨ ∃ o, H p = some o ∧ NoTbl o ∧ ∀ c q, o ≠ LamX.CodeO c q) : LamX.Tabs T (upd H p o) := by
  intro q hq
  obtain ⟨ps, h1, h2, h3⟩ := t q hq
  have ne : ∀ b u, H b = some u → (∃ ps, u = .tbl ps) ∨ (∃ c r, u = LamX.CodeO c r) → b ≠ p := fun b u e k z => by
    subst z
    rcases h with h | ⟨o1, h, n1, n2⟩
    · rw [e] at h; cases h
    · rw [e] at h; cases h
      rcases k with ⟨ps, k⟩ | ⟨c, r, k⟩
      · exact n1 _ k
      · exact n2 _ _ k
  refine ⟨ps, by rw [upd_ne (ne _ _ h1 (.inl ⟨_, rfl⟩))]; exact h1, h2, fun pos cv hc => ?_⟩
  obtain ⟨c, e1, e2⟩ := h3 pos cv hc
  exact ⟨c, e1, by rw [upd_ne (ne _ _ e2 (.inr ⟨_, _, rfl⟩))]; exact e2⟩
theorem GOk.monoD (s : StepD K H G H' G') {a : Addr} (keep : ∀ o, H a = some o → H' a = some o) : ∀ {g : GO}, GOk K Γ H G a g → GOk K Γ H' G' a g
  | .lst ds, h => by obtain ⟨vs, e, l⟩ := h; exact ⟨vs, keep _ e, l.monoD s⟩
  | .dK ds, h => by obtain ⟨vs, e, l⟩ := h; exact ⟨vs, keep _ e, l.monoD s⟩
  | .dT ds, h => by obtain ⟨vs, e, l⟩ := h; exact ⟨vs, keep _ e, l.monoD s⟩
  | .ins C ds, h => by obtain ⟨dx, vs, e, l⟩ := h; exact ⟨dx, vs, keep _ e, l.monoD s⟩
  | .lkK ds, h => by obtain ⟨dx, vs, e, l⟩ := h; exact ⟨dx, vs, keep _ e, l.monoD s⟩
  | .lkT ds, h => by obtain ⟨dx, vs, e, l⟩ := h; exact ⟨dx, vs, keep _ e, l.monoD s⟩
  | .hid, h => by obtain ⟨o, e, n⟩ := h; exact ⟨o, keep _ e, n⟩
theorem GOk.mono0 (s : Step0 K H G H' G') {a : Addr} (keep : ∀ o, H a = some o → H' a = some o) {g : GO} (h : GOk K Γ H G a g) : GOk K Γ H' G' a g := h.monoD s.d keep
theorem GOk.mono (s : Step K H G H' G') {a : Addr} (keep : ∀ o, H a = some o → H' a = some o) {g : GO} (h : GOk K Γ H G a g) : GOk K Γ H' G' a g := h.mono0 s.toStep0 keep
theorem HpR.new (R : HpR K Γ H G) (hp : H p = none) : HpR K Γ (upd H p o) G where
  own := fun a g e => (R.own a g e).mono (Step.new hp) fun u h => by rw [upd_ne (ne_of_none h hp)]; exact h
  tab := tabs_upd R.tab (.inl hp)
theorem HpR.newG (R : HpR K Γ H G) (hp : H p = none) (ok : GOk K Γ (upd H p o) (gset G p g) p g) : HpR K Γ (upd H p o) (gset G p g) where
  own := fun a u e => by
    by_cases ha : a = p
    · subst ha; rw [gset_same] at e; cases e; exact ok
    · rw [gset_ne ha] at e
      exact (R.own a u e).mono (Step.newG hp (own_none R hp)) fun u h => by rw [upd_ne ha]; exact h
  tab := tabs_upd R.tab (.inl hp)
theorem codeO_no : ∀ {o : HO}, (∀ φ, o ≠ .ext φ) → ∀ c q, o ≠ LamX.CodeO c q := fun h c q z => h _ z
theorem own_noext (R : HpR K Γ H G) (hp : G p = some g) (hw : g.wr = true) (ho : H p = some o) : ∀ φ, o ≠ .ext φ := by
  have q := R.own p g hp
  intro φ z
  subst z
  cases g with
  | lst ds => obtain ⟨_, q, _⟩ := q; rw [ho] at q; cases q
  | dK ds => obtain ⟨_, q, _⟩ := q; rw [ho] at q; cases q
  | dT ds => obtain ⟨_, q, _⟩ := q; rw [ho] at q; cases q
  | ins C ds => obtain ⟨_, _, q, _⟩ := q; rw [ho] at q; cases q
  | lkK ds => cases hw
  | lkT ds => cases hw
  | hid => cases hw
theorem HpR.put (R : HpR K Γ H G) (hg : G p = some g) (hw : g.wr = true) {o' : HO} {g' : GO} (ok : Step K H G (upd H p o') (gset G p g') → GOk K Γ (upd H p o') (gset G p g') p g') :
    Step K H G (upd H p o') (gset G p g') ∧ HpR K Γ (upd H p o') (gset G p g') := by
  obtain ⟨o, ho, mu, nt, n1, n2⟩ := own_at R hg hw
  have st : Step K H G (upd H p o') (gset G p g') := Step.put ho n1 n2 hg hw
  refine ⟨st, ⟨fun a u e => ?_, tabs_upd R.tab (.inr ⟨o, ho, nt, codeO_no (own_noext R hg hw ho)⟩)⟩⟩
  by_cases ha : a = p
  · subst ha; rw [gset_same] at e; cases e; exact ok st
  · rw [gset_ne ha] at e
    exact (R.own a u e).mono st fun u h => by rw [upd_ne ha]; exact h
end
end L3
/-! L3, part b: judgements; names, constants, operators, tests. -/
namespace L3
open PySem L2

abbrev St3 := List (Option D)
@[simp] def slot : St3 → Nat → Option D
  | [], _ => none
  | x :: _, 0 => x
  | _ :: xs, n + 1 => slot xs n
theorem slot_get : ∀ {δ : St3} {i : Nat} {d : D}, slot δ i = some d → δ[i]? = some (some d)
  | x :: _, 0, _, h => by simpa [slot] using h
  | _ :: xs, n + 1, _, h => by simpa using slot_get (δ := xs) h
structure Rel (K : PySem.W.Frag) (Γ : Gm) (δ : St3) (G : Gp) (σ : L2.St) (H : Hp) : Prop where
  len : δ.length = σ.length
  get : ∀ (i : Nat) (d : D), δ[i]? = some (some d) → ∃ v, σ[i]? = some (some v) ∧ Dat K Γ H G d v
  hp : HpR K Γ H G
abbrev K3 := D → Gp → Prop
abbrev X3 := Value → Gp → Prop
abbrev TE3 := St3 → Gp → K3 → X3 → Prop
abbrev TT3 := St3 → Gp → (Bool → Gp → Prop) → X3 → Prop
abbrev TA3 := St3 → Gp → (List D → Gp → Prop) → X3 → Prop
abbrev TG3 := D → St3 → Gp → (St3 → Gp → Prop) → X3 → Prop
abbrev TGs3 := List D → St3 → Gp → (St3 → Gp → Prop) → X3 → Prop
structure Ends3 where
  nx : St3 → Gp → Prop
  rt : K3
  bk : St3 → Gp → Prop := fun _ _ => False
  ct : St3 → Gp → Prop := fun _ _ => False
  ex : Value → St3 → Gp → Prop := fun _ _ _ => False
abbrev TS3 := Ends3 → St3 → Gp → Prop

section
variable (K : PySem.W.Frag) (Γ : Gm) (W : WX)
def lift (T : TE3) : TE := fun σ H Q => ∃ δ G Q3 E3, Rel K Γ δ G σ H ∧ T δ (vis G) Q3 E3 ∧
  (∀ d v G' H', Step K H G H' G' → HpR K Γ H' G' → Dat K Γ H' G' d v → Q3 d (vis G') → Q v H') ∧ ∀ cls G' H', Step K H G H' G' → HpR K Γ H' G' → E3 cls (vis G') → W cls none σ H'
def liftT (T : TT3) : TT := fun σ H Q => ∃ δ G Q3 E3, Rel K Γ δ G σ H ∧ T δ (vis G) Q3 E3 ∧
  (∀ b G' H', Step K H G H' G' → HpR K Γ H' G' → Q3 b (vis G') → Q b H') ∧ ∀ cls G' H', Step K H G H' G' → HpR K Γ H' G' → E3 cls (vis G') → W cls none σ H'
def liftA (T : TA3) : TA := fun σ H Q => ∃ δ G Q3 E3, Rel K Γ δ G σ H ∧ T δ (vis G) Q3 E3 ∧
  (∀ ds vs G' H', Step K H G H' G' → HpR K Γ H' G' → DatL K Γ H' G' ds vs → Q3 ds (vis G') → Q vs H') ∧ ∀ cls G' H', Step K H G H' G' → HpR K Γ H' G' → E3 cls (vis G') → W cls none σ H'
def liftG (T : TG3) : TG := fun v σ H Q => ∃ d δ G Q3 E3, Rel K Γ δ G σ H ∧ Dat K Γ H G d v ∧ T d δ (vis G) Q3 E3 ∧
  (∀ δ' G' σ' H', Step K H G H' G' → Rel K Γ δ' G' σ' H' → Q3 δ' (vis G') → Q σ' H') ∧ ∀ cls G' H', Step K H G H' G' → HpR K Γ H' G' → E3 cls (vis G') → W cls none σ H'
def liftGs (T : TGs3) : TGs := fun vs σ H Q => ∃ ds δ G Q3 E3, Rel K Γ δ G σ H ∧ DatL K Γ H G ds vs ∧ T ds δ (vis G) Q3 E3 ∧
  (∀ δ' G' σ' H', Step K H G H' G' → Rel K Γ δ' G' σ' H' → Q3 δ' (vis G') → Q σ' H') ∧ ∀ cls G' H', Step K H G H' G' → HpR K Γ H' G' → E3 cls (vis G') → W cls none σ H'
structure KeepS (H : Hp) (G : Gp) (D3 : Ends3) (D : Ends) : Prop where
  nx : ∀ δ' G' σ' H', Step K H G H' G' → Rel K Γ δ' G' σ' H' → D3.nx δ' (vis G') → D.nx σ' H'
  rt : ∀ d v G' H', Step K H G H' G' → HpR K Γ H' G' → Dat K Γ H' G' d v → D3.rt d (vis G') → D.rt v H'
  bk : ∀ δ' G' σ' H', Step K H G H' G' → Rel K Γ δ' G' σ' H' → D3.bk δ' (vis G') → D.bk σ' H'
  ct : ∀ δ' G' σ' H', Step K H G H' G' → Rel K Γ δ' G' σ' H' → D3.ct δ' (vis G') → D.ct σ' H'
  ex : ∀ cls δ' G' σ' H', Step K H G H' G' → Rel K Γ δ' G' σ' H' → D3.ex cls δ' (vis G') → W cls none σ' H'
def liftS (T : TS3) : TS := fun D σ H => ∃ δ G D3, Rel K Γ δ G σ H ∧ T D3 δ (vis G) ∧ KeepS K Γ W H G D3 D
end
abbrev PE3 (X : Cx) (Γ : Gm) (W : WX) (e : Expr) (T : TE3) : Prop := PE X e (lift X.K Γ W T)
abbrev PT3 (X : Cx) (Γ : Gm) (W : WX) (e : Expr) (T : TT3) : Prop := PT X e (liftT X.K Γ W T)
abbrev PTs3 (X : Cx) (Γ : Gm) (W : WX) (e : List Expr) (T : TT3) : Prop := PTs X e (liftT X.K Γ W T)
abbrev PA3 (X : Cx) (Γ : Gm) (W : WX) (es : List Expr) (T : TA3) : Prop := PA X es (liftA X.K Γ W T)
abbrev PG3 (X : Cx) (Γ : Gm) (W : WX) (e : Expr) (T : TG3) : Prop := PG X e (liftG X.K Γ W T)
abbrev PGs3 (X : Cx) (Γ : Gm) (W : WX) (es : List Expr) (T : TGs3) : Prop := PGs X es (liftGs X.K Γ W T)
abbrev PS3 (X : Cx) (Γ : Gm) (W : WX) (st : Stmt) (T : TS3) : Prop := PS X st (liftS X.K Γ W T)
abbrev PSs3 (X : Cx) (Γ : Gm) (W : WX) (st : List Stmt) (T : TS3) : Prop := PSs X st (liftS X.K Γ W T)

section
variable {X : Cx} {e : Expr}
theorem pe_imp {t t' : TE} (h : PE X e t) (f : ∀ σ H Q, t' σ H Q → t σ H Q) : PE X e t' := ⟨fun pins s σ H Q I hw => h.run pins s σ H Q I (f _ _ _ hw)⟩
theorem pt_imp {t t' : TT} (h : PT X e t) (f : ∀ σ H Q, t' σ H Q → t σ H Q) : PT X e t' := ⟨fun pins s σ H Q I hw => h.run pins s σ H Q I (f _ _ _ hw)⟩
theorem pw_imp {t t' : TT} (h : PW X e t) (f : ∀ σ H Q, t' σ H Q → t σ H Q) : PW X e t' := ⟨fun wh pins s σ H Q I hw => h.run wh pins s σ H Q I (f _ _ _ hw)⟩
theorem pts_imp {es : List Expr} {t t' : TT} (h : PTs X es t) (f : ∀ σ H Q, t' σ H Q → t σ H Q) : PTs X es t' := ⟨fun pins s σ H Q I hw => h.run pins s σ H Q I (f _ _ _ hw)⟩
theorem pa_imp {es : List Expr} {t t' : TA} (h : PA X es t) (f : ∀ σ H Q, t' σ H Q → t σ H Q) : PA X es t' := ⟨fun pos pins s σ H Q I hw => h.run pos pins s σ H Q I (f _ _ _ hw)⟩
theorem pg_imp {t t' : TG} (h : PG X e t) (f : ∀ v σ H Q, t' v σ H Q → t v σ H Q) : PG X e t' := ⟨fun pins s σ H v u Q I r hw => h.run pins s σ H v u Q I r (f _ _ _ _ hw)⟩
theorem pgs_imp {es : List Expr} {t t' : TGs} (h : PGs X es t) (f : ∀ v σ H Q, t' v σ H Q → t v σ H Q) : PGs X es t' := ⟨fun pins s σ H v u Q I r hw => h.run pins s σ H v u Q I r (f _ _ _ _ hw)⟩
theorem ps_imp {st : Stmt} {t t' : TS} (h : PS X st t) (f : ∀ D σ H, t' D σ H → t D σ H) : PS X st t' := ⟨fun pins s σ H D I hw => h.run pins s σ H D I (f _ _ _ hw)⟩
theorem pss_imp {st : List Stmt} {t t' : TS} (h : PSs X st t) (f : ∀ D σ H, t' D σ H → t D σ H) : PSs X st t' := ⟨fun pins s σ H D I hw => h.run pins s σ H D I (f _ _ _ hw)⟩
end

section
variable {K : PySem.W.Frag} {Γ : Gm} {W : WX} {H H' H1 : Hp} {G G' G1 : Gp} {δ : St3} {σ : L2.St}
theorem Rel.mono (R : Rel K Γ δ G σ H) (s : Step K H G H' G') (hp : HpR K Γ H' G') : Rel K Γ δ G' σ H' :=
  ⟨R.len, fun i d e => let ⟨v, h1, h2⟩ := R.get i d e; ⟨v, h1, h2.mono s⟩, hp⟩
theorem Rel.set {i : Nat} {d : D} {v : V} (R : Rel K Γ δ G σ H) (h : Dat K Γ H G d v) : Rel K Γ (δ.set i (some d)) G (σ.set i (some v)) H := by
  refine ⟨by simp [R.len], fun j u e => ?_, R.hp⟩
  by_cases hj : i = j
  · subst hj
    have hi : i < δ.length := by
      have := (List.getElem?_eq_some_iff.mp e).1
      simpa using this
    rw [List.getElem?_set_self hi] at e
    cases e
    exact ⟨v, List.getElem?_set_self (by rw [← R.len]; exact hi), h⟩
  · rw [List.getElem?_set_ne hj] at e ⊢
    exact R.get j u e
end

/-! ### names, constants -/
section
variable {X : Cx} {Γ : Gm} {W : WX} {e a b c : Expr} {pos : Pos}
@[simp] def TVar (i : Nat) : TE3 := fun δ G Q _ => match slot δ i with | some d => Q d G | none => False
@[simp] def TC (d : D) : TE3 := fun _ G Q _ => Q d G
theorem pe3_var {i : Nat} {x : Str} (hN : X.N[i]? = some x := by rfl) (hv : Vis X.env.scope x := by first | exact Or.inl rfl | exact Or.inr (Or.inl rfl) | exact Or.inr (Or.inr rfl)) (hd : (x == ("__debug__" : Str)) = false := by decide)
    (hcd : (x == ("__classdict__" : Str)) = false := by decide) : PE3 X Γ W (.Name x pos) (TVar i) := by
  refine pe_imp (pe_var hN hv hd hcd) fun σ H Q hw => ?_
  obtain ⟨δ, G, Q3, E3, R, h, k, _⟩ := hw
  unfold TVar at h
  split at h
  · rename_i d he
    obtain ⟨v, h1, h2⟩ := R.get i d (slot_get he)
    exact ⟨v, h1, k d v G H Step.refl R.hp h2 h⟩
  · exact h.elim
theorem pe3_const {d : D} {v : V} (h : PE X e (tC v)) (hd : ∀ H G, HpR X.K Γ H G → Dat X.K Γ H G d v) : PE3 X Γ W e (TC d) :=
  pe_imp h fun σ H Q ⟨δ, G, Q3, E3, R, h, k, _⟩ => k d v G H Step.refl R.hp (hd H G R.hp) h
theorem pe3_int {i : Int} {j : Nat} : PE3 X Γ W (.Constant (.int i) j pos) (TC (.int i)) := pe3_const pe_int fun _ _ _ => rfl
theorem pe3_str {x : Str} {j : Nat} : PE3 X Γ W (.Constant (.str x) j pos) (TC (.str x)) := pe3_const pe_str fun _ _ _ => rfl
theorem pe3_bl {x : Bool} {j : Nat} : PE3 X Γ W (.Constant (.bool x) j pos) (TC (.bl x)) := pe3_const pe_bl fun _ _ _ => rfl
theorem pe3_non {j : Nat} : PE3 X Γ W (.Constant .none j pos) (TC .non) := pe3_const pe_non fun _ _ _ => rfl
/-- a constant of the module -/
theorem pe3_glob {x : Str} {u : Value} {v : V} {d : D} (hg : Gl X x) (hm : X.mg x = some u) (r : RelV v u) (hd : ∀ H G, Dat X.K Γ H G d v) (hdb : (x == ("__debug__" : Str)) = false := by decide) : PE3 X Γ W (.Name x pos) (TC d) :=
  pe3_const (pe_glob hg hm r hdb) fun H G _ => hd H G

/-! ### operators by data -/
abbrev R3 := D → D → Gp → K3 → Prop
abbrev U3 := D → Gp → K3 → Prop
/-- r3 tells of data what r asks of values -/
def Sound2 (K : PySem.W.Frag) (Γ : Gm) (r : R2) (r3 : R3) : Prop := ∀ x y v u H G Q3 Q, HpR K Γ H G → Dat K Γ H G x v → Dat K Γ H G y u → r3 x y (vis G) Q3 →
  (∀ d w G' H', Step K H G H' G' → HpR K Γ H' G' → Dat K Γ H' G' d w → Q3 d (vis G') → Q w H') → r v u H Q
def Sound1 (K : PySem.W.Frag) (Γ : Gm) (r : V → Hp → VK → Prop) (r3 : U3) : Prop := ∀ x v H G Q3 Q, HpR K Γ H G → Dat K Γ H G x v → r3 x (vis G) Q3 →
  (∀ d w G' H', Step K H G H' G' → HpR K Γ H' G' → Dat K Γ H' G' d w → Q3 d (vis G') → Q w H') → r v H Q
def SoundN (K : PySem.W.Frag) (Γ : Gm) (r : List V → Hp → VK → Prop) (r3 : List D → Gp → K3 → Prop) : Prop := ∀ xs vs H G Q3 Q, HpR K Γ H G → DatL K Γ H G xs vs → r3 xs (vis G) Q3 →
  (∀ d w G' H', Step K H G H' G' → HpR K Γ H' G' → Dat K Γ H' G' d w → Q3 d (vis G') → Q w H') → r vs H Q
@[simp] def TOp (r : R3) (ta tb : TE3) : TE3 := fun δ G Q E => ta δ G (fun x G1 => tb δ G1 (fun y G2 => r x y G2 Q) E) E
@[simp] def TUn (r : U3) (ta : TE3) : TE3 := fun δ G Q E => ta δ G (fun x G1 => r x G1 Q) E
theorem op_sound {r : R2} {r3 : R3} {ta tb : TE3} (h : Sound2 X.K Γ r r3) {σ : L2.St} {H : Hp} {Q : VK} (hw : lift X.K Γ W (TOp r3 ta tb) σ H Q) : tOp r (lift X.K Γ W ta) (lift X.K Γ W tb) σ H Q := by
  obtain ⟨δ, G, Q3, E3, R, h1, k, ke⟩ := hw
  refine ⟨δ, G, _, E3, R, h1, fun x v G1 H1 s1 hp1 dx q1 => ?_, ke⟩
  refine ⟨δ, G1, _, E3, R.mono s1 hp1, q1, fun y u G2 H2 s2 hp2 dy q2 => ?_, fun cls G' H' s' hp' q' => ke cls G' H' (s1.trans s') hp' q'⟩
  exact h x y v u H2 G2 _ _ hp2 (dx.mono s2) dy q2 fun d w G' H' s3 hp3 dw q3 => k d w G' H' ((s1.trans s2).trans s3) hp3 dw q3
theorem un_sound {r : V → Hp → VK → Prop} {r3 : U3} {ta : TE3} (h : Sound1 X.K Γ r r3) {σ : L2.St} {H : Hp} {Q : VK} (hw : lift X.K Γ W (TUn r3 ta) σ H Q) : tUn r (lift X.K Γ W ta) σ H Q := by
  obtain ⟨δ, G, Q3, E3, R, h1, k, ke⟩ := hw
  refine ⟨δ, G, _, E3, R, h1, fun x v G1 H1 s1 hp1 dx q1 => ?_, ke⟩
  exact h x v H1 G1 _ _ hp1 dx q1 fun d w G' H' s3 hp3 dw q3 => k d w G' H' (s1.trans s3) hp3 dw q3
theorem pe3_op {op : Operator} {r : R2} {r3 : R3} {ta tb : TE3} (ho : OpR X (binaryOp op) r) (hs : Sound2 X.K Γ r r3) (ha : PE3 X Γ W a ta) (hb : PE3 X Γ W b tb) : PE3 X Γ W (.BinOp a op b pos) (TOp r3 ta tb) :=
  pe_imp (pe_op ho ha hb) fun _ _ _ hw => op_sound hs hw
theorem pe3_un {op : UnaryOp} {r : V → Hp → VK → Prop} {r3 : U3} {ta : TE3} (ho : UnR X (unaryOp op) r) (hs : Sound1 X.K Γ r r3) (ha : PE3 X Γ W a ta) : PE3 X Γ W (.UnaryOp op a pos) (TUn r3 ta) :=
  pe_imp (pe_un ho ha) fun _ _ _ hw => un_sound hs hw
theorem pe3_cmp {op : CmpOp} {r : R2} {r3 : R3} {ta tb : TE3} (ho : OpR X (compareOp op) r) (hs : Sound2 X.K Γ r r3) (ha : PE3 X Γ W a ta) (hb : PE3 X Γ W b tb) (hm : behindInMarks op b = false) : PE3 X Γ W (.Compare a [op] [b] pos) (TOp r3 ta tb) :=
  pe_imp (pe_cmpR ho ha hb hm) fun _ _ _ hw => op_sound hs hw
@[simp] def TTest (t : TE3) : TT3 := fun δ G Q E => t δ G (fun d G' => match d with | .bl k => Q k G' | _ => False) E
theorem test_sound {t : TE3} {σ : L2.St} {H : Hp} {Q : Bool → Hp → Prop} (hw : liftT X.K Γ W (TTest t) σ H Q) : tTest (lift X.K Γ W t) σ H Q := by
  obtain ⟨δ, G, Q3, E3, R, h1, k, ke⟩ := hw
  refine ⟨δ, G, _, E3, R, h1, fun d v G1 H1 s1 hp1 dx q1 => ?_, ke⟩
  cases d with
  | bl b => exact ⟨b, dx, k b G1 H1 s1 hp1 q1⟩
  | _ => exact q1.elim
theorem pt3_cmp {op : CmpOp} {r : R2} {r3 : R3} {ta tb : TE3} (ho : OpR X (compareOp op) r) (hs : Sound2 X.K Γ r r3) (ha : PE3 X Γ W a ta) (hb : PE3 X Γ W b tb) (hm : behindInMarks op b = false) : PT3 X Γ W (.Compare a [op] [b] pos) (TTest (TOp r3 ta tb)) := by
  refine pt_imp (pt_cmpR ho ha hb hm) fun σ H Q hw => ?_
  have h2 := test_sound hw
  exact op_sound (W := W) hs h2
/-- a value that is a bool, as a test -/
theorem pt3_val {t : TE3} (h : PE3 X Γ W e t) (he : ∀ whole, isTrue e X.env whole = (do let v ← whole; standAt e.pos; holding [v] (truthy v)) := by intro _; rfl) : PT3 X Γ W e (TTest t) :=
  pt_imp (pt_val h he) fun _ _ _ hw => test_sound hw
end

/-! ### and, or, not, if .. else -/
section
variable {X : Cx} {Γ : Gm} {W : WX} {e a b c : Expr} {pos : Pos} {rest : List Expr} {ta tb tc : TE3} {t u : TT3}
@[simp] def TAnd (t u : TT3) : TT3 := fun δ G Q E => t δ G (fun c G1 => if c = true then u δ G1 Q E else Q false G1) E
@[simp] def TOr (t u : TT3) : TT3 := fun δ G Q E => t δ G (fun c G1 => if c = true then Q true G1 else u δ G1 Q E) E
@[simp] def TNot (t : TT3) : TT3 := fun δ G Q E => t δ G (fun c G1 => Q (!c) G1) E
abbrev PW3 (X : Cx) (Γ : Gm) (W : WX) (e : Expr) (T : TT3) : Prop := PW X e (liftT X.K Γ W T)
theorem PW3.pt (h : PW3 X Γ W e t) : PT3 X Γ W e t := PW.pt h
theorem pw3_and1 (ha : PT3 X Γ W a t) : PW3 X Γ W (.BoolOp .And [a] pos) t := pw_and1 ha
theorem pw3_or1 (ha : PT3 X Γ W a t) : PW3 X Γ W (.BoolOp .Or [a] pos) t := pw_or1 ha
theorem pw3_and (ha : PT3 X Γ W a t) (hb : PW3 X Γ W (.BoolOp .And (b :: rest) pos) u) : PW3 X Γ W (.BoolOp .And (a :: b :: rest) pos) (TAnd t u) := by
  refine pw_imp (pw_and ha hb) fun σ H Q ⟨δ, G, Q3, E3, R, h1, k, ke⟩ => ?_
  refine ⟨δ, G, _, E3, R, h1, fun c G1 H1 s1 hp1 q1 => ?_, ke⟩
  cases c with
  | true => exact ⟨δ, G1, Q3, E3, R.mono s1 hp1, q1, fun b G' H' s' => k b G' H' (s1.trans s'), fun cls G' H' s' => ke cls G' H' (s1.trans s')⟩
  | false => exact k false G1 H1 s1 hp1 q1
theorem pw3_or (ha : PT3 X Γ W a t) (hb : PW3 X Γ W (.BoolOp .Or (b :: rest) pos) u) : PW3 X Γ W (.BoolOp .Or (a :: b :: rest) pos) (TOr t u) := by
  refine pw_imp (pw_or ha hb) fun σ H Q ⟨δ, G, Q3, E3, R, h1, k, ke⟩ => ?_
  refine ⟨δ, G, _, E3, R, h1, fun c G1 H1 s1 hp1 q1 => ?_, ke⟩
  cases c with
  | false => exact ⟨δ, G1, Q3, E3, R.mono s1 hp1, q1, fun b G' H' s' => k b G' H' (s1.trans s'), fun cls G' H' s' => ke cls G' H' (s1.trans s')⟩
  | true => exact k true G1 H1 s1 hp1 q1
theorem pt3_not (ha : PT3 X Γ W a t) : PT3 X Γ W (.UnaryOp .Not a pos) (TNot t) :=
  pt_imp (pt_not ha) fun σ H Q ⟨δ, G, Q3, E3, R, h1, k, ke⟩ => ⟨δ, G, _, E3, R, h1, fun c G1 H1 s1 hp1 q1 => k (!c) G1 H1 s1 hp1 q1, ke⟩
@[simp] def TAndV (ta tb : TE3) : TE3 := fun δ G Q E => ta δ G (fun x G1 => match x with | .bl true => tb δ G1 Q E | .bl false => Q (.bl false) G1 | _ => False) E
@[simp] def TOrV (ta tb : TE3) : TE3 := fun δ G Q E => ta δ G (fun x G1 => match x with | .bl true => Q (.bl true) G1 | .bl false => tb δ G1 Q E | _ => False) E
@[simp] def TNotV (ta : TE3) : TE3 := fun δ G Q E => ta δ G (fun x G1 => match x with | .bl k => Q (.bl (!k)) G1 | _ => False) E
theorem pe3_one {op} (h : PE3 X Γ W a ta) : PE3 X Γ W (.BoolOp op [a] pos) ta := pe_one h
theorem pe3_and (ha : PE3 X Γ W a ta) (hb : PE3 X Γ W (.BoolOp .And (b :: rest) pos) tb) : PE3 X Γ W (.BoolOp .And (a :: b :: rest) pos) (TAndV ta tb) := by
  refine pe_imp (pe_and ha hb) fun σ H Q ⟨δ, G, Q3, E3, R, h1, k, ke⟩ => ?_
  refine ⟨δ, G, _, E3, R, h1, fun x v G1 H1 s1 hp1 dx q1 => ?_, ke⟩
  cases x with
  | bl c =>
    refine ⟨c, dx, ?_⟩
    cases c with
    | true => exact ⟨δ, G1, Q3, E3, R.mono s1 hp1, q1, fun b v G' H' s' => k b v G' H' (s1.trans s'), fun cls G' H' s' => ke cls G' H' (s1.trans s')⟩
    | false => exact k (.bl false) _ G1 H1 s1 hp1 rfl q1
  | _ => exact q1.elim
theorem pe3_or (ha : PE3 X Γ W a ta) (hb : PE3 X Γ W (.BoolOp .Or (b :: rest) pos) tb) : PE3 X Γ W (.BoolOp .Or (a :: b :: rest) pos) (TOrV ta tb) := by
  refine pe_imp (pe_or ha hb) fun σ H Q ⟨δ, G, Q3, E3, R, h1, k, ke⟩ => ?_
  refine ⟨δ, G, _, E3, R, h1, fun x v G1 H1 s1 hp1 dx q1 => ?_, ke⟩
  cases x with
  | bl c =>
    refine ⟨c, dx, ?_⟩
    cases c with
    | false => exact ⟨δ, G1, Q3, E3, R.mono s1 hp1, q1, fun b v G' H' s' => k b v G' H' (s1.trans s'), fun cls G' H' s' => ke cls G' H' (s1.trans s')⟩
    | true => exact k (.bl true) _ G1 H1 s1 hp1 rfl q1
  | _ => exact q1.elim
theorem pe3_not (ha : PE3 X Γ W a ta) : PE3 X Γ W (.UnaryOp .Not a pos) (TNotV ta) := by
  refine pe_imp (pe_not ha) fun σ H Q ⟨δ, G, Q3, E3, R, h1, k, ke⟩ => ?_
  refine ⟨δ, G, _, E3, R, h1, fun x v G1 H1 s1 hp1 dx q1 => ?_, ke⟩
  cases x with
  | bl c => exact ⟨c, dx, k (.bl (!c)) _ G1 H1 s1 hp1 rfl q1⟩
  | _ => exact q1.elim
@[simp] def TIf (t : TT3) (ta tb : TE3) : TE3 := fun δ G Q E => t δ G (fun c G1 => if c = true then ta δ G1 Q E else tb δ G1 Q E) E
theorem pe3_ifExp (hc : PT3 X Γ W c t) (ha : PE3 X Γ W a ta) (hb : PE3 X Γ W b tb) : PE3 X Γ W (.IfExp c a b pos) (TIf t ta tb) := by
  refine pe_imp (pe_ifExp hc ha hb) fun σ H Q ⟨δ, G, Q3, E3, R, h1, k, ke⟩ => ?_
  refine ⟨δ, G, _, E3, R, h1, fun c G1 H1 s1 hp1 q1 => ?_, ke⟩
  cases c with
  | true => exact ⟨δ, G1, Q3, E3, R.mono s1 hp1, q1, fun b v G' H' s' => k b v G' H' (s1.trans s'), fun cls G' H' s' => ke cls G' H' (s1.trans s')⟩
  | false => exact ⟨δ, G1, Q3, E3, R.mono s1 hp1, q1, fun b v G' H' s' => k b v G' H' (s1.trans s'), fun cls G' H' s' => ke cls G' H' (s1.trans s')⟩
/-- a < b < c -/
@[simp] def TChain (r r' : R3) (ta tb tc : TE3) : TE3 := fun δ G Q E => ta δ G (fun x G1 => tb δ G1 (fun y G2 => r x y G2 fun z G3 => match z with | .bl true => tc δ G3 (fun w G4 => r' y w G4 Q) E | .bl false => Q (.bl false) G3 | _ => False) E) E
theorem chain_sound {r r' : R2} {r3 r3' : R3} (hs : Sound2 X.K Γ r r3) (hs' : Sound2 X.K Γ r' r3') {σ : L2.St} {H : Hp} {Q : VK} (hw : lift X.K Γ W (TChain r3 r3' ta tb tc) σ H Q) :
    tChain r r' (lift X.K Γ W ta) (lift X.K Γ W tb) (lift X.K Γ W tc) σ H Q := by
  obtain ⟨δ, G, Q3, E3, R, h1, k, ke⟩ := hw
  refine ⟨δ, G, _, E3, R, h1, fun x v G1 H1 s1 hp1 dx q1 => ?_, ke⟩
  refine ⟨δ, G1, _, E3, R.mono s1 hp1, q1, fun y u G2 H2 s2 hp2 dy q2 => ?_, fun cls G' H' s' hp' q' => ke cls G' H' (s1.trans s') hp' q'⟩
  refine hs x y v u H2 G2 _ _ hp2 (dx.mono s2) dy q2 fun d w G' H' s3 hp3 dw q3 => ?_
  cases d with
  | bl z =>
    refine ⟨z, dw, ?_⟩
    cases z with
    | true =>
      refine ⟨δ, G', _, E3, R.mono ((s1.trans s2).trans s3) hp3, q3, fun y' u' G4 H4 s4 hp4 dy' q4 => ?_, fun cls G5 H5 s5 hp5 q5 => ke cls G5 H5 (((s1.trans s2).trans s3).trans s5) hp5 q5⟩
      exact hs' y y' u u' H4 G4 _ _ hp4 ((dy.mono s3).mono s4) dy' q4 fun d5 w5 G5 H5 s5 hp5 dw5 q5 => k d5 w5 G5 H5 ((((s1.trans s2).trans s3).trans s4).trans s5) hp5 dw5 q5
    | false => exact k (.bl false) _ G' H' ((s1.trans s2).trans s3) hp3 rfl q3
  | _ => exact q3.elim
theorem pe3_chain {op op' : CmpOp} {r r' : R2} {r3 r3' : R3} (ho : OpR X (compareOp op) r) (ho' : OpR X (compareOp op') r') (hs : Sound2 X.K Γ r r3) (hs' : Sound2 X.K Γ r' r3') (ha : PE3 X Γ W a ta) (hb : PE3 X Γ W b tb) (hc : PE3 X Γ W c tc)
    (hm : lastMarks [op, op'] [b, c] = false := by with_unfolding_all rfl) : PE3 X Γ W (.Compare a [op, op'] [b, c] pos) (TChain r3 r3' ta tb tc) :=
  pe_imp (pe_chain ho ho' ha hb hc hm) fun _ _ _ hw => chain_sound hs hs' hw
theorem pt3_chain {op op' : CmpOp} {r r' : R2} {r3 r3' : R3} (ho : OpR X (compareOp op) r) (ho' : OpR X (compareOp op') r') (hs : Sound2 X.K Γ r r3) (hs' : Sound2 X.K Γ r' r3') (ha : PE3 X Γ W a ta) (hb : PE3 X Γ W b tb) (hc : PE3 X Γ W c tc)
    (hm : lastMarks [op, op'] [b, c] = false := by with_unfolding_all rfl) : PT3 X Γ W (.Compare a [op, op'] [b, c] pos) (TTest (TChain r3 r3' ta tb tc)) := by
  refine pt_imp (pt_chain ho ho' ha hb hc hm) fun σ H Q hw => ?_
  have h2 := test_sound hw
  exact chain_sound (W := W) hs hs' h2
end
end L3
/-! L3, part c: operators, comparisons, displays, items, slices, calls of built-ins. -/
namespace L3
open PySem L2

/-! ### data that == may look at -/
mutual
def py : D → PyData
  | .non => .none
  | .bl b => .bool b
  | .int i => .int i
  | .str x => .str x
  | .ref _ => .none
  | .clo _ => .none
  | .nod .tup xs => .tuple (pyL xs)
  | .nod .lst xs => .list (pyL xs)
  | .nod _ _ => .none
def pyL : List D → List PyData
  | [] => []
  | d :: ds => py d :: pyL ds
end
theorem pyL_map : ∀ ds : List D, pyL ds = ds.map py
  | [] => rfl
  | d :: ds => by rw [List.map_cons, ← pyL_map ds]; rfl
/-- plain data (no owned things, dicts, objects), at most so deep -/
def gd : Nat → D → Bool
  | _, .non => true
  | _, .bl _ => true
  | _, .int _ => true
  | _, .str x => PyData.strOk x
  | n + 1, .nod .tup xs => xs.all (gd n)
  | n + 1, .nod .lst xs => xs.all (gd n)
  | _, _ => false
theorem gd_py : ∀ (n : Nat) (d : D), gd n d = true → PyData.canLay0 (py d) = true ∧ (py d).depth ≤ n
  | _, .non, _ => ⟨by simp [py, PyData.canLay0], by simp [py, PyData.depth]⟩
  | _, .bl _, _ => ⟨by simp [py, PyData.canLay0], by simp [py, PyData.depth]⟩
  | _, .int _, _ => ⟨by simp [py, PyData.canLay0], by simp [py, PyData.depth]⟩
  | _, .str x, h => ⟨by simpa [py, PyData.canLay0, gd] using h, by simp [py, PyData.depth]⟩
  | n + 1, .nod .tup xs, h => by
    have q : ∀ ds : List D, (∀ d ∈ ds, gd n d = true) → PyData.canLayAll0 (pyL ds) = true ∧ PyData.depthAll (pyL ds) ≤ n := fun ds => by
      induction ds with
      | nil => intro _; exact ⟨by simp [pyL, PyData.canLayAll0], by simp [pyL, PyData.depthAll]⟩
      | cons d ds ih =>
        intro hd
        obtain ⟨a1, a2⟩ := gd_py n d (hd d (List.mem_cons_self ..))
        obtain ⟨b1, b2⟩ := ih fun e he => hd e (List.mem_cons_of_mem _ he)
        exact ⟨by simp [pyL, PyData.canLayAll0, a1, b1], by simp only [pyL, PyData.depthAll]; omega⟩
    obtain ⟨q1, q2⟩ := q xs (by simpa [gd, List.all_eq_true] using h)
    exact ⟨by simp [py, PyData.canLay0, q1], by simp only [py, PyData.depth]; omega⟩
  | n + 1, .nod .lst xs, h => by
    have q : ∀ ds : List D, (∀ d ∈ ds, gd n d = true) → PyData.canLayAll0 (pyL ds) = true ∧ PyData.depthAll (pyL ds) ≤ n := fun ds => by
      induction ds with
      | nil => intro _; exact ⟨by simp [pyL, PyData.canLayAll0], by simp [pyL, PyData.depthAll]⟩
      | cons d ds ih =>
        intro hd
        obtain ⟨a1, a2⟩ := gd_py n d (hd d (List.mem_cons_self ..))
        obtain ⟨b1, b2⟩ := ih fun e he => hd e (List.mem_cons_of_mem _ he)
        exact ⟨by simp [pyL, PyData.canLayAll0, a1, b1], by simp only [pyL, PyData.depthAll]; omega⟩
    obtain ⟨q1, q2⟩ := q xs (by simpa [gd, List.all_eq_true] using h)
    exact ⟨by simp [py, PyData.canLay0, q1], by simp only [py, PyData.depth]; omega⟩
  | 0, .nod .tup _, h => by simp [gd] at h
  | 0, .nod .lst _, h => by simp [gd] at h
  | 0, .nod .ro _, h => by simp [gd] at h
  | 0, .nod .tuK _, h => by simp [gd] at h
  | 0, .nod (.dK _) _, h => by simp [gd] at h
  | 0, .nod (.dT _) _, h => by simp [gd] at h
  | 0, .nod (.obj _ _) _, h => by simp [gd] at h
  | n + 1, .nod .ro _, h => by simp [gd] at h
  | n + 1, .nod .tuK _, h => by simp [gd] at h
  | n + 1, .nod (.dK _) _, h => by simp [gd] at h
  | n + 1, .nod (.dT _) _, h => by simp [gd] at h
  | n + 1, .nod (.obj _ _) _, h => by simp [gd] at h
  | 0, .ref _, h => by simp [gd] at h
  | n + 1, .ref _, h => by simp [gd] at h
  | 0, .clo _, h => by simp [gd] at h
  | n + 1, .clo _, h => by simp [gd] at h
theorem gd_shaped {n : Nat} {d : D} (h : gd n d = true) (hn : n ≤ 64 := by decide) : SeqAt.shaped (py d) = true := by
  obtain ⟨a, b⟩ := gd_py n d h
  unfold SeqAt.shaped
  rw [a, Bool.true_and]
  exact decide_eq_true (Nat.le_trans b hn)
section
variable {K : PySem.W.Frag} {Γ : Gm} {H : Hp} {G : Gp}
theorem dat_dp : ∀ (n : Nat) (d : D) (v : V), gd n d = true → Dat K Γ H G d v → Dp K H v (py d)
  | n, .non, _, _, h => by cases n <;> (cases (show _ = _ from h); exact .non)
  | n, .bl b, _, _, h => by cases n <;> (cases (show _ = _ from h); exact .bl b)
  | n, .int i, _, _, h => by cases n <;> (cases (show _ = _ from h); exact .int i)
  | n, .str x, _, _, h => by cases n <;> (cases (show _ = _ from h); exact .str x)
  | n + 1, .nod .tup xs, v, g, h => by
    obtain ⟨a, vs, rfl, ht, hl⟩ := h
    have q : ∀ (ds : List D) (us : List V), (∀ d ∈ ds, gd n d = true) → DatL K Γ H G ds us → DpAll K H us (pyL ds) := fun ds => by
      induction ds with
      | nil => intro us _ z; cases (show _ = _ from z); exact .nil
      | cons d ds ih =>
        intro us hd z
        obtain ⟨v, r, rfl, z1, z2⟩ := z
        exact .cons (dat_dp n d v (hd d (List.mem_cons_self ..)) z1) (ih r (fun e he => hd e (List.mem_cons_of_mem _ he)) z2)
    exact .tup (SqT.of ht) (q xs vs (by simpa [gd, List.all_eq_true] using g) hl)
  | n + 1, .nod .lst xs, v, g, h => by
    obtain ⟨a, vs, rfl, ht, hl⟩ := h
    have q : ∀ (ds : List D) (us : List V), (∀ d ∈ ds, gd n d = true) → DatL K Γ H G ds us → DpAll K H us (pyL ds) := fun ds => by
      induction ds with
      | nil => intro us _ z; cases (show _ = _ from z); exact .nil
      | cons d ds ih =>
        intro us hd z
        obtain ⟨v, r, rfl, z1, z2⟩ := z
        exact .cons (dat_dp n d v (hd d (List.mem_cons_self ..)) z1) (ih r (fun e he => hd e (List.mem_cons_of_mem _ he)) z2)
    exact .lst (SqL.of ht.2) (q xs vs (by simpa [gd, List.all_eq_true] using g) hl)
  | 0, .nod .tup _, _, h, _ => by simp [gd] at h
  | 0, .nod .lst _, _, h, _ => by simp [gd] at h
  | 0, .nod .ro _, _, h, _ => by simp [gd] at h
  | 0, .nod .tuK _, _, h, _ => by simp [gd] at h
  | 0, .nod (.dK _) _, _, h, _ => by simp [gd] at h
  | 0, .nod (.dT _) _, _, h, _ => by simp [gd] at h
  | 0, .nod (.obj _ _) _, _, h, _ => by simp [gd] at h
  | n + 1, .nod .ro _, _, h, _ => by simp [gd] at h
  | n + 1, .nod .tuK _, _, h, _ => by simp [gd] at h
  | n + 1, .nod (.dK _) _, _, h, _ => by simp [gd] at h
  | n + 1, .nod (.dT _) _, _, h, _ => by simp [gd] at h
  | n + 1, .nod (.obj _ _) _, _, h, _ => by simp [gd] at h
  | 0, .ref _, _, h, _ => by simp [gd] at h
  | n + 1, .ref _, _, h, _ => by simp [gd] at h
  | 0, .clo _, _, h, _ => by simp [gd] at h
  | n + 1, .clo _, _, h, _ => by simp [gd] at h
end
def eq3 (x y : D) : Bool := PyData.eqv (py x) (py y)

/-! ### arithmetic -/
@[simp] def addR : R3 := fun x y G Q => match x, y with
  | .int i, .int j => Q (.int (i + j)) G
  | .str s, .str t => s.length + t.length ≤ sizeLine ∧ Q (.str (s ++ t)) G
  | .nod .tup xs, .nod .tup ys => xs ≠ [] ∧ xs.length + ys.length ≤ sizeLine ∧ Q (.tup (xs ++ ys)) G
  | .nod .lst xs, .nod .lst ys => xs.length + ys.length ≤ sizeLine ∧ Q (.lst (xs ++ ys)) G
  | _, _ => False
@[simp] def subR : R3 := fun x y G Q => match x, y with | .int i, .int j => Q (.int (i - j)) G | _, _ => False
@[simp] def mulR : R3 := fun x y G Q => match x, y with
  | .int i, .int j => CMul i j ∧ Q (.int (i * j)) G
  | .nod .lst xs, .int k => -(2 ^ 63) ≤ k ∧ k < 2 ^ 63 ∧ xs.length * k.toNat ≤ sizeLine ∧ Q (.lst (List.replicate k.toNat xs).flatten) G
  | _, _ => False
@[simp] def fdivR : R3 := fun x y G Q => match x, y with | .int i, .int j => CDiv i j ∧ Q (.int (i / j)) G | _, _ => False
@[simp] def modR : R3 := fun x y G Q => match x, y with | .int i, .int j => 0 < j ∧ Q (.int (i % j)) G | _, _ => False
@[simp] def powR : R3 := fun x y G Q => match x, y with | .int i, .int j => CPow i j ∧ Q (.int (i ^ j.toNat)) G | _, _ => False
@[simp] def ltR : R3 := fun x y G Q => match x, y with | .int i, .int j => Q (.bl (decide (i < j))) G | .str s, .str t => Q (.bl (decide (s.cps.toList < t.cps.toList))) G | _, _ => False
@[simp] def leR : R3 := fun x y G Q => match x, y with | .int i, .int j => Q (.bl (decide (i ≤ j))) G | _, _ => False
@[simp] def gtR : R3 := fun x y G Q => match x, y with | .int i, .int j => Q (.bl (decide (j < i))) G | _, _ => False
@[simp] def geR : R3 := fun x y G Q => match x, y with | .int i, .int j => Q (.bl (decide (j ≤ i))) G | _, _ => False
def eqR : R3 := fun x y G Q => match x, y with
  | .int i, .int j => Q (.bl (decide (i = j))) G
  | .str s, .str t => Q (.bl (decide (s = t))) G
  | .bl a, .bl b => Q (.bl (decide (a = b))) G
  | x, y => gd 60 x = true ∧ gd 60 y = true ∧ Q (.bl (eq3 x y)) G
def neR : R3 := fun x y G Q => match x, y with
  | .int i, .int j => Q (.bl (!decide (i = j))) G
  | .str s, .str t => Q (.bl (!decide (s = t))) G
  | .bl a, .bl b => Q (.bl (!decide (a = b))) G
  | x, y => gd 60 x = true ∧ gd 60 y = true ∧ Q (.bl (!eq3 x y)) G
def isNR : R3 := fun x y G Q => match x, y with
  | .ref _, .non => Q (.bl false) G | .nod _ _, .non => Q (.bl false) G | .int _, .non => Q (.bl false) G | .str _, .non => Q (.bl false) G | .bl _, .non => Q (.bl false) G | .non, .non => Q (.bl true) G | _, _ => False
def isNotNR : R3 := fun x y G Q => match x, y with
  | .ref _, .non => Q (.bl true) G | .nod _ _, .non => Q (.bl true) G | .int _, .non => Q (.bl true) G | .str _, .non => Q (.bl true) G | .bl _, .non => Q (.bl true) G | .non, .non => Q (.bl false) G | _, _ => False

section
variable {K : PySem.W.Frag} {Γ : Gm}
theorem ret {H : Hp} {G : Gp} {d : D} {v : V} {Q3 : K3} {Q : VK} (k : ∀ d w G' H', Step K H G H' G' → HpR K Γ H' G' → Dat K Γ H' G' d w → Q3 d (vis G') → Q w H') (R : HpR K Γ H G) (q : Q3 d (vis G)) (hd : Dat K Γ H G d v) : Q v H := k d v G H Step.refl R hd q
theorem sound_ii {C : Int → Int → Prop} {g : Int → Int → V} {g3 : Int → Int → D} (hg : ∀ i j H G, Dat K Γ H G (g3 i j) (g i j)) :
    Sound2 K Γ (rI C g) (fun x y G Q => match x, y with | .int i, .int j => C i j ∧ Q (g3 i j) G | _, _ => False) := by
  intro x y v u H G Q3 Q R hx hy h k
  split at h
  · rename_i i j
    exact ⟨i, j, hx, hy, h.1, ret k R h.2 (hg i j H G)⟩
  · exact h.elim
theorem sound_ii0 {g : Int → Int → V} {g3 : Int → Int → D} (hg : ∀ i j H G, Dat K Γ H G (g3 i j) (g i j)) :
    Sound2 K Γ (rI0 g) (fun x y G Q => match x, y with | .int i, .int j => Q (g3 i j) G | _, _ => False) := by
  intro x y v u H G Q3 Q R hx hy h k
  split at h
  · rename_i i j
    exact ⟨i, j, hx, hy, ret k R h (hg i j H G)⟩
  · exact h.elim
/-- a new list by value -/
theorem new_lst {H : Hp} {G : Gp} {ys : List V} {ds : List D} {Q3 : K3} {Q : VK} {p : Addr} (R : HpR K Γ H G) (hp : H p = none) (hl : DatL K Γ H G ds ys)
    (k : ∀ d w G' H', Step K H G H' G' → HpR K Γ H' G' → Dat K Γ H' G' d w → Q3 d (vis G') → Q w H') (q : Q3 (.lst ds) (vis G)) : Q (.ref p) (upd H p (.lst ys)) :=
  k (.lst ds) _ G _ (Step.new hp) (R.new hp) ⟨p, ys, rfl, ⟨own_none R hp, upd_same⟩, hl.mono (Step.new hp)⟩ q
theorem new_tup {H : Hp} {G : Gp} {ys : List V} {ds : List D} {Q3 : K3} {Q : VK} {p : Addr} (R : HpR K Γ H G) (hp : H p = none) (hl : DatL K Γ H G ds ys)
    (k : ∀ d w G' H', Step K H G H' G' → HpR K Γ H' G' → Dat K Γ H' G' d w → Q3 d (vis G') → Q w H') (q : Q3 (.tup ds) (vis G)) : Q (.ref p) (upd H p (.tup ys)) :=
  k (.tup ds) _ G _ (Step.new hp) (R.new hp) ⟨p, ys, rfl, upd_same, hl.mono (Step.new hp)⟩ q
/-- a new list that is owned -/
theorem new_lstG {H : Hp} {G : Gp} {ys : List V} {ds : List D} {Q3 : K3} {Q : VK} {p : Addr} (R : HpR K Γ H G) (hp : H p = none) (hl : DatL K Γ H G ds ys)
    (k : ∀ d w G' H', Step K H G H' G' → HpR K Γ H' G' → Dat K Γ H' G' d w → Q3 d (vis G') → Q w H') (q : ∀ l, vis G l = none → Q3 (.ref l) (gset (vis G) l (.lst ds))) : Q (.ref p) (upd H p (.lst ys)) := by
  have st : Step K H G (upd H p (.lst ys)) (gset G p (.lst ds)) := Step.newG hp (own_none R hp)
  refine k (.ref p) _ (gset G p (.lst ds)) _ st (R.newG (g := .lst ds) hp ⟨ys, upd_same, hl.mono st⟩) rfl ?_
  rw [vis_gset (by intro z; cases z)]
  exact q p (vis_none (own_none R hp))
end

section
variable {X : Cx} {Γ : Gm} {W : WX} {e a b c : Expr} {pos : Pos} {ta tb tc : TE3}
abbrev rAdd2 (K : PySem.W.Frag) : R2 := fun x y H Q => rI0 (fun i j => .int (i + j)) x y H Q ∨ (∃ i j, x = .str i ∧ y = .str j ∧ i.length + j.length ≤ sizeLine ∧ Q (.str (i ++ j)) H) ∨ rCatT K x y H Q ∨ rCat x y H Q
theorem op_add2 : OpR X (binaryOp .Add) (rAdd2 X.K) := op_add.or (op_add_str.or (op_catT.or op_cat))
theorem sound_add : Sound2 X.K Γ (rAdd2 X.K) addR := by
  intro x y v u H G Q3 Q R hx hy h k
  unfold addR at h
  split at h
  · exact .inl ⟨_, _, hx, hy, ret k R h rfl⟩
  · exact .inr (.inl ⟨_, _, hx, hy, h.1, ret k R h.2 rfl⟩)
  · obtain ⟨p, xs, rfl, h1, l1⟩ := hx
    obtain ⟨q, ys, rfl, h2, l2⟩ := hy
    obtain ⟨h0, hz, h⟩ := h
    have hne : xs ≠ [] := fun z => by
      subst z
      have q := l1.length
      exact h0 (List.length_eq_zero_iff.mp q)
    refine .inr (.inr (.inl ⟨p, q, xs, ys, rfl, rfl, SqT.of h1, SqT.of h2, hne, by rw [← l1.length, ← l2.length]; exact hz, fun hy0 => ?_, fun hy0 t ht => new_tup R ht (l1.append l2) k h⟩))
    subst hy0
    have hd : (_ : List D) = [] := List.length_eq_zero_iff.mp l2.length
    rw [hd, List.append_nil] at h
    exact ret (d := .tup _) k R h ⟨p, xs, rfl, h1, l1⟩
  · obtain ⟨p, xs, rfl, h1, l1⟩ := hx
    obtain ⟨q, ys, rfl, h2, l2⟩ := hy
    exact .inr (.inr (.inr ⟨p, q, xs, ys, rfl, rfl, h1.2, h2.2, by rw [← l1.length, ← l2.length]; exact h.1, fun t ht => new_lst R ht (l1.append l2) k h.2⟩))
  · exact h.elim
theorem pe3_add (ha : PE3 X Γ W a ta) (hb : PE3 X Γ W b tb) : PE3 X Γ W (.BinOp a .Add b pos) (TOp addR ta tb) := pe3_op op_add2 sound_add ha hb
theorem pe3_sub (ha : PE3 X Γ W a ta) (hb : PE3 X Γ W b tb) : PE3 X Γ W (.BinOp a .Sub b pos) (TOp subR ta tb) := pe3_op op_sub (sound_ii0 fun _ _ _ _ => rfl) ha hb
theorem pe3_fdiv (ha : PE3 X Γ W a ta) (hb : PE3 X Γ W b tb) : PE3 X Γ W (.BinOp a .FloorDiv b pos) (TOp fdivR ta tb) := pe3_op op_fdiv (sound_ii fun _ _ _ _ => rfl) ha hb
theorem pe3_mod (ha : PE3 X Γ W a ta) (hb : PE3 X Γ W b tb) : PE3 X Γ W (.BinOp a .Mod b pos) (TOp modR ta tb) := pe3_op op_mod (sound_ii fun _ _ _ _ => rfl) ha hb
theorem pe3_pow (ha : PE3 X Γ W a ta) (hb : PE3 X Γ W b tb) : PE3 X Γ W (.BinOp a .Pow b pos) (TOp powR ta tb) := pe3_op op_pow (sound_ii fun _ _ _ _ => rfl) ha hb
theorem datL_rep {K : PySem.W.Frag} {H : Hp} {G : Gp} {ds : List D} {vs : List V} (h : DatL K Γ H G ds vs) : ∀ n : Nat, DatL K Γ H G (List.replicate n ds).flatten (List.replicate n vs).flatten
  | 0 => rfl
  | n + 1 => by rw [List.replicate_succ, List.flatten_cons, List.replicate_succ, List.flatten_cons]; exact h.append (datL_rep h n)
theorem sound_mul : Sound2 X.K Γ (fun x y H Q => rI CMul (fun i j => .int (i * j)) x y H Q ∨ rRep x y H Q) mulR := by
  intro x y v u H G Q3 Q R hx hy h k
  unfold mulR at h
  split at h
  · exact .inl ⟨_, _, hx, hy, h.1, ret k R h.2 rfl⟩
  · obtain ⟨p, xs, rfl, h1, l1⟩ := hx
    exact .inr ⟨p, _, xs, rfl, hy, h1.2, h.1, h.2.1, by rw [← l1.length]; exact h.2.2.1, fun t ht => new_lst R ht (datL_rep l1 _) k h.2.2.2⟩
  · exact h.elim
theorem pe3_mul (ha : PE3 X Γ W a ta) (hb : PE3 X Γ W b tb) : PE3 X Γ W (.BinOp a .Mult b pos) (TOp mulR ta tb) := pe3_op (op_mul.or op_rep) sound_mul ha hb
@[simp] def negR : U3 := fun x G Q => match x with | .int i => Q (.int (-i)) G | _ => False
theorem pe3_neg (ha : PE3 X Γ W a ta) : PE3 X Γ W (.UnaryOp .USub a pos) (TUn negR ta) := pe3_un un_neg (fun x v H G Q3 Q R hx h k => by
  unfold negR at h
  split at h
  · exact ⟨_, hx, ret k R h rfl⟩
  · exact h.elim) ha

/-! comparisons -/
theorem sound_lt : Sound2 X.K Γ (fun x y H Q => rI0 (fun i j => .bl (decide (i < j))) x y H Q ∨ ∃ i j, x = .str i ∧ y = .str j ∧ Q (.bl (decide (i.cps.toList < j.cps.toList))) H) ltR := by
  intro x y v u H G Q3 Q R hx hy h k
  unfold ltR at h
  split at h
  · exact .inl ⟨_, _, hx, hy, ret k R h rfl⟩
  · exact .inr ⟨_, _, hx, hy, ret k R h rfl⟩
  · exact h.elim
theorem op_lt2 : OpR X (compareOp .Lt) (fun x y H Q => rI0 (fun i j => .bl (decide (i < j))) x y H Q ∨ ∃ i j, x = .str i ∧ y = .str j ∧ Q (.bl (decide (i.cps.toList < j.cps.toList))) H) := op_lt.or op_lt_str
theorem sound_le : Sound2 X.K Γ (rI0 fun i j => .bl (decide (i ≤ j))) leR := sound_ii0 fun _ _ _ _ => rfl
theorem sound_gt : Sound2 X.K Γ (rI0 fun i j => .bl (decide (j < i))) gtR := sound_ii0 fun _ _ _ _ => rfl
theorem sound_ge : Sound2 X.K Γ (rI0 fun i j => .bl (decide (j ≤ i))) geR := sound_ii0 fun _ _ _ _ => rfl
theorem sound_eq : Sound2 X.K Γ (fun x y H Q => rEq x y H Q ∨ rEqD X.K x y H Q) eqR := by
  intro x y v u H G Q3 Q R hx hy h k
  unfold eqR at h
  split at h
  · obtain rfl : v = _ := hx
    obtain rfl : u = _ := hy
    rename_i i j
    exact .inl ⟨rfl, ret k R h (by show V.bl _ = V.bl _; rw [dec_int, Bool.beq_eq_decide_eq])⟩
  · obtain rfl : v = _ := hx
    obtain rfl : u = _ := hy
    exact .inl ⟨rfl, ret k R h (by show V.bl _ = V.bl _; rw [dec_str, Bool.beq_eq_decide_eq])⟩
  · obtain rfl : v = _ := hx
    obtain rfl : u = _ := hy
    exact .inl ⟨rfl, ret k R h (by show V.bl _ = V.bl _; rw [dec_bl, Bool.beq_eq_decide_eq])⟩
  · exact .inr ⟨py x, py y, dat_dp 60 x v h.1 hx, dat_dp 60 y u h.2.1 hy, gd_shaped h.1, gd_shaped h.2.1, ret k R h.2.2 rfl⟩
theorem sound_ne : Sound2 X.K Γ (fun x y H Q => rNe x y H Q ∨ rNeD X.K x y H Q) neR := by
  intro x y v u H G Q3 Q R hx hy h k
  unfold neR at h
  split at h
  · obtain rfl : v = _ := hx
    obtain rfl : u = _ := hy
    exact .inl ⟨rfl, ret k R h (by show V.bl _ = V.bl _; rw [dec_int, Bool.beq_eq_decide_eq])⟩
  · obtain rfl : v = _ := hx
    obtain rfl : u = _ := hy
    exact .inl ⟨rfl, ret k R h (by show V.bl _ = V.bl _; rw [dec_str, Bool.beq_eq_decide_eq])⟩
  · obtain rfl : v = _ := hx
    obtain rfl : u = _ := hy
    exact .inl ⟨rfl, ret k R h (by show V.bl _ = V.bl _; rw [dec_bl, Bool.beq_eq_decide_eq])⟩
  · exact .inr ⟨py x, py y, dat_dp 60 x v h.1 hx, dat_dp 60 y u h.2.1 hy, gd_shaped h.1, gd_shaped h.2.1, ret k R h.2.2 rfl⟩
theorem sound_isN : Sound2 X.K Γ (fun x y H Q => y = .non ∧ Q (.bl (decide (x = .non))) H) isNR := by
  intro x y v u H G Q3 Q R hx hy h k
  unfold isNR at h
  split at h
  · obtain rfl : v = _ := hx
    exact ⟨hy, ret k R h rfl⟩
  · obtain ⟨_, _, rfl, _⟩ := hx
    exact ⟨hy, ret k R h rfl⟩
  · obtain rfl : v = _ := hx
    exact ⟨hy, ret k R h rfl⟩
  · obtain rfl : v = _ := hx
    exact ⟨hy, ret k R h rfl⟩
  · obtain rfl : v = _ := hx
    exact ⟨hy, ret k R h rfl⟩
  · obtain rfl : v = _ := hx
    exact ⟨hy, ret k R h rfl⟩
  · exact h.elim
theorem sound_notN : Sound2 X.K Γ (fun x y H Q => y = .non ∧ Q (.bl (!decide (x = .non))) H) isNotNR := by
  intro x y v u H G Q3 Q R hx hy h k
  unfold isNotNR at h
  split at h
  · obtain rfl : v = _ := hx
    exact ⟨hy, ret k R h rfl⟩
  · obtain ⟨_, _, rfl, _⟩ := hx
    exact ⟨hy, ret k R h rfl⟩
  · obtain rfl : v = _ := hx
    exact ⟨hy, ret k R h rfl⟩
  · obtain rfl : v = _ := hx
    exact ⟨hy, ret k R h rfl⟩
  · obtain rfl : v = _ := hx
    exact ⟨hy, ret k R h rfl⟩
  · obtain rfl : v = _ := hx
    exact ⟨hy, ret k R h rfl⟩
  · exact h.elim

/-! displays -/
@[simp] def TNil : TA3 := fun _ G Q _ => Q [] G
@[simp] def TCons (t : TE3) (r : TA3) : TA3 := fun δ G Q E => t δ G (fun x G1 => r δ G1 (fun xs G2 => Q (x :: xs) G2) E) E
theorem pa3_nil : PA3 X Γ W [] TNil := pa_imp pa_nil fun σ H Q ⟨δ, G, Q3, E3, R, h1, k, ke⟩ => k [] [] G H Step.refl R.hp rfl h1
theorem pa3_cons {es : List Expr} {t : TE3} {r : TA3} (ha : PE3 X Γ W e t) (hr : PA3 X Γ W es r) (hs : starEach (e :: es) X.env = (false, eval e X.env) :: starEach es X.env := by rfl) : PA3 X Γ W (e :: es) (TCons t r) := by
  refine pa_imp (pa_cons ha hr hs) fun σ H Q hw => ?_
  obtain ⟨δ, G, Q3, E3, R, h1, k, ke⟩ := hw
  refine ⟨δ, G, _, E3, R, h1, fun x v G1 H1 s1 hp1 dx q1 => ?_, ke⟩
  exact ⟨δ, G1, _, E3, R.mono s1 hp1, q1, fun xs vs G2 H2 s2 hp2 dl q2 => k (x :: xs) (v :: vs) G2 H2 (s1.trans s2) hp2 (.cons (dx.mono s2) dl) q2, fun cls G' H' s' => ke cls G' H' (s1.trans s')⟩
@[simp] def TTup (t : TA3) : TE3 := fun δ G Q E => t δ G (fun xs G1 => xs.length ≤ sizeLine ∧ Q (.tup xs) G1) E
/-- a list by value; a list that is owned -/
@[simp] def TLst (t : TA3) : TE3 := fun δ G Q E => t δ G (fun xs G1 => xs.length ≤ sizeLine ∧ Q (.lst xs) G1) E
@[simp] def TLstM (t : TA3) : TE3 := fun δ G Q E => t δ G (fun xs G1 => xs.length ≤ sizeLine ∧ ∀ l, G1 l = none → Q (.ref l) (gset G1 l (.lst xs))) E
theorem pe3_tup {es : List Expr} {t : TA3} {x1} (h : PA3 X Γ W es t) : PE3 X Γ W (.Tuple es x1 pos) (TTup t) := by
  refine pe_imp (pe_tup h) fun σ H Q hw => ?_
  obtain ⟨δ, G, Q3, E3, R, h1, k, ke⟩ := hw
  exact ⟨δ, G, _, E3, R, h1, fun xs vs G1 H1 s1 hp1 dl q1 => ⟨by rw [← dl.length]; exact q1.1, fun p hp => new_tup hp1 hp dl (fun d w G' H' s' => k d w G' H' (s1.trans s')) q1.2⟩, ke⟩
theorem pe3_lst {es : List Expr} {t : TA3} (h : PA3 X Γ W es t) : PE3 X Γ W (.List es pos) (TLst t) := by
  refine pe_imp (pe_lst h) fun σ H Q hw => ?_
  obtain ⟨δ, G, Q3, E3, R, h1, k, ke⟩ := hw
  exact ⟨δ, G, _, E3, R, h1, fun xs vs G1 H1 s1 hp1 dl q1 => ⟨by rw [← dl.length]; exact q1.1, fun p hp => new_lst hp1 hp dl (fun d w G' H' s' => k d w G' H' (s1.trans s')) q1.2⟩, ke⟩
theorem pe3_lstM {es : List Expr} {t : TA3} (h : PA3 X Γ W es t) : PE3 X Γ W (.List es pos) (TLstM t) := by
  refine pe_imp (pe_lst h) fun σ H Q hw => ?_
  obtain ⟨δ, G, Q3, E3, R, h1, k, ke⟩ := hw
  exact ⟨δ, G, _, E3, R, h1, fun xs vs G1 H1 s1 hp1 dl q1 => ⟨by rw [← dl.length]; exact q1.1, fun p hp => new_lstG hp1 hp dl (fun d w G' H' s' => k d w G' H' (s1.trans s')) q1.2⟩, ke⟩

/-! items -/
theorem datL_at {K : PySem.W.Frag} {H : Hp} {G : Gp} {ds : List D} {vs : List V} {i : Int} {d : D} (h : DatL K Γ H G ds vs) (e : atI ds i = some d) : ∃ v, atI vs i = some v ∧ Dat K Γ H G d v := by
  unfold atI at e ⊢
  rw [← h.length]
  cases q : ixN ds.length i with
  | none => rw [q] at e; cases e
  | some j =>
    rw [q] at e
    exact h.get (i := j) e
def ixR : R3 := fun x y G Q => match x, y with
  | .nod .lst xs, .int i => ∃ d, atI xs i = some d ∧ Q d G
  | .nod .tup xs, .int i => ∃ d, atI xs i = some d ∧ Q d G
  | .ref a, .int i => ∃ xs d, G a = some (.lst xs) ∧ atI xs i = some d ∧ Q d G
  | .str z, .int i => ∃ c, z.length ≤ sizeLine ∧ atI z.cps.toList i = some c ∧ Q (.str ⟨#[c]⟩) G
  | _, _ => False
theorem sound_ix : Sound2 X.K Γ (rIx X.K) ixR := by
  intro x y v u H G Q3 Q R hx hy h k
  unfold ixR at h
  split at h
  · obtain ⟨p, vs, rfl, h1, l1⟩ := hx
    obtain ⟨d, e, q⟩ := h
    obtain ⟨w, e2, dw⟩ := datL_at l1 e
    exact .inl ⟨p, vs, _, w, rfl, hy, SqL.of h1.2, e2, ret k R q dw⟩
  · obtain ⟨p, vs, rfl, h1, l1⟩ := hx
    obtain ⟨d, e, q⟩ := h
    obtain ⟨w, e2, dw⟩ := datL_at l1 e
    exact .inr (.inl ⟨p, vs, _, w, rfl, hy, SqT.of h1, e2, ret k R q dw⟩)
  · obtain rfl : v = _ := hx
    obtain ⟨xs, d, hg, e, q⟩ := h
    obtain ⟨vs, h1, l1⟩ := R.own _ _ (vis_some hg)
    obtain ⟨w, e2, dw⟩ := datL_at l1 e
    exact .inl ⟨_, vs, _, w, rfl, hy, SqL.of h1, e2, ret k R q dw⟩
  · obtain ⟨c, hz, e, q⟩ := h
    exact .inr (.inr ⟨_, _, c, hx, hy, hz, e, ret k R q rfl⟩)
  · exact h.elim
theorem pe3_ix (ha : PE3 X Γ W a ta) (hb : PE3 X Γ W b tb) (hs : PlainIx b) : PE3 X Γ W (.Subscript a b pos) (TOp ixR ta tb) :=
  pe_imp (pe_ix ix_seq ha hb hs) fun _ _ _ hw => op_sound sound_ix hw

/-! slices -/
abbrev TO3 := St3 → Gp → (Option Int → Gp → Prop) → X3 → Prop
def liftO (K : PySem.W.Frag) (Γ : Gm) (W : WX) (T : TO3) : TO := fun σ H Q => ∃ δ G Q3 E3, Rel K Γ δ G σ H ∧ T δ (vis G) Q3 E3 ∧
  (∀ o G' H', Step K H G H' G' → HpR K Γ H' G' → Q3 o (vis G') → Q o H') ∧ ∀ cls G' H', Step K H G H' G' → HpR K Γ H' G' → E3 cls (vis G') → W cls none σ H'
abbrev PO3 (X : Cx) (Γ : Gm) (W : WX) (e : Option Expr) (T : TO3) : Prop := PO X e (liftO X.K Γ W T)
theorem po_imp {o : Option Expr} {t t' : TO} (h : PO X o t) (f : ∀ σ H Q, t' σ H Q → t σ H Q) : PO X o t' := ⟨fun pins s σ H Q I hw => h.run pins s σ H Q I (f _ _ _ hw)⟩
@[simp] def TNoPart : TO3 := fun _ G Q _ => Q none G
@[simp] def TPart (t : TE3) : TO3 := fun δ G Q E => t δ G (fun x G1 => match x with | .int i => Q (some i) G1 | _ => False) E
theorem po3_none : PO3 X Γ W none TNoPart := po_imp po_none fun σ H Q ⟨δ, G, Q3, E3, R, h1, k, ke⟩ => k none G H Step.refl R.hp h1
theorem po3_some (h : PE3 X Γ W e ta) : PO3 X Γ W (some e) (TPart ta) := by
  refine po_imp (po_some h) fun σ H Q hw => ?_
  obtain ⟨δ, G, Q3, E3, R, h1, k, ke⟩ := hw
  refine ⟨δ, G, _, E3, R, h1, fun x v G1 H1 s1 hp1 dx q1 => ?_, ke⟩
  cases x with
  | int i => exact ⟨i, dx, k (some i) G1 H1 s1 hp1 q1⟩
  | _ => exact q1.elim
def cut3 (xs : List D) (lo hi : Option Int) : List D := (xs.drop (HT.sIx xs.length 0 lo)).take (HT.sIx xs.length xs.length hi - HT.sIx xs.length 0 lo)
theorem datL_cut {K : PySem.W.Frag} {H : Hp} {G : Gp} {ds : List D} {vs : List V} {lo hi : Option Int} (h : DatL K Γ H G ds vs) : DatL K Γ H G (cut3 ds lo hi) (cutV vs lo hi) := by
  unfold cut3 cutV
  rw [← h.length]
  exact (h.drop _).take _
@[simp] def TSl (t : TE3) (lo hi : TO3) : TE3 := fun δ G Q E => t δ G (fun x G1 => lo δ G1 (fun l G2 => hi δ G2 (fun u G3 => match x with
  | .nod .lst xs => Q (.lst (cut3 xs l u)) G3
  | .nod .ro xs => Q (.lst (cut3 xs l u)) G3
  | _ => False) E) E) E
theorem pe3_slice {lo hi : Option Expr} {tl th : TO3} {p2 : Pos} (he : PE3 X Γ W e ta) (hl : PO3 X Γ W lo tl) (hu : PO3 X Γ W hi th) : PE3 X Γ W (.Subscript e (.Slice lo hi none p2) pos) (TSl ta tl th) := by
  refine pe_imp (pe_slice sl_list he hl hu) fun σ H Q hw => ?_
  obtain ⟨δ, G, Q3, E3, R, h1, k, ke⟩ := hw
  refine ⟨δ, G, _, E3, R, h1, fun x v G1 H1 s1 hp1 dx q1 => ?_, ke⟩
  refine ⟨δ, G1, _, E3, R.mono s1 hp1, q1, fun l G2 H2 s2 hp2 q2 => ?_, fun cls G' H' s' => ke cls G' H' (s1.trans s')⟩
  refine ⟨δ, G2, _, E3, R.mono (s1.trans s2) hp2, q2, fun u G4 H4 s4 hp4 q4 => ?_, fun cls G' H' s' => ke cls G' H' ((s1.trans s2).trans s')⟩
  have dx4 := (dx.mono s2).mono s4
  split at q4
  · obtain ⟨p, vs, rfl, h2, l2⟩ := dx4
    exact ⟨p, vs, rfl, SqL.of h2.2, fun t ht => new_lst hp4 ht (datL_cut l2) (fun d w G' H' s' => k d w G' H' (((s1.trans s2).trans s4).trans s')) q4⟩
  · obtain ⟨p, vs, rfl, h2, l2⟩ := dx4
    refine ⟨p, vs, rfl, ?_, fun t ht => new_lst hp4 ht (datL_cut l2) (fun d w G' H' s' => k d w G' H' (((s1.trans s2).trans s4).trans s')) q4⟩
    rcases h2 with h2 | h2
    · exact .inl h2.2
    · rcases h2 with (z | ⟨_, z⟩) | z
      · cases z
      · cases z
      · exact .inr z
  · exact q4.elim

/-! calls of built-ins by name -/
abbrev C3 := List D → Gp → K3 → Prop
@[simp] def TCB (r : C3) (t : TA3) : TE3 := fun δ G Q E => t δ G (fun xs G1 => r xs G1 Q) E
theorem cb_sound {r : List V → Hp → VK → Prop} {r3 : C3} {t : TA3} (h : SoundN X.K Γ r r3) {σ : L2.St} {H : Hp} {Q : VK} (hw : lift X.K Γ W (TCB r3 t) σ H Q) : tCB r (liftA X.K Γ W t) σ H Q := by
  obtain ⟨δ, G, Q3, E3, R, h1, k, ke⟩ := hw
  refine ⟨δ, G, _, E3, R, h1, fun xs vs G1 H1 s1 hp1 dl q1 => ?_, ke⟩
  exact h xs vs H1 G1 _ _ hp1 dl q1 fun d w G' H' s3 hp3 dw q3 => k d w G' H' (s1.trans s3) hp3 dw q3
theorem pe3_callB {id : String} {x : Str} {es : List Expr} {p : Pos} {r : List V → Hp → VK → Prop} {r3 : C3} {t : TA3} (hc : CallR X (.builtin id) r) (hs : SoundN X.K Γ r r3) (hg : Gl X x) (hm : X.mg x = none) (hv : bootBuiltins x = some (.builtin id)) (ha : PA3 X Γ W (e :: es) t)
    (hn : x ≠ "__name__" := by decide) (hdb : (x == ("__debug__" : Str)) = false := by decide) (hst : starEach (e :: es) X.env = (false, eval e X.env) :: starEach es X.env := by rfl) (hpl : ((backTo pos (starEach es X.env)).any fun x => x.fst) = false := by rfl) : PE3 X Γ W (.Call (.Name x p) (e :: es) [] pos) (TCB r3 t) :=
  pe_imp (pe_callB hc hg hm hv ha hn hdb hst hpl) fun _ _ _ hw => cb_sound hs hw
end
end L3
/-! L3, part d: letting go, statements, blocks, targets. -/
namespace L3
open PySem L2

/-! ### letting go: what is no longer changed becomes data -/
def NoLk (G : Gp) (a : Addr) : Prop := ∀ g, G a = some g → g.lk = false
def Sub (G' G : Gp) : Prop := ∀ a, (G' a = none ∧ NoLk G a) ∨ G' a = G a
theorem Sub.refl {G : Gp} : Sub G G := fun _ => .inr rfl
theorem Sub.del {G : Gp} {a : Addr} (h : NoLk G a) : Sub (gdel G a) G := fun b => by
  by_cases e : b = a
  · subst e; exact .inl ⟨gdel_same, h⟩
  · exact .inr (gdel_ne e)
theorem Sub.trans {G1 G2 G3 : Gp} (a : Sub G1 G2) (b : Sub G2 G3) : Sub G1 G3 := fun x => by
  rcases a x with ⟨h, n⟩ | h
  · rcases b x with ⟨q, m⟩ | q
    · exact .inl ⟨h, m⟩
    · exact .inl ⟨h, fun g e => n g (q.trans e)⟩
  · rcases b x with ⟨q, m⟩ | q
    · exact .inl ⟨h.trans q, m⟩
    · exact .inr (h.trans q)
theorem Sub.no {G G' : Gp} (s : Sub G' G) {a : Addr} (h : G a = none) : G' a = none := by
  rcases s a with q | q
  · exact q.1
  · exact q.trans h
theorem Sub.set {G : Gp} {p : Addr} {o : GO} (h : G p = none) (hl : o.lk = false := by rfl) : Sub G (gset G p o) := fun a => by
  by_cases e : a = p
  · subst e; exact .inl ⟨h, fun g e => by rw [gset_same] at e; cases e; exact hl⟩
  · exact .inr (gset_ne e).symm
section
variable {K : PySem.W.Frag} {Γ : Gm} {H : Hp} {G G' : Gp}
theorem TagAt.sub (s : Sub G' G) {a : Addr} {vs : List V} : ∀ {t : Tag}, TagAt K H G t a vs → TagAt K H G' t a vs
  | .tup, h => h
  | .tuK, h => h
  | .lst, h => ⟨s.no h.1, h.2⟩
  | .ro, h => h.imp (fun h => ⟨s.no h.1, h.2⟩) id
  | .dK ks, h => ⟨s.no h.1, h.2⟩
  | .dT ks, h => ⟨s.no h.1, h.2⟩
  | .obj C ns, h => ⟨s.no h.1, h.2⟩
mutual
theorem Dat.sub (s : Sub G' G) : ∀ {d : D} {v : V}, Dat K Γ H G d v → Dat K Γ H G' d v
  | .non, _, h => h
  | .bl _, _, h => h
  | .int _, _, h => h
  | .str _, _, h => h
  | .ref _, _, h => h
  | .clo i, v, h => let ⟨f, c, e, n, n2, hf, nt⟩ := h; ⟨f, c, e, s.no n, s.no n2, hf, nt⟩
  | .nod t xs, v, h => by
    obtain ⟨a, vs, e, ht, hl⟩ := h
    exact ⟨a, vs, e, ht.sub s, DatL.sub s hl⟩
theorem DatL.sub (s : Sub G' G) : ∀ {ds : List D} {vs : List V}, DatL K Γ H G ds vs → DatL K Γ H G' ds vs
  | [], _, h => h
  | d :: ds, vs, h => by
    obtain ⟨v, r, e, h1, h2⟩ := h
    exact ⟨v, r, e, Dat.sub s h1, DatL.sub s h2⟩
end
theorem GOk.sub (s : Sub G' G) {a : Addr} : ∀ {g : GO}, GOk K Γ H G a g → GOk K Γ H G' a g
  | .lst ds, h => by obtain ⟨vs, e, l⟩ := h; exact ⟨vs, e, l.sub s⟩
  | .dK ds, h => by obtain ⟨vs, e, l⟩ := h; exact ⟨vs, e, Paired.mapP l fun _ _ q => ⟨q.1, q.2.sub s⟩⟩
  | .dT ds, h => by obtain ⟨vs, e, l⟩ := h; exact ⟨vs, e, Paired.mapP l fun _ _ q => ⟨q.1, q.2.sub s⟩⟩
  | .ins C ds, h => by obtain ⟨dx, vs, e, l⟩ := h; exact ⟨dx, vs, e, Paired.mapP l fun _ _ q => ⟨q.1, q.2.sub s⟩⟩
  | .lkK ds, h => by obtain ⟨dx, vs, e, l⟩ := h; exact ⟨dx, vs, e, Paired.mapP l fun _ _ q => ⟨q.1, q.2.sub s⟩⟩
  | .lkT ds, h => by obtain ⟨dx, vs, e, l⟩ := h; exact ⟨dx, vs, e, Paired.mapP l fun _ _ q => ⟨q.1, q.2.sub s⟩⟩
  | .hid, h => h
theorem HpR.sub (R : HpR K Γ H G) (s : Sub G' G) : HpR K Γ H G' := ⟨fun a g e => by
  rcases s a with q | q
  · rw [q.1] at e; cases e
  · rw [q] at e
    exact (R.own a g e).sub s, R.tab⟩
theorem Step.sub (s : Sub G' G) (hd : ∀ a, G a = some .hid → G' a = some .hid) {H0 : Hp} {G0 : Gp} (t : Step K H0 G0 H G) : Step K H0 G0 H G' := ⟨⟨t.tup, t.frm, fun a h => hd a (t.hid a h), fun a o h n nt => ⟨s.no (t.own a o h n nt).1, (t.own a o h n nt).2⟩, fun a g h l => by
  obtain ⟨h1, k1⟩ := t.lck a g h l
  refine ⟨?_, k1⟩
  rcases s a with ⟨_, n⟩ | q
  · have := n g h1; rw [l] at this; cases this
  · exact q.trans h1⟩, t.frh⟩
end
/-- d, let go, is d' (G, G' as they are seen) -/
def Fz (G G' : Gp) (d d' : D) : Prop := ∀ (K : PySem.W.Frag) (Γ : Gm) (H : Hp) (Gf : Gp) (v : V), vis Gf = G → HpR K Γ H Gf → Dat K Γ H (ovl Gf G') d v → Dat K Γ H (ovl Gf G') d' v
def FzL (G G' : Gp) (ds ds' : List D) : Prop := ∀ (K : PySem.W.Frag) (Γ : Gm) (H : Hp) (Gf : Gp) (vs : List V), vis Gf = G → HpR K Γ H Gf → DatL K Γ H (ovl Gf G') ds vs → DatL K Γ H (ovl Gf G') ds' vs
theorem sub_ovl {G' Gf : Gp} (s : Sub G' (vis Gf)) : Sub (ovl Gf G') Gf := fun a => by
  unfold ovl
  split
  · rename_i e; exact .inr e.symm
  · rename_i e
    rcases s a with q | q
    · exact .inl ⟨q.1, fun g h => q.2 g (by unfold vis; split <;> first | (rename_i e2; exact absurd e2 e) | exact h)⟩
    · right
      rw [q]
      unfold vis
      split
      · rename_i e2; exact absurd e2 e
      · rfl
theorem vis_sub {G' Gf : Gp} (s : Sub G' (vis Gf)) : vis (ovl Gf G') = G' := vis_ovl (fun a e => by
  rcases s a with q | q
  · exact q.1
  · rw [q]; unfold vis; rw [e]) (fun a e => by
  rcases s a with q | q
  · rw [e] at q; cases q.1
  · rw [e] at q
    have q := q.symm
    unfold vis at q
    split at q
    · cases q
    · rename_i h; exact h q)
section
variable {G G' : Gp}
theorem Fz.same {d : D} : Fz G G' d d := fun _ _ _ _ _ _ _ h => h
theorem Fz.trans {a b c : D} (h : Fz G G' a b) (h' : Fz G G' b c) : Fz G G' a c := fun K Γ H Gf v e R q => h' K Γ H Gf v e R (h K Γ H Gf v e R q)
theorem FzL.nil : FzL G G' [] [] := fun _ _ _ _ _ _ _ h => h
theorem FzL.same {ds : List D} : FzL G G' ds ds := fun _ _ _ _ _ _ _ h => h
theorem FzL.cons {d d' : D} {ds ds' : List D} (h : Fz G G' d d') (t : FzL G G' ds ds') : FzL G G' (d :: ds) (d' :: ds') := fun K Γ H Gf vs e R q => by
  obtain ⟨v, r, e1, h1, h2⟩ := q
  exact ⟨v, r, e1, h K Γ H Gf v e R h1, t K Γ H Gf r e R h2⟩
theorem Fz.nod {t : Tag} {xs ys : List D} (h : FzL G G' xs ys) : Fz G G' (.nod t xs) (.nod t ys) := fun K Γ H Gf v e R q => by
  obtain ⟨a, vs, e1, ht, hl⟩ := q
  exact ⟨a, vs, e1, ht, h K Γ H Gf vs e R hl⟩
theorem fz_none {Gf : Gp} (e : vis Gf = G) {l : Addr} {g : GO} (h : G l = some g) (n : G' l = none) : Gf l = some g ∧ ovl Gf G' l = none := by
  subst e
  have h1 := vis_some h
  refine ⟨h1, ?_⟩
  unfold ovl
  split
  · rename_i e2
    unfold vis at h
    rw [e2] at h
    cases h
  · exact n
theorem Fz.lst (s : Sub G' G) {l : Addr} {ds : List D} (e : G l = some (.lst ds)) (n : G' l = none) : Fz G G' (.ref l) (.lst ds) := fun K Γ H Gf v eg R q => by
  obtain rfl : v = _ := q
  obtain ⟨e1, n1⟩ := fz_none eg e n
  obtain ⟨vs, h1, h2⟩ := R.own _ _ e1
  exact ⟨_, vs, rfl, ⟨n1, h1⟩, h2.sub (sub_ovl (by rw [eg]; exact s))⟩
theorem Fz.dK (s : Sub G' G) {l : Addr} {ds : List (Key × D)} (e : G l = some (.dK ds)) (n : G' l = none) : Fz G G' (.ref l) (.dK ds) := fun K Γ H Gf v eg R q => by
  obtain rfl : v = _ := q
  obtain ⟨e1, n1⟩ := fz_none eg e n
  obtain ⟨vs, h1, h2⟩ := R.own _ _ e1
  refine ⟨_, vs.map (·.2), rfl, ⟨n1, by rw [List.length_map, List.length_map]; exact DatF.length h2, .inl ?_⟩, (DatF.snd h2).sub (sub_ovl (by rw [eg]; exact s))⟩
  rw [← DatF.fst h2, zip_self]; exact h1
theorem Fz.dT (s : Sub G' G) {l : Addr} {ds : List (List Key × D)} (e : G l = some (.dT ds)) (n : G' l = none) : Fz G G' (.ref l) (.dT ds) := fun K Γ H Gf v eg R q => by
  obtain rfl : v = _ := q
  obtain ⟨e1, n1⟩ := fz_none eg e n
  obtain ⟨vs, h1, h2⟩ := R.own _ _ e1
  refine ⟨_, vs.map (·.2), rfl, ⟨n1, by rw [List.length_map, List.length_map]; exact DatF.length h2, .inl ?_⟩, (DatF.snd h2).sub (sub_ovl (by rw [eg]; exact s))⟩
  rw [← DatF.fst h2, zip_self]; exact h1
theorem Fz.ins (s : Sub G' G) {l : Addr} {C : Addr} {ds : List (Str × D)} (e : G l = some (.ins C ds)) (n : G' l = none) : Fz G G' (.ref l) (.obj C ds) := fun K Γ H Gf v eg R q => by
  obtain rfl : v = _ := q
  obtain ⟨e1, n1⟩ := fz_none eg e n
  obtain ⟨dx, vs, h1, h2⟩ := R.own _ _ e1
  refine ⟨_, vs.map (·.2), rfl, ⟨n1, by rw [List.length_map, List.length_map]; exact DatF.length h2, dx, ?_⟩, (DatF.snd h2).sub (sub_ovl (by rw [eg]; exact s))⟩
  rw [← DatF.fst h2, zip_self]; exact h1
end
/-- the frame's names, let go -/
inductive FzE (G G' : Gp) : St3 → St3 → Prop
  | nil : FzE G G' [] []
  | same {d : Option D} {δ δ' : St3} (t : FzE G G' δ δ') : FzE G G' (d :: δ) (d :: δ')
  | fz {d d' : D} {δ δ' : St3} (h : Fz G G' d d') (t : FzE G G' δ δ') : FzE G G' (some d :: δ) (some d' :: δ')
  | forget {d : Option D} {δ δ' : St3} (t : FzE G G' δ δ') : FzE G G' (d :: δ) (none :: δ')
theorem FzE.refl {G G' : Gp} : ∀ {δ : St3}, FzE G G' δ δ
  | [] => .nil
  | _ :: _ => .same FzE.refl
theorem FzE.len {G G' : Gp} {δ δ' : St3} (h : FzE G G' δ δ') : δ'.length = δ.length := by
  induction h with
  | nil => rfl
  | same t ih => simp [ih]
  | fz h t ih => simp [ih]
  | forget t ih => simp [ih]
theorem FzE.get {G G' : Gp} {δ δ' : St3} (h : FzE G G' δ δ') : ∀ (i : Nat) (d' : D), δ'[i]? = some (some d') → ∃ d, δ[i]? = some (some d) ∧ Fz G G' d d' := by
  induction h with
  | nil => intro i d' e; simp at e
  | same t ih =>
    intro i d' e
    cases i with
    | zero => simp at e; subst e; exact ⟨d', by simp, Fz.same⟩
    | succ i => simpa using ih i d' (by simpa using e)
  | fz h t ih =>
    intro i d' e
    cases i with
    | zero => simp at e; subst e; exact ⟨_, by simp, h⟩
    | succ i => simpa using ih i d' (by simpa using e)
  | forget t ih =>
    intro i d' e
    cases i with
    | zero => simp at e
    | succ i => simpa using ih i d' (by simpa using e)
theorem ovl_hid {G G' : Gp} (a : Addr) (h : G a = some .hid) : ovl G G' a = some .hid := by unfold ovl; rw [h]
theorem Rel.sub {K : PySem.W.Frag} {Γ : Gm} {δ δ' : St3} {G G' : Gp} {σ : L2.St} {H : Hp} (R : Rel K Γ δ G σ H) (s : Sub G' (vis G)) (f : FzE (vis G) G' δ δ') : Rel K Γ δ' (ovl G G') σ H := by
  refine ⟨by rw [f.len]; exact R.len, fun i d' e => ?_, R.hp.sub (sub_ovl s)⟩
  obtain ⟨d, h1, h2⟩ := f.get i d' e
  obtain ⟨v, h3, h4⟩ := R.get i d h1
  exact ⟨v, h3, h2 K Γ H G v rfl R.hp (h4.sub (sub_ovl s))⟩
theorem Step.let {K : PySem.W.Frag} {H0 H : Hp} {G0 G G' : Gp} (t : Step K H0 G0 H G) (s : Sub G' (vis G)) : Step K H0 G0 H (ovl G G') := Step.sub (sub_ovl s) (fun a h => ovl_hid a h) t

/-! ### blocks and small statements -/
section
variable {K : PySem.W.Frag} {Γ : Gm} {W : WX} {H H1 : Hp} {G G1 : Gp} {D3 : Ends3} {D' : Ends}
theorem KeepS.after (s : Step K H G H1 G1) (k : KeepS K Γ W H G D3 D') : KeepS K Γ W H1 G1 D3 D' :=
  ⟨fun δ' G' σ' H' t => k.nx δ' G' σ' H' (s.trans t), fun d v G' H' t => k.rt d v G' H' (s.trans t), fun δ' G' σ' H' t => k.bk δ' G' σ' H' (s.trans t), fun δ' G' σ' H' t => k.ct δ' G' σ' H' (s.trans t), fun c δ' G' σ' H' t => k.ex c δ' G' σ' H' (s.trans t)⟩
end
section
variable {X : Cx} {Γ : Gm} {W : WX} {e a b c : Expr} {pos : Pos} {st : Stmt} {rest : List Stmt} {ta tb tc : TE3} {T U : TS3}
@[simp] def TNext : TS3 := fun D3 δ G => D3.nx δ G
@[simp] def TSeq (T U : TS3) : TS3 := fun D3 δ G => T { D3 with nx := U D3 } δ G
theorem pss3_nil : PSs3 X Γ W [] TNext := pss_imp pss_nil fun D' σ H ⟨δ, G, D3, R, h, k⟩ => k.nx δ G σ H Step.refl R h
theorem pss3_cons (h1 : PS3 X Γ W st T) (h2 : PSs3 X Γ W rest U) : PSs3 X Γ W (st :: rest) (TSeq T U) := by
  refine pss_imp (pss_cons h1 h2) fun D' σ H hw => ?_
  obtain ⟨δ, G, D3, R, h, k⟩ := hw
  exact ⟨δ, G, _, R, h, ⟨fun δ' G' σ' H' s R' q => ⟨δ', G', D3, R', q, k.after s⟩, k.rt, k.bk, k.ct, k.ex⟩⟩
theorem pss3_one (h1 : PS3 X Γ W st T) : PSs3 X Γ W [st] T := pss_one h1
/-- letting go ahead of a block -/
def TShift (T : TS3) : TS3 := fun D3 δ G => ∃ G' δ', Sub G' G ∧ FzE G G' δ δ' ∧ T D3 δ' G'
theorem pss3_shift (h : PSs3 X Γ W rest T) : PSs3 X Γ W rest (TShift T) := pss_imp h fun D' σ H hw => by
  obtain ⟨δ, G, D3, R, ⟨G', δ', s, f, h⟩, k⟩ := hw
  exact ⟨δ', ovl G G', D3, R.sub s f, by rw [vis_sub s]; exact h, k.after (Step.let Step.refl s)⟩
theorem ps3_shift (h : PS3 X Γ W st T) : PS3 X Γ W st (TShift T) := ps_imp h fun D' σ H hw => by
  obtain ⟨δ, G, D3, R, ⟨G', δ', s, f, h⟩, k⟩ := hw
  exact ⟨δ', ovl G G', D3, R.sub s f, by rw [vis_sub s]; exact h, k.after (Step.let Step.refl s)⟩
/-- letting go behind an expression -/
def TFrz (T : TE3) : TE3 := fun δ G Q E => T δ G (fun d G1 => ∃ d' G2, Sub G2 G1 ∧ Fz G1 G2 d d' ∧ Q d' G2) E
theorem pe3_frz (h : PE3 X Γ W e ta) : PE3 X Γ W e (TFrz ta) := pe_imp h fun σ H Q hw => by
  obtain ⟨δ, G, Q3, E3, R, h1, k, ke⟩ := hw
  exact ⟨δ, G, _, E3, R, h1, fun d v G1 H1 s1 hp1 dv ⟨d', G2, sb, f, q⟩ => k d' v (ovl G1 G2) H1 (s1.let sb) (hp1.sub (sub_ovl sb)) (f X.K Γ H1 G1 v rfl hp1 (dv.sub (sub_ovl sb))) (by rw [vis_sub sb]; exact q), ke⟩
theorem ps3_pass : PS3 X Γ W (.Pass pos) TNext := ps_imp ps_pass fun D' σ H ⟨δ, G, D3, R, h, k⟩ => k.nx δ G σ H Step.refl R h
@[simp] def TBrk : TS3 := fun D3 δ G => D3.bk δ G
@[simp] def TCnt : TS3 := fun D3 δ G => D3.ct δ G
theorem ps3_break : PS3 X Γ W (.Break pos) TBrk := ps_imp ps_break fun D' σ H ⟨δ, G, D3, R, h, k⟩ => k.bk δ G σ H Step.refl R h
theorem ps3_continue : PS3 X Γ W (.Continue pos) TCnt := ps_imp ps_continue fun D' σ H ⟨δ, G, D3, R, h, k⟩ => k.ct δ G σ H Step.refl R h
@[simp] def TDrop (t : TE3) : TS3 := fun D3 δ G => t δ G (fun _ G1 => D3.nx δ G1) (fun cls G1 => D3.ex cls δ G1)
theorem ps3_expr (he : PE3 X Γ W e ta) (hs : swapsWith e none pos.line X.env = pure false := by rfl) : PS3 X Γ W (.Expr e pos) (TDrop ta) := by
  refine ps_imp (ps_expr he hs) fun D' σ H hw => ?_
  obtain ⟨δ, G, D3, R, h, k⟩ := hw
  exact ⟨δ, G, _, _, R, h, fun d v G' H' s hp dv q => k.nx δ G' σ H' s (R.mono s hp) q, fun cls G' H' s hp q => k.ex cls δ G' σ H' s (R.mono s hp) q⟩
@[simp] def TRet (t : TE3) : TS3 := fun D3 δ G => t δ G D3.rt (fun cls G1 => D3.ex cls δ G1)
theorem ps3_ret (he : PE3 X Γ W e ta) : PS3 X Γ W (.Return (some e) pos) (TRet ta) := by
  refine ps_imp (ps_ret he) fun D' σ H hw => ?_
  obtain ⟨δ, G, D3, R, h, k⟩ := hw
  exact ⟨δ, G, _, _, R, h, fun d v G' H' s hp dv q => k.rt d v G' H' s hp dv q, fun cls G' H' s hp q => k.ex cls δ G' σ H' s (R.mono s hp) q⟩
@[simp] def TRetN : TS3 := fun D3 δ G => D3.rt .non G
theorem ps3_retN : PS3 X Γ W (.Return none pos) TRetN := ps_imp ps_retN fun D' σ H ⟨δ, G, D3, R, h, k⟩ => k.rt .non .non G H Step.refl R.hp rfl h
@[simp] def TIfS (t : TT3) (T U : TS3) : TS3 := fun D3 δ G => t δ G (fun b G1 => if b = true then T D3 δ G1 else U D3 δ G1) (fun cls G1 => D3.ex cls δ G1)
theorem ps3_if {c : Expr} {p q : List Stmt} {t : TT3} (hc : PT3 X Γ W c t) (ha : PSs3 X Γ W p T) (hb : PSs3 X Γ W q U) : PS3 X Γ W (.If c p q pos) (TIfS t T U) := by
  refine ps_imp (ps_if hc ha hb) fun D' σ H hw => ?_
  obtain ⟨δ, G, D3, R, h, k⟩ := hw
  refine ⟨δ, G, _, _, R, h, fun d G' H' s hp q => ?_, fun cls G' H' s hp q => k.ex cls δ G' σ H' s (R.mono s hp) q⟩
  cases d with
  | true => exact ⟨δ, G', D3, R.mono s hp, q, k.after s⟩
  | false => exact ⟨δ, G', D3, R.mono s hp, q, k.after s⟩
theorem pss3_never {sts : List Stmt} : PSs3 X Γ W sts (fun _ _ _ => False) := pss_imp pss_never fun D' σ H ⟨δ, G, D3, R, h, k⟩ => h.elim

/-! targets -/
@[simp] def GName (i : Nat) : TG3 := fun d δ G Q _ => Q (δ.set i (some d)) G
theorem pg3_name {i : Nat} {x : Str} (hN : X.N.Nodup) (hi : X.N[i]? = some x) (hx : Loc X.env.scope x) (hf : X.fn x = true ∨ X.env.scope.names.lookup x = some .local := by first | exact .inl rfl | exact .inr rfl | assumption) : PG3 X Γ W (.Name x pos) (GName i) :=
  pg_imp (pg_name hN hi hx hf) fun v σ H Q ⟨d, δ, G, Q3, E3, R, dv, h, k, ke⟩ => k _ G _ H Step.refl (R.set dv) h
@[simp] def GNil : TGs3 := fun ds δ G Q _ => ds = [] ∧ Q δ G
@[simp] def GCons (t : TG3) (u : TGs3) : TGs3 := fun ds δ G Q E => match ds with | [] => False | d :: r => t d δ G (fun δ' G' => u r δ' G' Q E) E
theorem pgs3_nil : PGs3 X Γ W [] GNil := pgs_imp pgs_nil fun vs σ H Q ⟨ds, δ, G, Q3, E3, R, dl, h, k, ke⟩ => by
  obtain ⟨rfl, h⟩ := h
  exact ⟨dl, k δ G σ H Step.refl R h⟩
/-- (targets after the first do not raise: E is the same for all, at the frame as it was ahead) -/
theorem pgs3_cons {es : List Expr} {t : TG3} {u : TGs3} (h1 : PG3 X Γ (fun _ _ _ _ => False) e t) (h2 : PGs3 X Γ (fun _ _ _ _ => False) es u)
    (hs : (assignEach (e :: es) X.env).map (·.2) = assign e X.env :: (assignEach es X.env).map (·.2) := by rfl) : PGs3 X Γ (fun _ _ _ _ => False) (e :: es) (fun ds δ G Q _ => GCons t u ds δ G Q fun _ _ => False) := by
  refine pgs_imp (pgs_cons h1 h2 hs) fun vs σ H Q hw => ?_
  obtain ⟨ds, δ, G, Q3, E3, R, dl, h, k, ke⟩ := hw
  cases ds with
  | nil => exact h.elim
  | cons d r =>
    obtain ⟨v, vr, rfl, d1, d2⟩ := dl
    refine ⟨v, vr, rfl, d, δ, G, _, _, R, d1, h, fun δ' G' σ' H' s R' q => ?_, fun _ _ _ _ _ z => z⟩
    exact ⟨r, δ', G', Q3, _, R', d2.mono s, q, fun δ2 G2 σ2 H2 s2 => k δ2 G2 σ2 H2 (s.trans s2), fun _ _ _ _ _ z => z⟩
/-- (a, b, ..): the thing is a tuple of that length -/
@[simp] def GTup (n : Nat) (t : TGs3) : TG3 := fun d δ G Q E => match d with | .nod .tup xs => xs.length = n ∧ t xs δ G Q E | _ => False
theorem pg3_tup {es : List Expr} {j : Nat} {t : TGs3} {n : Nat} (hc : X.calm = true) (h : PGs3 X Γ W es t) (hn : (assignEach es X.env).length = n := by rfl) (hst : (assignEach es X.env).findIdx? (·.1) = none := by rfl) : PG3 X Γ W (.Tuple es j pos) (GTup n t) := by
  refine pg_imp (pg_tup hc h hn hst) fun v σ H Q hw => ?_
  obtain ⟨d, δ, G, Q3, E3, R, dv, h, k, ke⟩ := hw
  unfold GTup at h
  split at h
  · obtain ⟨a, vs, rfl, h1, l1⟩ := dv
    exact ⟨a, vs, rfl, SqT.of h1, by rw [← l1.length]; exact h.1, _, δ, G, Q3, E3, R, l1, h.2, k, ke⟩
  · exact h.elim
theorem pg3_imp {e : Expr} {t : TG3} (h : PG3 X Γ (fun _ _ _ _ => False) e t) : PG3 X Γ W e (fun d δ G Q _ => t d δ G Q fun _ _ => False) :=
  pg_imp h fun v σ H Q ⟨d, δ, G, Q3, E3, R, dv, h, k, ke⟩ => ⟨d, δ, G, Q3, _, R, dv, h, k, fun _ _ _ _ _ z => z⟩
@[simp] def TAsg (t : TE3) (g : TG3) : TS3 := fun D3 δ G => t δ G (fun d G1 => g d δ G1 (fun δ' G2 => D3.nx δ' G2) (fun cls G2 => D3.ex cls δ G2)) (fun cls G1 => D3.ex cls δ G1)
theorem asg_sound {t : TE3} {g : TG3} {D' : Ends} {σ : L2.St} {H : Hp} (hw : liftS X.K Γ W (TAsg t g) D' σ H) : tAsg (lift X.K Γ W t) (liftG X.K Γ W g) D' σ H := by
  obtain ⟨δ, G, D3, R, h, k⟩ := hw
  refine ⟨δ, G, _, _, R, h, fun d v G1 H1 s1 hp1 dv q => ?_, fun cls G' H' s hp q => k.ex cls δ G' σ H' s (R.mono s hp) q⟩
  exact ⟨d, δ, G1, _, _, R.mono s1 hp1, dv, q, fun δ' G' σ' H' s R' q => k.nx δ' G' σ' H' (s1.trans s) R' q, fun cls G' H' s hp q => k.ex cls δ G' σ H' (s1.trans s) (R.mono (s1.trans s) hp) q⟩
theorem ps3_asg {tg : Expr} {g : TG3} (he : PE3 X Γ W e ta) (hg : PG3 X Γ W tg g) (hs : swapsWithSole [tg] e pos.line X.env = pure false := by rfl) (hw : swappedStores [tg] e X.env = pure none := by rfl)
    (h1 : (assignEach [tg] X.env).map (·.2) = [assign tg X.env] := by rfl) : PS3 X Γ W (.Assign [tg] e pos) (TAsg ta g) := ps_imp (ps_asg he hg hs hw h1) fun _ _ _ hw => asg_sound hw
@[simp] def TSet (t : TE3) (i : Nat) : TS3 := fun D3 δ G => t δ G (fun d G1 => D3.nx (δ.set i (some d)) G1) (fun cls G1 => D3.ex cls δ G1)
theorem set_sound {t : TE3} {i : Nat} {D' : Ends} {σ : L2.St} {H : Hp} (hw : liftS X.K Γ W (TSet t i) D' σ H) : tAsg (lift X.K Γ W t) (gName i) D' σ H := by
  obtain ⟨δ, G, D3, R, h, k⟩ := hw
  exact ⟨δ, G, _, _, R, h, fun d v G1 H1 s1 hp1 dv q => k.nx _ G1 _ H1 s1 ((R.mono s1 hp1).set dv) q, fun cls G' H' s hp q => k.ex cls δ G' σ H' s (R.mono s hp) q⟩
theorem ps3_set {i : Nat} {x : Str} {pos' : Pos} (hN : X.N.Nodup) (hi : X.N[i]? = some x) (hx : Loc X.env.scope x) (he : PE3 X Γ W e ta) (hs : swapsWith e (some (.Name x pos')) pos.line X.env = pure false := by rfl) (hf : X.fn x = true ∨ X.env.scope.names.lookup x = some .local := by first | exact .inl rfl | exact .inr rfl | assumption) :
    PS3 X Γ W (.Assign [.Name x pos'] e pos) (TSet ta i) := ps_imp (ps_set hN hi hx he hs hf) fun _ _ _ hw => set_sound hw
/-- a, b = x, y (plain locals) -/
@[simp] def TPar (i j : Nat) (t : TA3) : TS3 := fun D3 δ G => t δ G (fun ds G1 => match ds with | [a, b] => D3.nx ((δ.set i (some a)).set j (some b)) G1 | _ => False) (fun cls G1 => D3.ex cls δ G1)
theorem ps3_par {i j : Nat} {x y : Str} {t : TA3} {px py pt : Pos} {kt k2 pt2} (hc : X.calm = true) (hN : X.N.Nodup) (hi : X.N[i]? = some x) (hj : X.N[j]? = some y) (hij : i ≠ j)
    (hx : X.env.scope.names.lookup x = some .local) (hy : X.env.scope.names.lookup y = some .local) (ha : PA3 X Γ W [a, b] t)
    (hw : swappedStores [.Tuple [.Name x px, .Name y py] kt pt] (.Tuple [a, b] k2 pt2) X.env = pure (some [x, y]))
    (hs : swapsWithSole [.Tuple [.Name x px, .Name y py] kt pt] (.Tuple [a, b] k2 pt2) pos.line X.env = pure false := by rfl) :
    PS3 X Γ W (.Assign [.Tuple [.Name x px, .Name y py] kt pt] (.Tuple [a, b] k2 pt2) pos) (TPar i j t) := by
  refine ps_imp (ps_par hc hN hi hj hij hx hy ha hw hs) fun D' σ H hw => ?_
  obtain ⟨δ, G, D3, R, h, k⟩ := hw
  refine ⟨δ, G, _, _, R, h, fun ds vs G1 H1 s1 hp1 dl q => ?_, fun cls G' H' s hp q => k.ex cls δ G' σ H' s (R.mono s hp) q⟩
  split at q
  · obtain ⟨v, r, rfl, d1, r2, r3, rfl, d2, rfl⟩ := dl
    exact ⟨v, r2, rfl, k.nx _ G1 _ H1 s1 (((R.mono s1 hp1).set d1).set d2) q⟩
  · exact q.elim
end
end L3
/-! L3, part e: what is walked; for, while, comprehensions. -/
namespace L3
open PySem L2

/-- J walks the items ds, as long as P holds of the heaps -/
structure Walk3 (K : PySem.W.Frag) (Γ : Gm) (J : It) (P : Hp → Gp → Prop) (ds : List D) : Prop where
  keep : ∀ H G H' G', Step0 K H G H' G' → P H G → P H' G'
  go : ∀ i H G, i < ds.length → P H G → HpR K Γ H G → J.go i H
  yld : ∀ i H G x H', i < ds.length → P H G → HpR K Γ H G → J.yld i H x H' → Step K H G H' G ∧ HpR K Γ H' G ∧ ∃ d, ds[i]? = some d ∧ Dat K Γ H' G d x
  stop : ∀ H G, P H G → HpR K Γ H G → J.stop ds.length H
abbrev TI3 := St3 → Gp → (List D → Gp → Prop) → X3 → Prop
def liftI (K : PySem.W.Frag) (Γ : Gm) (W : WX) (T : TI3) : TI := fun σ H R => ∃ δ G Q3 E3, Rel K Γ δ G σ H ∧ T δ (vis G) Q3 E3 ∧
  (∀ ds J P G' H', Step K H G H' G' → HpR K Γ H' G' → Walk3 K Γ J P ds → P H' G' → Q3 ds (vis G') → R J H') ∧ ∀ cls G' H', Step K H G H' G' → HpR K Γ H' G' → E3 cls (vis G') → W cls none σ H'
abbrev PI3 (X : Cx) (Γ : Gm) (W : WX) (tg iter : Expr) (T : TI3) : Prop := PI X tg iter (liftI X.K Γ W T)
theorem pi_imp {X : Cx} {tg iter : Expr} {t t' : TI} (h : PI X tg iter t) (f : ∀ σ H R, t' σ H R → t σ H R) : PI X tg iter t' := ⟨fun pins s σ H R I hw => h.run pins s σ H R I (f _ _ _ hw)⟩
theorem pi_or {X : Cx} {tg iter : Expr} {t t' : TI} (h : PI X tg iter t) (h' : PI X tg iter t') : PI X tg iter (fun σ H R => t σ H R ∨ t' σ H R) := ⟨fun pins s σ H R I hw => hw.elim (h.run pins s σ H R I) (h'.run pins s σ H R I)⟩
theorem get_some {ds : List D} {i : Nat} (h : i < ds.length) : ∃ d, ds[i]? = some d := ⟨ds[i], List.getElem?_eq_getElem h⟩

section
variable {K : PySem.W.Frag} {Γ : Gm}
theorem walk_lst {a : Addr} {ds : List D} : Walk3 K Γ (Itl K a) (fun H G => Dat K Γ H G (.lst ds) (.ref a)) ds where
  keep := fun H G H' G' s h => h.mono0 s
  go := fun i H G hi h R => by
    obtain ⟨a', vs, e, h1, l⟩ := h
    cases e
    obtain ⟨d, hd⟩ := get_some hi
    obtain ⟨v, hv, _⟩ := l.get hd
    exact ⟨vs, v, SqL.of h1.2, hv⟩
  yld := fun i H G x H' hi h R y => by
    obtain ⟨a', vs, e, h1, l⟩ := h
    cases e
    obtain ⟨rfl, y⟩ := y
    obtain ⟨d, hd, dd⟩ := l.get' (y vs (SqL.of h1.2))
    exact ⟨Step.refl, R, d, hd, dd⟩
  stop := fun H G h R => by
    obtain ⟨a', vs, e, h1, l⟩ := h
    cases e
    exact ⟨vs, SqL.of h1.2, by rw [l.length]; exact Nat.le_refl _⟩
theorem walk_tup {a : Addr} {ds : List D} : Walk3 K Γ (Itt K a) (fun H G => Dat K Γ H G (.tup ds) (.ref a)) ds where
  keep := fun H G H' G' s h => h.mono0 s
  go := fun i H G hi h R => by
    obtain ⟨a', vs, e, h1, l⟩ := h
    cases e
    obtain ⟨d, hd⟩ := get_some hi
    obtain ⟨v, hv, _⟩ := l.get hd
    exact ⟨vs, v, SqT.of h1, hv⟩
  yld := fun i H G x H' hi h R y => by
    obtain ⟨a', vs, e, h1, l⟩ := h
    cases e
    obtain ⟨rfl, y⟩ := y
    obtain ⟨d, hd, dd⟩ := l.get' (y vs (SqT.of h1))
    exact ⟨Step.refl, R, d, hd, dd⟩
  stop := fun H G h R => by
    obtain ⟨a', vs, e, h1, l⟩ := h
    cases e
    exact ⟨vs, SqT.of h1, by rw [l.length]; exact Nat.le_refl _⟩
theorem walk_tuK {a : Addr} {ds : List D} : Walk3 K Γ (Itt K a) (fun H G => Dat K Γ H G (.nod .tuK ds) (.ref a)) ds := by
  have sq : ∀ {H : Hp} {vs : List V}, SqT K (fun _ => none) a vs → SqT K H a vs := fun h => by
    rcases h with (z | ⟨_, z⟩) | z
    · cases z
    · cases z
    · exact .inr z
  refine ⟨fun H G H' G' s h => h.mono0 s, fun i H G hi h R => ?_, fun i H G x H' hi h R y => ?_, fun H G h R => ?_⟩
  · obtain ⟨a', vs, e, h1, l⟩ := h
    cases e
    obtain ⟨d, hd⟩ := get_some hi
    obtain ⟨v, hv, _⟩ := l.get hd
    exact ⟨vs, v, sq h1, hv⟩
  · obtain ⟨a', vs, e, h1, l⟩ := h
    cases e
    obtain ⟨rfl, y⟩ := y
    obtain ⟨d, hd, dd⟩ := l.get' (y vs (sq h1))
    exact ⟨Step.refl, R, d, hd, dd⟩
  · obtain ⟨a', vs, e, h1, l⟩ := h
    cases e
    exact ⟨vs, sq h1, by rw [l.length]; exact Nat.le_refl _⟩
def rangeD (lo : Int) (n : Nat) : List D := (List.range n).map fun i => D.int (lo + (i : Nat))
theorem rangeD_len {lo : Int} {n : Nat} : (rangeD lo n).length = n := by simp [rangeD]
theorem walk_rng {lo : Int} {n : Nat} : Walk3 K Γ (Itr lo n) (fun _ _ => True) (rangeD lo n) where
  keep := fun H G H' G' s h => h
  go := fun i H G hi h R => by rw [rangeD_len] at hi; exact hi
  yld := fun i H G x H' hi h R y => by
    obtain ⟨rfl, rfl⟩ := y
    rw [rangeD_len] at hi
    exact ⟨Step.refl, R, .int (lo + (i : Nat)), by simp [rangeD, hi], rfl⟩
  stop := fun H G h R => by rw [rangeD_len]; exact Nat.le_refl _
def chars (x : Str) : List D := x.cps.toList.map fun c => D.str ⟨#[c]⟩
theorem walk_str {x : Str} : Walk3 K Γ (Its x) (fun _ _ => True) (chars x) where
  keep := fun H G H' G' s h => h
  go := fun i H G hi h R => by
    show i < x.cps.size
    simpa [chars] using hi
  yld := fun i H G y H' hi h R z => by
    obtain ⟨rfl, c, e, rfl⟩ := z
    refine ⟨Step.refl, R, .str ⟨#[c]⟩, ?_, rfl⟩
    unfold chars
    rw [List.getElem?_map, Array.getElem?_toList, e] <;> rfl
  stop := fun H G h R => by
    show x.cps.size ≤ (chars x).length
    simp [chars]
/-- enumerate of a list -/
def enumD (ds : List D) : List D := ds.mapIdx fun i d => D.tup [.int (i : Nat), d]
theorem walk_enum {a : Addr} {ds : List D} : Walk3 K Γ (Ite K a) (fun H G => Dat K Γ H G (.lst ds) (.ref a)) (enumD ds) where
  keep := fun H G H' G' s h => h.mono0 s
  go := fun i H G hi h R => by
    obtain ⟨a', vs, e, h1, l⟩ := h
    cases e
    have hi : i < ds.length := by simpa [enumD] using hi
    obtain ⟨d, hd⟩ := get_some hi
    obtain ⟨v, hv, _⟩ := l.get hd
    exact ⟨vs, v, SqL.of h1.2, hv⟩
  yld := fun i H G x H' hi h R y => by
    obtain ⟨a', vs, e, h1, l⟩ := h
    cases e
    obtain ⟨T, u, rfl, hT, rfl, y⟩ := y
    obtain ⟨d, hd, dd⟩ := l.get' (y vs (SqL.of h1.2))
    have st : Step K H G (upd H T (.tup [.int (i : Nat), u])) G := Step.new hT
    refine ⟨st, R.new hT, .tup [.int (i : Nat), d], ?_, T, _, rfl, upd_same, .cons rfl (.cons (dd.mono st) .nil)⟩
    unfold enumD
    rw [List.getElem?_mapIdx, hd] <;> rfl
  stop := fun H G h R => by
    obtain ⟨a', vs, e, h1, l⟩ := h
    cases e
    exact ⟨vs, SqL.of h1.2, by simp only [enumD, List.length_mapIdx]; rw [l.length]; exact Nat.le_refl _⟩
def zipD (ds es : List D) : List D := List.zipWith (fun x y => D.tup [x, y]) ds es
theorem walk_zip {a b : Addr} {ds es : List D} : Walk3 K Γ (Itz K a b) (fun H G => Dat K Γ H G (.lst ds) (.ref a) ∧ Dat K Γ H G (.lst es) (.ref b)) (zipD ds es) where
  keep := fun H G H' G' s h => ⟨h.1.mono0 s, h.2.mono0 s⟩
  go := fun i H G hi h R => by
    obtain ⟨⟨a', vs, e, h1, l⟩, b', us, e2, h2, l2⟩ := h
    cases e; cases e2
    have hi : i < min ds.length es.length := by simpa [zipD] using hi
    obtain ⟨d, hd⟩ := get_some (ds := ds) (i := i) (by omega)
    obtain ⟨d2, hd2⟩ := get_some (ds := es) (i := i) (by omega)
    obtain ⟨v, hv, _⟩ := l.get hd
    obtain ⟨v2, hv2, _⟩ := l2.get hd2
    exact ⟨vs, us, v, v2, SqL.of h1.2, SqL.of h2.2, hv, hv2⟩
  yld := fun i H G x H' hi h R y => by
    obtain ⟨⟨a', vs, e, h1, l⟩, b', us, e2, h2, l2⟩ := h
    cases e; cases e2
    obtain ⟨T, u, w, rfl, hT, rfl, y1, y2⟩ := y
    obtain ⟨d, hd, dd⟩ := l.get' (y1 vs (SqL.of h1.2))
    obtain ⟨d2, hd2, dd2⟩ := l2.get' (y2 us (SqL.of h2.2))
    have st : Step K H G (upd H T (.tup [u, w])) G := Step.new hT
    refine ⟨st, R.new hT, .tup [d, d2], ?_, T, _, rfl, upd_same, .cons (dd.mono st) (.cons (dd2.mono st) .nil)⟩
    unfold zipD
    rw [List.getElem?_zipWith, hd, hd2]
  stop := fun H G h R => by
    obtain ⟨⟨a', vs, e, h1, l⟩, b', us, e2, h2, l2⟩ := h
    cases e; cases e2
    refine ⟨vs, us, SqL.of h1.2, SqL.of h2.2, ?_⟩
    rw [← l.length, ← l2.length]
    simp only [zipD, List.length_zipWith]
    omega
end

section
variable {X : Cx} {Γ : Gm} {W : WX} {e a b c tg : Expr} {pos : Pos} {ta tb tc : TE3}
/-- lists and tuples (by value) -/
@[simp] def ISeq (t : TE3) : TI3 := fun δ G Q E => t δ G (fun d G1 => match d with
  | .nod .lst ds => Q ds G1
  | _ => False) E
@[simp] def ITup (t : TE3) : TI3 := fun δ G Q E => t δ G (fun d G1 => match d with
  | .nod .tup ds => Q ds G1
  | .nod .tuK ds => Q ds G1
  | _ => False) E
theorem pi3_list (h : PE3 X Γ W e ta) : PI3 X Γ W tg e (ISeq ta) := pi_imp (pi_list h) fun σ H R' hw => by
  obtain ⟨δ, G, Q3, E3, R, h1, k, ke⟩ := hw
  refine ⟨δ, G, _, E3, R, h1, fun d v G1 H1 s1 hp1 dv q => ?_, ke⟩
  split at q
  · have dv0 := dv
    obtain ⟨p, vs, rfl, h2, l⟩ := dv
    exact ⟨p, rfl, ⟨vs, SqL.of h2.2⟩, k _ _ _ G1 H1 s1 hp1 walk_lst dv0 q⟩
  · exact q.elim
theorem pi3_tup (h : PE3 X Γ W e ta) : PI3 X Γ W tg e (ITup ta) := pi_imp (pi_tup h) fun σ H R' hw => by
  obtain ⟨δ, G, Q3, E3, R, h1, k, ke⟩ := hw
  refine ⟨δ, G, _, E3, R, h1, fun d v G1 H1 s1 hp1 dv q => ?_, ke⟩
  split at q
  · have dv0 := dv
    obtain ⟨p, vs, rfl, h2, l⟩ := dv
    exact ⟨p, rfl, ⟨vs, SqT.of h2⟩, k _ _ _ G1 H1 s1 hp1 walk_tup dv0 q⟩
  · have dv0 := dv
    obtain ⟨p, vs, rfl, h2, l⟩ := dv
    refine ⟨p, rfl, ⟨vs, ?_⟩, k _ _ _ G1 H1 s1 hp1 walk_tuK dv0 q⟩
    rcases h2 with (z | ⟨_, z⟩) | z
    · cases z
    · cases z
    · exact .inr z
  · exact q.elim
def IStr (t : TE3) : TI3 := fun δ G Q E => t δ G (fun d G1 => match d with | .str x => Q (chars x) G1 | _ => False) E
theorem pi3_str (h : PE3 X Γ W e ta) : PI3 X Γ W tg e (IStr ta) := pi_imp (pi_str h) fun σ H R' hw => by
  obtain ⟨δ, G, Q3, E3, R, h1, k, ke⟩ := hw
  refine ⟨δ, G, _, E3, R, h1, fun d v G1 H1 s1 hp1 dv q => ?_, ke⟩
  split at q
  · exact ⟨_, dv, k _ _ _ G1 H1 s1 hp1 walk_str trivial q⟩
  · exact q.elim
@[simp] def IRng1 (t : TA3) : TI3 := fun δ G Q E => t δ G (fun ds G1 => match ds with | [.int n] => -(2 ^ 62) ≤ n ∧ n < 2 ^ 62 ∧ Q (rangeD 0 n.toNat) G1 | _ => False) E
@[simp] def IRng2 (t : TA3) : TI3 := fun δ G Q E => t δ G (fun ds G1 => match ds with | [.int i, .int n] => (-(2 ^ 62) ≤ i ∧ i < 2 ^ 62 ∧ -(2 ^ 62) ≤ n ∧ n < 2 ^ 62) ∧ Q (rangeD i (n - i).toNat) G1 | _ => False) E
theorem pi3_range1 {t : TA3} {p : Pos} (hg : Gl X "range") (hm : X.mg "range" = none) (ha : PA3 X Γ W [a] t) (hs : starEach [a] X.env = [(false, eval a X.env)] := by rfl) : PI3 X Γ W tg (.Call (.Name "range" p) [a] [] pos) (IRng1 t) :=
  pi_imp (pi_range1 hg hm ha hs) fun σ H R' hw => by
    obtain ⟨δ, G, Q3, E3, R, h1, k, ke⟩ := hw
    refine ⟨δ, G, _, E3, R, h1, fun ds vs G1 H1 s1 hp1 dl q => ?_, ke⟩
    split at q
    · obtain ⟨v, r, rfl, rfl, rfl⟩ := dl
      exact ⟨_, rfl, q.1, q.2.1, k _ _ _ G1 H1 s1 hp1 walk_rng trivial q.2.2⟩
    · exact q.elim
theorem pi3_range2 {t : TA3} {p : Pos} (hg : Gl X "range") (hm : X.mg "range" = none) (ha : PA3 X Γ W [a, b] t) (hs : starEach [a, b] X.env = [(false, eval a X.env), (false, eval b X.env)] := by rfl) (hs2 : starEach [b] X.env = [(false, eval b X.env)] := by rfl) : PI3 X Γ W tg (.Call (.Name "range" p) [a, b] [] pos) (IRng2 t) :=
  pi_imp (pi_range2 hg hm ha hs hs2) fun σ H R' hw => by
    obtain ⟨δ, G, Q3, E3, R, h1, k, ke⟩ := hw
    refine ⟨δ, G, _, E3, R, h1, fun ds vs G1 H1 s1 hp1 dl q => ?_, ke⟩
    split at q
    · obtain ⟨v, r, rfl, rfl, v2, r2, rfl, rfl, rfl⟩ := dl
      exact ⟨_, _, rfl, q.1, k _ _ _ G1 H1 s1 hp1 walk_rng trivial q.2⟩
    · exact q.elim
def IEnum (t : TA3) : TI3 := fun δ G Q E => t δ G (fun ds G1 => match ds with | [.nod .lst xs] => Q (enumD xs) G1 | _ => False) E
theorem pi3_enum {t : TA3} {p tpos : Pos} {elts : List Expr} {kk : Nat} (hg : Gl X "enumerate") (hm : X.mg "enumerate" = none) (ha : PA3 X Γ W [a] t) (hs : starEach [a] X.env = [(false, eval a X.env)] := by rfl) : PI3 X Γ W (.Tuple elts kk tpos) (.Call (.Name "enumerate" p) [a] [] pos) (IEnum t) :=
  pi_imp (pi_enum hg hm ha hs) fun σ H R' hw => by
    obtain ⟨δ, G, Q3, E3, R, h1, k, ke⟩ := hw
    refine ⟨δ, G, _, E3, R, h1, fun ds vs G1 H1 s1 hp1 dl q => ?_, ke⟩
    split at q
    · obtain ⟨v, r, rfl, d1, rfl⟩ := dl
      have d0 := d1
      obtain ⟨p', vs, rfl, h2, l⟩ := d1
      exact ⟨_, vs, rfl, SqL.of h2.2, k _ _ _ G1 H1 s1 hp1 walk_enum d0 q⟩
    · exact q.elim
def IZip (t : TA3) : TI3 := fun δ G Q E => t δ G (fun ds G1 => match ds with | [.nod .lst xs, .nod .lst ys] => Q (zipD xs ys) G1 | _ => False) E
theorem pi3_zip {t : TA3} {p tpos : Pos} {elts : List Expr} {kk : Nat} (h : PI X (.Tuple elts kk tpos) (.Call (.Name "zip" p) [a, b] [] pos) (iZip X.K (liftA X.K Γ W t))) : PI3 X Γ W (.Tuple elts kk tpos) (.Call (.Name "zip" p) [a, b] [] pos) (IZip t) :=
  pi_imp h fun σ H R' hw => by
    obtain ⟨δ, G, Q3, E3, R, h1, k, ke⟩ := hw
    refine ⟨δ, G, _, E3, R, h1, fun ds vs G1 H1 s1 hp1 dl q => ?_, ke⟩
    split at q
    · obtain ⟨v, r, rfl, d1, v2, r2, rfl, d2, rfl⟩ := dl
      have d0 := d1
      have d0' := d2
      obtain ⟨p', vs, rfl, h2, l⟩ := d1
      obtain ⟨p2, vs2, rfl, h3, l2⟩ := d2
      exact ⟨_, _, vs, vs2, rfl, SqL.of h2.2, SqL.of h3.2, k _ _ _ G1 H1 s1 hp1 walk_zip ⟨d0, d0'⟩ q⟩
    · exact q.elim
end

/-! ### for -/
def ForRun (g : TG3) (tb : TS3) (D3 : Ends3) : List D → St3 → Gp → Prop
  | [], δ, G => D3.nx δ G
  | x :: xs, δ, G => g x δ G (fun δ2 G2 => tb { D3 with nx := ForRun g tb D3 xs, ct := ForRun g tb D3 xs, bk := D3.nx } δ2 G2) (fun cls G2 => D3.ex cls δ G2)
@[simp] def TFor (ti : TI3) (g : TG3) (tb : TS3) : TS3 := fun D3 δ G => ti δ G (fun ds G1 => ForRun g tb D3 ds δ G1) (fun cls G1 => D3.ex cls δ G1)
section
variable {X : Cx} {Γ : Gm} {W : WX} {e a b c tg : Expr} {pos : Pos}
theorem run_for {J : It} {P : Hp → Gp → Prop} {ds : List D} {g : TG3} {tb : TS3} {D3 : Ends3} {D' : Ends} {δ : St3} {G : Gp} {σ : L2.St} {H : Hp} (k : KeepS X.K Γ W H G D3 D') (wk : Walk3 X.K Γ J P ds) (p : P H G) (R : Rel X.K Γ δ G σ H) (h : ForRun g tb D3 ds δ (vis G)) :
    ∃ W' : Nat → Nat → L2.St → Hp → Prop, (∃ m, W' 0 m σ H) ∧ ∀ i m σ H, W' i m σ H → (J.stop i H ∧ D'.nx σ H) ∨ (J.go i H ∧ ∃ N : L2.St → Hp → Prop, (∀ σ' H', N σ' H' → ∃ m', m' < m ∧ W' (i + 1) m' σ' H') ∧
      ∀ x H', J.yld i H x H' → liftG X.K Γ W g x σ H' fun σ2 H2 => liftS X.K Γ W tb { D' with nx := N, ct := N, bk := D'.nx } σ2 H2) := by
  refine ⟨fun i m σ' H' => m = ds.length - i ∧ i ≤ ds.length ∧ ∃ δ' G', Step X.K H G H' G' ∧ Rel X.K Γ δ' G' σ' H' ∧ P H' G' ∧ ForRun g tb D3 (ds.drop i) δ' (vis G'), ⟨ds.length, by omega, Nat.zero_le _, δ, G, Step.refl, R, p, h⟩, ?_⟩
  rintro i m σ1 H1 ⟨rfl, hi, δ1, G1, s1, R1, p1, q1⟩
  by_cases hl : i < ds.length
  · refine .inr ⟨wk.go i H1 G1 hl p1 R1.hp, fun σ' H' => ∃ δ' G', Step X.K H G H' G' ∧ Rel X.K Γ δ' G' σ' H' ∧ P H' G' ∧ ForRun g tb D3 (ds.drop (i + 1)) δ' (vis G'), fun σ' H' q => ⟨ds.length - (i + 1), by omega, rfl, hl, q⟩, fun x H' y => ?_⟩
    obtain ⟨s2, hp2, d, hd, dd⟩ := wk.yld i H1 G1 x H' hl p1 R1.hp y
    have e : ds.drop i = d :: ds.drop (i + 1) := by
      rw [List.drop_eq_getElem_cons hl]
      have := (List.getElem?_eq_some_iff.mp hd).2
      rw [this]
    rw [e] at q1
    have p2 := wk.keep _ _ _ _ s2.toStep0 p1
    refine ⟨d, δ1, G1, _, _, R1.mono s2 hp2, dd, q1, fun δ2 G2 σ2 H2 s3 R2 q2 => ?_, fun cls G' H' s hp q => k.ex cls δ1 G' σ1 H' ((s1.trans s2).trans s) ((R1.mono s2 hp2).mono s hp) q⟩
    have s13 := (s1.trans s2).trans s3
    have p3 := wk.keep _ _ _ _ s3.toStep0 p2
    have nx : ∀ δ' G' σ' H', Step X.K H2 G2 H' G' → Rel X.K Γ δ' G' σ' H' → ForRun g tb D3 (ds.drop (i + 1)) δ' (vis G') → ∃ δ' G', Step X.K H G H' G' ∧ Rel X.K Γ δ' G' σ' H' ∧ P H' G' ∧ ForRun g tb D3 (ds.drop (i + 1)) δ' (vis G') :=
      fun δ' G' σ' H' s R' q => ⟨δ', G', s13.trans s, R', wk.keep _ _ _ _ s.toStep0 p3, q⟩
    exact ⟨δ2, G2, _, R2, q2, ⟨nx, fun d v G' H' s => k.rt d v G' H' (s13.trans s), fun δ' G' σ' H' s => k.nx δ' G' σ' H' (s13.trans s), nx, fun cls δ' G' σ' H' s => k.ex cls δ' G' σ' H' (s13.trans s)⟩⟩
  · have e : i = ds.length := by omega
    subst e
    rw [List.drop_length] at q1
    exact .inl ⟨wk.stop H1 G1 p1 R1.hp, k.nx δ1 G1 σ1 H1 s1 R1 q1⟩
theorem ps3_for {iter : Expr} {body : List Stmt} {ti : TI3} {g : TG3} {tb : TS3} (hp : PassesOwn (model X.prog X.w) X.A X.env X.xe) (hc : X.calm = true) (hi : PI3 X Γ W tg iter ti) (hg : PG3 X Γ W tg g) (hb : PSs3 X Γ W body tb)
    (hs : ∀ x, foldedSetIterable iter X.env x = pure x := by intro _; rfl) : PS3 X Γ W (.For tg iter body [] pos) (TFor ti g tb) := by
  refine ps_imp (ps_for hp hc hi hg hb hs) fun D' σ H hw => ?_
  obtain ⟨δ, G, D3, R, h, k⟩ := hw
  refine ⟨δ, G, _, _, R, h, fun ds J P G1 H1 s1 hp1 wk p1 q1 => ?_, fun cls G' H' s hp q => k.ex cls δ G' σ H' s (R.mono s hp) q⟩
  exact run_for (k.after s1) wk p1 (R.mono s1 hp1) q1

/-! ### while -/
def TWhile (t : TT3) (tb : TS3) : TS3 := fun D3 δ G => ∃ Wm : Nat → St3 → Gp → Prop, (∃ m, Wm m δ G) ∧ ∀ m δ G, Wm m δ G →
  t δ G (fun b G1 => if b = true then tb { D3 with nx := fun δ' G' => ∃ m', m' < m ∧ Wm m' δ' G', ct := fun δ' G' => ∃ m', m' < m ∧ Wm m' δ' G', bk := D3.nx } δ G1 else D3.nx δ G1) (fun cls G1 => D3.ex cls δ G1)
theorem ps3_while {c : Expr} {body : List Stmt} {t : TT3} {tb : TS3} (hp : PassesOwn (model X.prog X.w) X.A X.env X.xe) (hc : PT3 X Γ W c t) (hb : PSs3 X Γ W body tb) : PS3 X Γ W (.While c body [] pos) (TWhile t tb) := by
  refine ps_imp (ps_while hp hc hb) fun D' σ H hw => ?_
  obtain ⟨δ, G, D3, R, ⟨Wm, ⟨m0, w0⟩, turn⟩, k⟩ := hw
  refine ⟨fun m σ' H' => ∃ δ' G', Step X.K H G H' G' ∧ Rel X.K Γ δ' G' σ' H' ∧ Wm m δ' (vis G'), ⟨m0, δ, G, Step.refl, R, w0⟩, ?_⟩
  rintro m σ1 H1 ⟨δ1, G1, s1, R1, w1⟩
  refine ⟨δ1, G1, _, _, R1, turn m δ1 (vis G1) w1, fun b G2 H2 s2 hp2 q2 => ?_, fun cls G' H' s hp q => k.ex cls δ1 G' σ1 H' (s1.trans s) (R1.mono s hp) q⟩
  cases b with
  | true =>
    rw [if_pos rfl] at q2 ⊢
    have s12 := s1.trans s2
    refine ⟨fun σ' H' => ∃ m', m' < m ∧ ∃ δ' G', Step X.K H G H' G' ∧ Rel X.K Γ δ' G' σ' H' ∧ Wm m' δ' (vis G'), fun σ' H' q => q, δ1, G2, _, R1.mono s2 hp2, q2, ?_⟩
    have nx : ∀ δ' G' σ' H', Step X.K H2 G2 H' G' → Rel X.K Γ δ' G' σ' H' → (∃ m', m' < m ∧ Wm m' δ' (vis G')) → ∃ m', m' < m ∧ ∃ δ' G', Step X.K H G H' G' ∧ Rel X.K Γ δ' G' σ' H' ∧ Wm m' δ' (vis G') := fun δ' G' σ' H' s R' ⟨m', l, q⟩ => ⟨m', l, δ', G', s12.trans s, R', q⟩
    exact ⟨nx, fun d v G' H' s => k.rt d v G' H' (s12.trans s), fun δ' G' σ' H' s => k.nx δ' G' σ' H' (s12.trans s), nx, fun cls δ' G' σ' H' s => k.ex cls δ' G' σ' H' (s12.trans s)⟩
  | false =>
    rw [if_neg Bool.false_ne_true] at q2 ⊢
    exact k.nx δ1 G2 σ1 H2 (s1.trans s2) (R1.mono s2 hp2) q2
end

/-! ### comprehensions -/
def wipe3 (δ : St3) : List Nat → St3
  | [] => δ
  | v :: vs => (wipe3 δ vs).set v none
theorem Rel.wipe {K : PySem.W.Frag} {Γ : Gm} {δ : St3} {G : Gp} {σ : L2.St} {H : Hp} (R : Rel K Γ δ G σ H) : ∀ vs : List Nat, Rel K Γ (wipe3 δ vs) G (wipe σ vs) H
  | [] => R
  | v :: vs => by
    have R1 := R.wipe vs
    refine ⟨by simp [wipe3, L2.wipe, R1.len], fun i d e => ?_, R.hp⟩
    unfold wipe3 at e
    unfold L2.wipe
    by_cases hi : v = i
    · subst hi
      have : v < (wipe3 δ vs).length := by
        have := (List.getElem?_eq_some_iff.mp e).1
        simpa using this
      rw [List.getElem?_set_self this] at e
      cases e
    · rw [List.getElem?_set_ne hi] at e ⊢
      exact R1.get i d e
theorem wipe_set {σ : L2.St} {i : Nat} {x : Option V} : ∀ {vs : List Nat}, i ∈ vs → wipe (σ.set i x) vs = wipe σ vs
  | v :: vs, h => by
    unfold wipe
    by_cases e : i ∈ vs
    · rw [wipe_set e]
    · have hv : i = v := (List.mem_cons.mp h).resolve_right e
      subst hv
      have q : ∀ (us : List Nat), i ∉ us → wipe (σ.set i x) us = (wipe σ us).set i x := fun us => by
        induction us with
        | nil => intro _; rfl
        | cons u us ih =>
          intro hu
          have h1 : i ≠ u := fun z => hu (z ▸ List.mem_cons_self ..)
          have h2 : i ∉ us := fun z => hu (List.mem_cons_of_mem _ z)
          unfold wipe
          rw [ih h2, List.set_comm _ _ h1]
      rw [q vs e, List.set_set]
theorem wipe_in {σ : L2.St} {i : Nat} : ∀ {vs : List Nat}, i ∈ vs → (L2.wipe σ vs)[i]? = if i < σ.length then some none else none
  | v :: vs, h => by
    unfold L2.wipe
    by_cases e : v = i
    · subst e
      rw [List.getElem?_set, if_pos rfl, L2.wipe_length]
    · rw [List.getElem?_set_ne e]
      exact wipe_in ((List.mem_cons.mp h).resolve_left fun z => e z.symm)
theorem wipe_wipe (σ : L2.St) (vs : List Nat) : L2.wipe (L2.wipe σ vs) vs = L2.wipe σ vs := by
  apply List.ext_getElem?
  intro i
  by_cases h : i ∈ vs
  · rw [wipe_in h, wipe_in h, L2.wipe_length]
  · rw [L2.wipe_out h, L2.wipe_out h]
/-- a comprehension's target: it stores to the names vs alone -/
def liftW (K : PySem.W.Frag) (Γ : Gm) (vs : List Nat) (T : TG3) : TG := fun v σ H Q => ∃ d δ G Q3, Rel K Γ δ G σ H ∧ Dat K Γ H G d v ∧ T d δ (vis G) Q3 (fun _ _ => False) ∧
  ∀ δ' G' σ' H', Step K H G H' G' → Rel K Γ δ' G' σ' H' → wipe σ' vs = wipe σ vs → Q3 δ' (vis G') → Q σ' H'
def liftWs (K : PySem.W.Frag) (Γ : Gm) (vs : List Nat) (T : TGs3) : TGs := fun us σ H Q => ∃ ds δ G Q3, Rel K Γ δ G σ H ∧ DatL K Γ H G ds us ∧ T ds δ (vis G) Q3 (fun _ _ => False) ∧
  ∀ δ' G' σ' H', Step K H G H' G' → Rel K Γ δ' G' σ' H' → wipe σ' vs = wipe σ vs → Q3 δ' (vis G') → Q σ' H'
section
variable {X : Cx} {Γ : Gm} {W : WX} {e a b c tg : Expr} {pos : Pos} {vs : List Nat}
abbrev PW3g (X : Cx) (Γ : Gm) (vs : List Nat) (e : Expr) (T : TG3) : Prop := PG X e (liftW X.K Γ vs T)
abbrev PW3s (X : Cx) (Γ : Gm) (vs : List Nat) (es : List Expr) (T : TGs3) : Prop := PGs X es (liftWs X.K Γ vs T)
theorem pw3_name {i : Nat} {x : Str} (hv : i ∈ vs) (hN : X.N.Nodup) (hi : X.N[i]? = some x) (hx : Loc X.env.scope x) (hf : X.fn x = true ∨ X.env.scope.names.lookup x = some .local := by first | exact .inl rfl | exact .inr rfl | assumption) : PW3g X Γ vs (.Name x pos) (GName i) :=
  pg_imp (pg_name hN hi hx hf) fun v σ H Q ⟨d, δ, G, Q3, R, dv, h, k⟩ => k _ G _ H Step.refl (R.set dv) (wipe_set hv) h
theorem pw3s_nil : PW3s X Γ vs [] GNil := pgs_imp pgs_nil fun us σ H Q ⟨ds, δ, G, Q3, R, dl, h, k⟩ => by
  obtain ⟨rfl, h⟩ := h
  exact ⟨dl, k δ G σ H Step.refl R rfl h⟩
theorem pw3s_cons {es : List Expr} {t : TG3} {u : TGs3} (h1 : PW3g X Γ vs e t) (h2 : PW3s X Γ vs es u) (hs : (assignEach (e :: es) X.env).map (·.2) = assign e X.env :: (assignEach es X.env).map (·.2) := by rfl) : PW3s X Γ vs (e :: es) (GCons t u) := by
  refine pgs_imp (pgs_cons h1 h2 hs) fun us σ H Q hw => ?_
  obtain ⟨ds, δ, G, Q3, R, dl, h, k⟩ := hw
  cases ds with
  | nil => exact h.elim
  | cons d r =>
    obtain ⟨v, vr, rfl, d1, d2⟩ := dl
    refine ⟨v, vr, rfl, d, δ, G, _, R, d1, h, fun δ' G' σ' H' s R' ew q => ?_⟩
    exact ⟨r, δ', G', Q3, R', d2.mono s, q, fun δ2 G2 σ2 H2 s2 R2 ew2 => k δ2 G2 σ2 H2 (s.trans s2) R2 (ew2.trans ew)⟩
theorem pw3_tup {es : List Expr} {j : Nat} {t : TGs3} {n : Nat} (hc : X.calm = true) (h : PW3s X Γ vs es t) (hn : (assignEach es X.env).length = n := by rfl) (hst : (assignEach es X.env).findIdx? (·.1) = none := by rfl) : PW3g X Γ vs (.Tuple es j pos) (GTup n t) := by
  refine pg_imp (pg_tup hc h hn hst) fun v σ H Q hw => ?_
  obtain ⟨d, δ, G, Q3, R, dv, h, k⟩ := hw
  unfold GTup at h
  split at h
  · obtain ⟨a, us, rfl, h1, l1⟩ := dv
    exact ⟨a, us, rfl, SqT.of h1, by rw [← l1.length]; exact h.1, _, δ, G, Q3, R, l1, h.2, k⟩
  · exact h.elim
end
@[simp] def X0 : X3 := fun _ _ => False
def W0 : WX := fun _ _ _ _ => False
/-- the turns of a comprehension over the items -/
def LcRun (δ0 : St3) (g : TG3) (tt : TT3) (te : TE3) : List D → List D → Gp → (List D → Gp → Prop) → Prop
  | [], acc, G, k => k acc G
  | x :: xs, acc, G, k => g x δ0 G (fun δ2 G2 => tt δ2 G2 (fun b G3 => if b = true then te δ2 G3 (fun y G4 => acc.length < sizeLine ∧ LcRun δ0 g tt te xs (acc ++ [y]) G4 k) X0 else LcRun δ0 g tt te xs acc G3 k) X0) X0
@[simp] def TLc (ti : TI3) (g : TG3) (tt : TT3) (te : TE3) (vs : List Nat) : TE3 := fun δ G Q E => ti δ G (fun ds G1 => LcRun (wipe3 δ vs) g tt te ds [] G1 (fun ys G2 => Q (.lst ys) G2)) E
@[simp] def TYes : TT3 := fun _ G Q _ => Q true G
section
variable {X : Cx} {Γ : Gm} {W : WX} {e a b c tg iter elt : Expr} {pos : Pos} {vs : List Nat}
theorem pts3_nil : PTs3 X Γ W [] TYes := pts_imp pts_nil fun σ H Q ⟨δ, G, Q3, E3, R, h, k, ke⟩ => k true G H Step.refl R.hp h
theorem pts3_one {t : TT3} (h : PT3 X Γ W c t) : PTs3 X Γ W [c] t := pts_one h
/-- a hidden thing changes -/
theorem Step0.hide {K : PySem.W.Frag} {H : Hp} {G : Gp} {A : Addr} {o o' : HO} (hA : G A = some .hid) (hH : H A = some o) (nt : ∀ xs, o ≠ .tup xs) : Step0 K H G (upd H A o') G where
  tup := fun b xs h => by rw [upd_ne (fun e => nt xs (by subst e; rw [hH] at h; exact Option.some.inj h))]; exact h
  frm := fun a u h n _ => by rw [upd_ne (fun e => by subst e; rw [hA] at n; cases n)]; exact h
  hid := fun _ h => h
  own := fun a u h n _ => ⟨n, u, by rw [upd_ne (fun e => by subst e; rw [hA] at n; cases n)]; exact h⟩
  lck := fun a g h l => ⟨h, fun u e => by rw [upd_ne (fun e => by subst e; rw [hA] at h; cases h; cases l)]; exact e⟩
theorem HpR.hide {K : PySem.W.Frag} {Γ : Gm} {H : Hp} {G : Gp} {A : Addr} {o o' : HO} (R : HpR K Γ H G) (hA : G A = some .hid) (hH : H A = some o) (nt : ∀ xs, o ≠ .tup xs) (n1 : NoTbl o') (n2 : ∀ φ, o' ≠ .ext φ) : HpR K Γ (upd H A o') G where
  own := fun a g e => by
    by_cases h : a = A
    · subst h; rw [hA] at e; cases e; exact ⟨o', upd_same, n1, n2⟩
    · exact (R.own a g e).mono0 (Step0.hide hA hH nt) fun u q => by rw [upd_ne h]; exact q
  tab := by
    obtain ⟨o1, h1, h2, h3⟩ := R.own A _ hA
    rw [hH] at h1; cases h1
    exact tabs_upd R.tab (.inr ⟨o, hH, h2, fun c q => h3 _⟩)
theorem Step.hidden {K : PySem.W.Frag} {H1 H H' : Hp} {G1 G : Gp} {A : Addr} (s : Step K H1 G1 H G) (n : H1 A = none) (h : ∀ a, a ≠ A → H' a = H a) (hA : ∃ o, H' A = some o) : Step K H1 G1 H' G where
  tup := fun b xs e => by rw [h b (ne_of_none e n)]; exact s.tup b xs e
  frm := fun a o e g nt => by rw [h a (ne_of_none e n)]; exact s.frm a o e g nt
  hid := s.hid
  own := fun a o e g nt => ⟨(s.own a o e g nt).1, by rw [h a (ne_of_none e n)]; exact (s.own a o e g nt).2⟩
  lck := fun a g e l => ⟨(s.lck a g e l).1, fun o e2 => by rw [h a (ne_of_none e2 n)]; exact (s.lck a g e l).2 o e2⟩
  frh := fun a o e g nt => by rw [h a (ne_of_none e n)]; exact s.frh a o e g nt
/-- the hidden thing is shown -/
theorem Step.show {K : PySem.W.Frag} {H1 H : Hp} {G1 G : Gp} {A : Addr} (s : Step K H1 G1 H G) (n : G1 A = none) : Step K H1 G1 H (gdel G A) where
  tup := s.tup
  frm := s.frm
  frh := s.frh
  hid := fun a e => by rw [gdel_ne (fun z => by subst z; rw [n] at e; cases e)]; exact s.hid a e
  own := fun a o e g nt => by
    refine ⟨?_, (s.own a o e g nt).2⟩
    by_cases h : a = A
    · subst h; exact gdel_same
    · rw [gdel_ne h]; exact (s.own a o e g nt).1
  lck := fun a g e l => ⟨by rw [gdel_ne (fun z => by subst z; rw [n] at e; cases e)]; exact (s.lck a g e l).1, (s.lck a g e l).2⟩
theorem vis_show {G : Gp} {A : Addr} (h : G A = some .hid) : vis (gdel G A) = vis G := by
  funext b
  unfold vis gdel
  by_cases e : b = A
  · rw [if_pos e, e, h]
  · rw [if_neg e]
theorem run_lc {g : TG3} {tt : TT3} {te : TE3} {σ : L2.St} {Q : VK} {δ : St3} {ds : List D} {J : It} {P : Hp → Gp → Prop} {G1 : Gp} {H1 : Hp} {Q3 : K3} (R : Rel X.K Γ δ G1 σ H1) (wk : Walk3 X.K Γ J P ds) (p1 : P H1 G1)
    (k : ∀ d v G' H', Step X.K H1 G1 H' G' → HpR X.K Γ H' G' → Dat X.K Γ H' G' d v → Q3 d (vis G') → Q v H') (q1 : LcRun (wipe3 δ vs) g tt te ds [] (vis G1) (fun ys G2 => Q3 (.lst ys) G2)) :
    ∀ D, H1 D = none → ∃ W : Nat → Nat → Hp → Prop, (∃ m, W 0 m (upd H1 D (.lst []))) ∧ ∀ i m H, W i m H →
      (J.stop i H ∧ Q (.ref D) H) ∨ (J.go i H ∧ ∃ Nx : Hp → Prop, (∀ H', Nx H' → ∃ m', m' < m ∧ W (i + 1) m' H') ∧ ∀ x H', J.yld i H x H' → liftW X.K Γ vs g x (L2.wipe σ vs) H' fun σ2 H2 => L2.wipe σ2 vs = L2.wipe σ vs ∧ liftT X.K Γ W0 tt σ2 H2 fun b H3 =>
        if b = true then lift X.K Γ W0 te σ2 H3 fun y H4 => ∃ acc, H4 D = some (.lst acc) ∧ acc.length < sizeLine ∧ Nx (upd H4 D (.lst (acc ++ [y]))) else Nx H3) := by
  intro A hA
  have hp1 := R.hp
  have hgA : G1 A = none := own_none hp1 hA
  have sA : Step X.K H1 G1 (upd H1 A (.lst [])) (gset G1 A .hid) := Step.newG hA hgA
  have hpA : HpR X.K Γ (upd H1 A (.lst [])) (gset G1 A .hid) := hp1.newG (g := .hid) hA ⟨_, upd_same, noTbl_lst, fun φ z => nomatch z⟩
  refine ⟨fun i m H' => m = ds.length - i ∧ i ≤ ds.length ∧ ∃ G' acc vacc, Step X.K H1 G1 H' G' ∧ HpR X.K Γ H' G' ∧ P H' G' ∧ G' A = some .hid ∧ H' A = some (.lst vacc) ∧ DatL X.K Γ H' G' acc vacc ∧
      LcRun (wipe3 δ vs) g tt te (ds.drop i) acc (vis G') (fun ys G2 => Q3 (.lst ys) G2), ⟨ds.length, by omega, Nat.zero_le _, gset G1 A .hid, [], [], sA, hpA, wk.keep _ _ _ _ sA.toStep0 p1, gset_same, upd_same, rfl, by rw [vis_hide hgA]; exact q1⟩, ?_⟩
  rintro i m H2 ⟨rfl, hi, G2, acc, vacc, s2, hp2, p2, gA, hA2, dacc, q2⟩
  have Rw : ∀ {H' : Hp} {G' : Gp}, Step X.K H1 G1 H' G' → HpR X.K Γ H' G' → Rel X.K Γ (wipe3 δ vs) G' (L2.wipe σ vs) H' := fun s hp => (R.mono s hp).wipe vs
  by_cases hl : i < ds.length
  · refine .inr ⟨wk.go i H2 G2 hl p2 hp2, fun H' => ∃ G' acc vacc, Step X.K H1 G1 H' G' ∧ HpR X.K Γ H' G' ∧ P H' G' ∧ G' A = some .hid ∧ H' A = some (.lst vacc) ∧ DatL X.K Γ H' G' acc vacc ∧ LcRun (wipe3 δ vs) g tt te (ds.drop (i + 1)) acc (vis G') (fun ys G2 => Q3 (.lst ys) G2),
      fun H' q => ⟨ds.length - (i + 1), by omega, rfl, hl, q⟩, fun x H' y => ?_⟩
    obtain ⟨s3, hp3, d, hd, dd⟩ := wk.yld i H2 G2 x H' hl p2 hp2 y
    have e : ds.drop i = d :: ds.drop (i + 1) := by
      rw [List.drop_eq_getElem_cons hl]
      have := (List.getElem?_eq_some_iff.mp hd).2
      rw [this]
    rw [e] at q2
    have s23 := s2.trans s3
    have nt : NoTbl (.lst vacc) := noTbl_lst
    refine ⟨d, wipe3 δ vs, G2, _, Rw s23 hp3, dd, q2, fun δ4 G4 σ4 H4 s4 R4 ew q4 => ⟨ew.trans (wipe_wipe σ vs), ?_⟩⟩
    refine ⟨δ4, G4, _, _, R4, q4, fun bb G5 H5 s5 hp5 q5 => ?_, fun _ _ _ _ _ z => z.elim⟩
    have s35 : Step X.K H2 G2 H5 G5 := (s3.trans s4).trans s5
    have s25 := s2.trans s35
    cases bb with
    | false =>
      have q5 : LcRun (wipe3 δ vs) g tt te (ds.drop (i + 1)) acc (vis G5) (fun ys G2 => Q3 (.lst ys) G2) := q5
      show ∃ G' acc vacc, _
      exact ⟨G5, acc, vacc, s25, hp5, wk.keep _ _ _ _ s35.toStep0 p2, s35.hid A gA, s35.frh A _ hA2 gA nt, dacc.mono s35, q5⟩
    | true =>
      have q5 : te δ4 (vis G5) (fun y G4 => acc.length < sizeLine ∧ LcRun (wipe3 δ vs) g tt te (ds.drop (i + 1)) (acc ++ [y]) G4 (fun ys G2 => Q3 (.lst ys) G2)) X0 := q5
      show lift X.K Γ W0 te σ4 H5 _
      refine ⟨δ4, G5, _, _, R4.mono s5 hp5, q5, fun dy vy G6 H6 s6 hp6 dvy q6 => ?_, fun _ _ _ _ _ z => z.elim⟩
      have s36 : Step X.K H2 G2 H6 G6 := s35.trans s6
      have gA6 := s36.hid A gA
      have hA6 := s36.frh A _ hA2 gA nt
      have dacc6 := dacc.mono s36
      have hh : Step0 X.K H6 G6 (upd H6 A (.lst (vacc ++ [vy]))) G6 := Step0.hide gA6 hA6 fun _ z => nomatch z
      refine ⟨vacc, hA6, by rw [← dacc6.length]; exact q6.1, G6, acc ++ [dy], vacc ++ [vy], Step.hidden (s2.trans s36) hA (fun a ha => upd_ne ha) ⟨_, upd_same⟩, hp6.hide gA6 hA6 (fun _ z => nomatch z) noTbl_lst (fun _ z => nomatch z),
        wk.keep _ _ _ _ (s36.toStep0.trans hh) p2, gA6, upd_same, (dacc6.append (.cons dvy .nil)).mono0 hh, q6.2⟩
  · have e : i = ds.length := by omega
    subst e
    rw [List.drop_length] at q2
    refine .inl ⟨wk.stop H2 G2 p2 hp2, k (.lst acc) _ (gdel G2 A) H2 (s2.show hgA) (hp2.sub (Sub.del (fun g e => by rw [gA] at e; cases e; rfl))) ⟨A, vacc, rfl, ⟨gdel_same, hA2⟩, dacc.sub (Sub.del (fun g e => by rw [gA] at e; cases e; rfl))⟩ ?_⟩
    rw [vis_show gA]
    exact q2
theorem lc_sound {ti : TI3} {g : TG3} {tt : TT3} {te : TE3} {σ : L2.St} {H : Hp} {Q : VK} (hw : lift X.K Γ W (TLc ti g tt te vs) σ H Q) :
    tLc (liftI X.K Γ W ti) (liftW X.K Γ vs g) (liftT X.K Γ W0 tt) (lift X.K Γ W0 te) vs σ H Q := by
  obtain ⟨δ, G, Q3, E3, R, h, k, ke⟩ := hw
  exact ⟨δ, G, _, E3, R, h, fun ds J P G1 H1 s1 hp1 wk p1 q1 => run_lc (R.mono s1 hp1) wk p1 (fun d v G' H' s' => k d v G' H' (s1.trans s')) q1, ke⟩
variable {ti : TI3} {g : TG3} {tt : TT3} {te : TE3} {ifs : List Expr} {scope : Scope} {own : List (Str × Nat)}
theorem pe3_lc (hc : X.calm = true) (hN : X.N.Nodup) (hi : PI3 X Γ W tg iter ti) (ok : BlkOk X.N X.env.scope scope own)
    (hg : ∀ (s : Shared) (H : Hp) (C : Addr) (cl : List (Str × Addr)) (fp : List Addr), PW3g (X.blk s H scope (compEnvC scope cl C X.env) fp) Γ (own.map (·.2)) tg g) (ht : ∀ (s : Shared) (H : Hp) (C : Addr) (cl : List (Str × Addr)) (fp : List Addr), PTs3 (X.blk s H scope (compEnvC scope cl C X.env) fp) Γ W0 ifs tt)
    (he : ∀ (s : Shared) (H : Hp) (C : Addr) (cl : List (Str × Addr)) (fp : List Addr), PE3 (X.blk s H scope (compEnvC scope cl C X.env) fp) Γ W0 elt te) (hs : ∀ x, foldedSetIterable iter X.env x = pure x := by intro _; rfl) :
    PE3 X Γ W (.ListComp elt [⟨tg, iter, ifs, 0⟩] scope pos) (TLc ti g tt te (own.map (·.2))) :=
  pe_imp (pe_lc hc hN hi ok hg ht he hs) fun _ _ _ hw => lc_sound hw
theorem ps3_setLc {i : Nat} {y : Str} {py spos : Pos} (hc : X.calm = true) (hN : X.N.Nodup) (hy : X.N[i]? = some y) (hyl : X.env.scope.names.lookup y = some .local)
    (hsw : swapsWith (.ListComp elt [⟨tg, iter, ifs, 0⟩] scope pos) (some (.Name y py)) spos.line X.env = pure true) (hi : PI3 X Γ W tg iter ti) (ok : BlkOk X.N X.env.scope scope own)
    (hg : ∀ (s : Shared) (H : Hp) (C : Addr) (cl : List (Str × Addr)) (fp : List Addr), PW3g (X.blk s H scope (compEnvC scope cl C X.env) fp) Γ (own.map (·.2)) tg g) (ht : ∀ (s : Shared) (H : Hp) (C : Addr) (cl : List (Str × Addr)) (fp : List Addr), PTs3 (X.blk s H scope (compEnvC scope cl C X.env) fp) Γ W0 ifs tt)
    (he : ∀ (s : Shared) (H : Hp) (C : Addr) (cl : List (Str × Addr)) (fp : List Addr), PE3 (X.blk s H scope (compEnvC scope cl C X.env) fp) Γ W0 elt te) (hs : ∀ x, foldedSetIterable iter X.env x = pure x := by intro _; rfl) :
    PS3 X Γ W (.Assign [.Name y py] (.ListComp elt [⟨tg, iter, ifs, 0⟩] scope pos) spos) (TSet (TLc ti g tt te (own.map (·.2))) i) :=
  ps_imp (ps_setLc hc hN hy hyl hsw hi ok hg ht he hs) fun D' σ H hw => by
    have h2 := set_sound hw
    exact lc_sound (W := W) h2
end
end L3
/-! L3, part f: attributes, calls, defs, raise. -/
namespace L3
open PySem PySem.Spec PyProof.Rows L2

section
variable {X : Cx} {Γ : Gm} {W : WX} {e o a b c value : Expr} {pos pos' : Pos} {f : Str} {ta tb tc tv : TE3}
@[simp] def TFld (K : PySem.W.Frag) (f : Str) (t : TE3) : TE3 := fun δ G Q E => t δ G (fun x G1 => match x with
  | .ref p => (match G1 p with
    | some (.ins C fs) => Cls K C ∧ NoAttr K C f ∧ onS (fs.lookup f) fun d => Q d G1
    | _ => False)
  | .nod (.obj C ns) xs => Cls K C ∧ NoAttr K C f ∧ onS ((ns.zip xs).lookup f) fun d => Q d G1
  | _ => False) E
theorem pe3_fld (he : PE3 X Γ W e ta) (hb : attributeBase e f X.env (eval e X.env) = eval e X.env) : PE3 X Γ W (.Attribute e f pos) (TFld X.K f ta) := pe_imp (pe_fld he hb) fun σ H Q hw => by
  obtain ⟨δ, G, Q3, E3, R, h1, k, ke⟩ := hw
  refine ⟨δ, G, _, E3, R, h1, fun x v G1 H1 s1 hp1 dx q => ?_, ke⟩
  split at q
  · obtain rfl : v = _ := dx
    split at q
    · rename_i C fs hg
      obtain ⟨hc, hn, q⟩ := q
      obtain ⟨d, hl, q⟩ := onS_iff.mp q
      obtain ⟨dx, vs, h2, l⟩ := hp1.own _ _ (vis_some hg)
      obtain ⟨u, hu, du⟩ := DatF.lookup l f hl
      exact ⟨_, C, dx, vs, u, rfl, h2, hc, hn, hu, k d u G1 H1 s1 hp1 du q⟩
    · exact q.elim
  · obtain ⟨p, vs, rfl, ⟨_, hz, dx, h2⟩, l⟩ := dx
    obtain ⟨hc, hn, q⟩ := q
    obtain ⟨d, hl, q⟩ := onS_iff.mp q
    obtain ⟨u, hu, du⟩ := DatF.lookup (DatF.of_zip l) f hl
    exact ⟨p, _, dx, _, u, rfl, h2, hc, hn, hu, k d u G1 H1 s1 hp1 du q⟩
  · exact q.elim
@[simp] def TSFld (K : PySem.W.Frag) (f : Str) (to tv : TE3) : TS3 := fun D3 δ G => tv δ G (fun y G1 => to δ G1 (fun x G2 => match x with
  | .ref p => (match G2 p with
    | some (.ins C fs) => Cls K C ∧ NoAttr K C f ∧ fs.length < 1000 ∧ D3.nx δ (gset G2 p (.ins C (putD f y fs)))
    | _ => False)
  | _ => False) (fun cls G2 => D3.ex cls δ G2)) (fun cls G2 => D3.ex cls δ G2)
theorem ps3_fld (ho : PE3 X Γ W o ta) (hv : PE3 X Γ W value tv) (hs : swapsWith value (some (.Attribute o f pos')) pos.line X.env = pure false) : PS3 X Γ W (.Assign [.Attribute o f pos'] value pos) (TSFld X.K f ta tv) := by
  refine ps_imp (ps_fld ho hv hs) fun D' σ H hw => ?_
  obtain ⟨δ, G, D3, R, h, k⟩ := hw
  refine ⟨δ, G, _, _, R, h, fun y w G1 H1 s1 hp1 dy q => ?_, fun cls G' H' s hp q => k.ex cls δ G' σ H' s (R.mono s hp) q⟩
  refine ⟨δ, G1, _, _, R.mono s1 hp1, q, fun x v G2 H2 s2 hp2 dx q => ?_, fun cls G' H' s hp q => k.ex cls δ G' σ H' (s1.trans s) ((R.mono s1 hp1).mono s hp) q⟩
  split at q
  · obtain rfl : v = _ := dx
    split at q
    · rename_i C fs hg
      obtain ⟨hc, hn, hl, q⟩ := q
      have hg' := vis_some hg
      obtain ⟨dx, vs, h2, l⟩ := hp2.own _ _ hg'
      obtain ⟨st, hp3⟩ := hp2.put (o' := .ins C dx (putF f w vs)) (g' := .ins C (putD f y fs)) hg' rfl fun st => ⟨dx, _, upd_same, DatF.mono st (DatF.put (dy.mono s2) l)⟩
      refine ⟨_, C, dx, vs, rfl, h2, hc, hn, by rw [← DatF.length l]; exact hl, k.nx δ _ σ _ ((s1.trans s2).trans st) (((R.mono s1 hp1).mono s2 hp2).mono st hp3) ?_⟩
      rw [vis_gset (by intro z; cases z)]
      exact q
    · exact q.elim
  · exact q.elim
/-- o.f op= e -/
@[simp] def TSFldAug (K : PySem.W.Frag) (f : Str) (r : R3) (to tv : TE3) : TS3 := fun D3 δ G => to δ G (fun x G1 => match x with
  | .ref p => (match G1 p with
    | some (.ins C fs) => Cls K C ∧ NoAttr K C f ∧ onS (fs.lookup f) fun d => tv δ G1 (fun y G2 => r d y G2 fun z G3 => match G3 p with
      | some (.ins C' fs) => C' = C ∧ fs.length < 1000 ∧ D3.nx δ (gset G3 p (.ins C (putD f z fs)))
      | _ => False) (fun cls G2 => D3.ex cls δ G2)
    | _ => False)
  | _ => False) (fun cls G2 => D3.ex cls δ G2)
theorem ps3_fldaug {op : Operator} {rd : V → V → Hp → VK → Prop} {r3 : R3} {tpos : Pos} (ho : PE3 X Γ W o ta) (hv : PE3 X Γ W value tv) (hop : InOp X op rd) (hs : Sound2 X.K Γ rd r3) (hb : attributeBase o f X.env (eval o X.env) = eval o X.env := by rfl) : PS3 X Γ W (.AugAssign (.Attribute o f tpos) op value pos) (TSFldAug X.K f r3 ta tv) := by
  refine ps_imp (ps_fldaug ho hv hop) fun D' σ H hw => ?_
  obtain ⟨δ, G, D3, R, h, k⟩ := hw
  refine ⟨δ, G, _, _, R, h, fun x v G1 H1 s1 hp1 dx q => ?_, fun cls G' H' s hp q => k.ex cls δ G' σ H' s (R.mono s hp) q⟩
  split at q
  · obtain rfl : v = _ := dx
    split at q
    · rename_i C fs hg
      obtain ⟨hc, hn, q⟩ := q
      obtain ⟨d, hl, q⟩ := onS_iff.mp q
      obtain ⟨dx, vs, h2, l⟩ := hp1.own _ _ (vis_some hg)
      obtain ⟨u, hu, du⟩ := DatF.lookup l f hl
      refine ⟨_, C, dx, vs, u, rfl, h2, hc, hn, hu, δ, G1, _, _, R.mono s1 hp1, q, fun y w G2 H2 s2 hp2 dy q => ?_, fun cls G' H' s hp q => k.ex cls δ G' σ H' (s1.trans s) ((R.mono s1 hp1).mono s hp) q⟩
      refine hs d y u w H2 G2 _ _ hp2 (du.mono s2) dy q fun z zv G3 H3 s3 hp3 dz q => ?_
      split at q
      · rename_i C' fs' hg3
        obtain ⟨rfl, hl3, q⟩ := q
        have hg' := vis_some hg3
        obtain ⟨dx', vs', h3, l3⟩ := hp3.own _ _ hg'
        obtain ⟨st, hp4⟩ := hp3.put (o' := .ins C' dx' (putF f zv vs')) (g' := .ins C' (putD f z fs')) hg' rfl fun st => ⟨dx', _, upd_same, DatF.mono st (DatF.put dz l3)⟩
        refine ⟨dx', vs', h3, by rw [← DatF.length l3]; exact hl3, k.nx δ _ σ _ (((s1.trans s2).trans s3).trans st) ((((R.mono s1 hp1).mono s2 hp2).mono s3 hp3).mono st hp4) ?_⟩
        rw [vis_gset (by intro z; cases z)]
        exact q
      · exact q.elim
    · exact q.elim
  · exact q.elim
end

/-! ### promises -/
abbrev Sp3 := List D → Gp → K3 → X3 → Prop
def liftSp (K : PySem.W.Frag) (Γ : Gm) (sp3 : Sp3) : Sp := fun vs H Q E => ∃ ds G Q3 E3, DatL K Γ H G ds vs ∧ HpR K Γ H G ∧ sp3 ds (vis G) Q3 E3 ∧
  (∀ d v G' H', Step K H G H' G' → HpR K Γ H' G' → Dat K Γ H' G' d v → Q3 d (vis G') → Q v H') ∧ ∀ cls G' H', Step K H G H' G' → HpR K Γ H' G' → E3 cls (vis G') → E cls none H'
def Fn3 (P : Program) (w : World) (K : PySem.W.Frag) (mg : Str → Option Value) (base : Heap) (k : Nat) (f : Addr) (fd : FuncData) (ps : List Str) (sp3 : Sp3) : Prop := ∀ Γ : Gm, FnOk P w K mg base (L2.CX P w) k f fd ps (liftSp K Γ sp3)
theorem Fn3.mono {P : Program} {w : World} {K : PySem.W.Frag} {mg : Str → Option Value} {base : Heap} {j k : Nat} {f : Addr} {fd : FuncData} {ps : List Str} {sp3 : Sp3} (F : Fn3 P w K mg base j f fd ps sp3) (h : j ≤ k) : Fn3 P w K mg base k f fd ps sp3 := fun Γ => (F Γ).mono h
def RetC (Q3 : K3) : K3 := fun d G => ∃ d' G', Sub G' G ∧ Fz G G' d d' ∧ Q3 d' G'
theorem RetC.now {Q3 : K3} {d : D} {G : Gp} (h : Q3 d G) : RetC Q3 d G := ⟨d, G, Sub.refl, Fz.same, h⟩
theorem RetC.sub {Q3 : K3} {d : D} {G G' : Gp} (s : Sub G' G) (h : Q3 d G') : RetC Q3 d G := ⟨d, G', s, Fz.same, h⟩
def ExC (E3 : X3) : X3 := fun cls G => ∃ G', Sub G' G ∧ E3 cls G'
@[simp] def start3 (N : List Str) (ds : List D) : St3 := ds.map some ++ List.replicate (N.length - ds.length) none
theorem Rel.start {K : PySem.W.Frag} {Γ : Gm} {G : Gp} {H : Hp} {N : List Str} {ds : List D} {vs : List V} (R : HpR K Γ H G) (h : DatL K Γ H G ds vs) : Rel K Γ (start3 N ds) G (L2.start N vs) H := by
  refine ⟨by simp [start3, L2.start, h.length], fun i d e => ?_, R⟩
  unfold start3 at e
  unfold L2.start
  by_cases hi : i < ds.length
  · rw [List.getElem?_append_left (by simpa using hi), List.getElem?_map] at e
    obtain ⟨d', hd, e⟩ := Option.map_eq_some_iff.mp e
    cases e
    obtain ⟨v, hv, dv⟩ := h.get hd
    exact ⟨v, by rw [List.getElem?_append_left (by simpa [← h.length] using hi), List.getElem?_map, hv] <;> rfl, dv⟩
  · rw [List.getElem?_append_right (by simpa using hi)] at e
    rw [List.getElem?_replicate] at e
    split at e
    · cases e
    · cases e
abbrev WE3 (E : XK) : WX := fun cls d _ H => E cls d H
theorem fn3 {P : Program} {w : World} {K : PySem.W.Frag} {mg : Str → Option Value} {base : Heap} {x qual : Str} {st : Stmt} {f : Addr} {fd : FuncData} {N ps : List Str} {k : Nat} {sp3 : Sp3} (F : Fun K x qual st f fd) (S : FnScope N ps (defScope st)) (len : ∀ ds G Q E, sp3 ds G Q E → ds.length = ps.length)
    (body : ∀ (Γ : Gm) (cdv : Value) (A : Around) (outer : List Env) (s : Shared) (H : Hp) (E : XK), Room k (A.deeper (envOfC qual (defScope st) s.heap.objs.size f cdv)) →
      ∃ T : TS3, PSs3 (cxOf (L2.CX P w) P w K mg base N qual (defScope st) f cdv A outer s H E) Γ (WE3 E) (defBody st) T ∧
        ∀ ds G Q3 E3, sp3 ds G Q3 E3 → T { nx := fun _ G' => RetC Q3 .non G', rt := RetC Q3, ex := fun cls _ G' => ExC E3 cls G' } (start3 N ds) G) :
    Fn3 P w K mg base (k + 1) f fd ps sp3 := fun Γ => by
  refine F.okX S (fun vs H Q E h => ?_) fun cdv A outer s H vs Q E hr h => ?_
  · obtain ⟨ds, G, Q3, E3, dl, _, h, _⟩ := h
    rw [← dl.length]
    exact len _ _ _ _ h
  · obtain ⟨ds, G, Q3, E3, dl, hp, h, kq, ke⟩ := h
    obtain ⟨T, hT, hd⟩ := body Γ cdv A outer s H E hr
    have fin : ∀ d v G' H', Step K H G H' G' → HpR K Γ H' G' → Dat K Γ H' G' d v → RetC Q3 d (vis G') → Q v H' := fun d v G' H' s' hp' dv ⟨d', G2, sb, fz, q⟩ =>
      kq d' v (ovl G' G2) H' (s'.let sb) (hp'.sub (sub_ovl sb)) (fz K Γ H' G' v rfl hp' (dv.sub (sub_ovl sb))) (by rw [vis_sub sb]; exact q)
    refine ⟨_, hT, start3 N ds, G, _, Rel.start hp dl, hd ds (vis G) Q3 E3 h, ⟨fun δ' G' σ' H' s' R' q => fin .non .non G' H' s' R'.hp rfl q, fin, fun _ _ _ _ _ _ z => z.elim, fun _ _ _ _ _ _ z => z.elim, fun cls δ' G' σ' H' s' R' q => ?_⟩⟩
    obtain ⟨G2, sb, q⟩ := q
    exact ke cls (ovl G' G2) H' (s'.let sb) (R'.hp.sub (sub_ovl sb)) (by rw [vis_sub sb]; exact q)

/-! ### calls -/
section
variable {X : Cx} {W : WX} {k : Nat} {f C : Addr} {fd : FuncData} {ps : List Str} {sp : Sp} {dvs : List V} {ds : List Value} {x m : Str} {p pos apos : Pos} {e o : Expr} {es : List Expr} {ta : TE} {t : TA}
theorem run_any {pins : List (Addr × Obj)} {σ : L2.St} {H : Hp} {s : Shared} {Q : VK} {us : List Value} {vs : List V} (F : FnOk X.prog X.w X.K X.mg X.base (L2.CX X.prog X.w) k f fd ps sp) (hr : Room k X.A) (hb : Binds X.K fd ps ds) (hd : Vals dvs ds) (tk : Takes X W)
    (I : Inv X pins σ H s) (r : Vals vs us) (h : sp (vs ++ dvs) H Q fun cls d H' => W cls d σ H') : wpAny (model X.prog X.w) X.A (call (.ref f) us) (EP X pins σ Q) X.xe s := by
  have r2 : Vals (vs ++ dvs) (us ++ ds) := r.append hd
  have hl : (us ++ ds).length = ps.length := by rw [← r2.length]; exact F.len _ _ _ _ h
  refine wpAny_call (codeAny_mono (F.run X.A X.stack s H ⟨us, []⟩ (us ++ ds) (vs ++ dvs) Q _ hr I.env0 (hb s us I.kIn hl) r2 h) fun r s' hq => ?_)
  cases r with
  | error e => exact passAt tk σ pins H s e s' I hq
  | ok fl =>
    cases fl with
    | ret u => exact I.after hq
    | next => exact False.elim hq
    | brk => exact False.elim hq
    | cont => exact False.elim hq
theorem pe_callW (F : FnOk X.prog X.w X.K X.mg X.base (L2.CX X.prog X.w) k f fd ps sp) (hr : Room k X.A) (hg : Gl X x) (hm : X.mg x = some (.ref f)) (hk : PySem.W.keepIn X.K (.ref f) = true) (hb : Binds X.K fd ps ds) (hd : Vals dvs ds) (tk : Takes X W)
    (ha : PA X (e :: es) t) (hdb : (x == ("__debug__" : Str)) = false := by decide) (he : starEach (e :: es) X.env = (false, eval e X.env) :: starEach es X.env := by rfl) (hpl : (backTo pos (starEach es X.env)).any (·.1) = false := by rfl) :
    PE X (.Call (.Name x p) (e :: es) [] pos) (fun σ H Q => t σ H fun vs H1 => sp (vs ++ dvs) H1 Q fun cls d H' => W cls d σ H') := by
  refine ⟨fun pins s σ H Q I h => ?_⟩
  refine wpAny_Call_Name_kw (ld_glob I hg hm ?_ hdb)
  refine PySem.W.callWith_K (h₀ := X.base) I.ok.mod.kin hk (thn (ha.run pos pins s σ H _ I h) fun us s1 ⟨vs, H1, I1, r, q⟩ => ⟨I1.kIn, ?_⟩) he hpl
  exact run_any F hr hb hd tk I1 r q
theorem pe_callW0 (F : FnOk X.prog X.w X.K X.mg X.base (L2.CX X.prog X.w) k f fd ps sp) (hr : Room k X.A) (hg : Gl X x) (hm : X.mg x = some (.ref f)) (hk : PySem.W.keepIn X.K (.ref f) = true) (hb : Binds X.K fd ps ds) (hd : Vals dvs ds) (tk : Takes X W)
    (hdb : (x == ("__debug__" : Str)) = false := by decide) : PE X (.Call (.Name x p) [] [] pos) (fun σ H Q => sp dvs H Q fun cls d H' => W cls d σ H') := by
  refine ⟨fun pins s σ H Q I h => ?_⟩
  refine wpAny_Call_Name_kw (ld_glob I hg hm ?_ hdb)
  exact PySem.W.callWith_K0 I.kIn hk (run_any (us := []) (vs := []) F hr hb hd tk I .nil h)
theorem pe_methW {pl : Sem Bool} (he : PE X o ta) (c : Cls X.K C) (hm : Meth X.K C m f) (F : FnOk X.prog X.w X.K X.mg X.base (L2.CX X.prog X.w) k f fd ps sp) (hr : Room k X.A) (hb : Binds X.K fd ps ds) (hd : Vals dvs ds) (tk : Takes X W) (ha : PA X (e :: es) t)
    (hst : starEach (e :: es) X.env = (false, eval e X.env) :: starEach es X.env := by rfl) (hpl : (backTo pos (starEach es X.env)).any (·.1) = false := by rfl)
    (ht : eval (.Call (.Attribute o m apos) (e :: es) [] pos) X.env = (do
      let ov ← eval o X.env
      standAt apos.atName
      let (f, first) ← holding [ov] (getMethod ov m pl)
      callWith pos f first (backTo pos (starEach (e :: es) X.env)) (backToKw pos (keywordEach [] X.env))) := by rfl) :
    PE X (.Call (.Attribute o m apos) (e :: es) [] pos) (fun σ H Q => ta σ H fun x H1 => ∃ a dx fs, x = .ref a ∧ H1 a = some (.ins C dx fs) ∧ fs.lookup m = none ∧ t σ H1 fun vs H2 => sp (x :: (vs ++ dvs)) H2 Q fun cls d H' => W cls d σ H') := by
  refine ⟨fun pins s σ H Q I h => ?_⟩
  refine PySem.W.methodCall_KW (pl := pl) (thn (he.run pins s σ H _ I h) fun u s1 ⟨x, H1, I1, rx, a, dx, fs, ex, ea, l, q⟩ => ?_) ht
  subst ex
  obtain rfl : u = Value.ref a := rx
  refine getmeth_ok I1 ea c hm l ?_
  refine PySem.W.callWith_K (first := [.ref a]) (h₀ := X.base) I.ok.mod.kin hm.kp (thn (ha.run pos pins s1 σ H1 _ I1 q) fun us s2 ⟨vs, H2, I2, r, q2⟩ => ⟨I2.kIn, ?_⟩) hst hpl
  exact run_any (us := .ref a :: us) (vs := .ref a :: vs) F hr hb hd tk I2 (.cons rfl r) q2
theorem pe_methW0 {pl : Sem Bool} (he : PE X o ta) (c : Cls X.K C) (hm : Meth X.K C m f) (F : FnOk X.prog X.w X.K X.mg X.base (L2.CX X.prog X.w) k f fd ps sp) (hr : Room k X.A) (hb : Binds X.K fd ps ds) (hd : Vals dvs ds) (tk : Takes X W)
    (ht : eval (.Call (.Attribute o m apos) [] [] pos) X.env = (do
      let ov ← eval o X.env
      standAt apos.atName
      let (f, first) ← holding [ov] (getMethod ov m pl)
      callWith pos f first (backTo pos (starEach [] X.env)) (backToKw pos (keywordEach [] X.env))) := by rfl) :
    PE X (.Call (.Attribute o m apos) [] [] pos) (fun σ H Q => ta σ H fun x H1 => ∃ a dx fs, x = .ref a ∧ H1 a = some (.ins C dx fs) ∧ fs.lookup m = none ∧ sp (x :: dvs) H1 Q fun cls d H' => W cls d σ H') := by
  refine ⟨fun pins s σ H Q I h => ?_⟩
  refine PySem.W.methodCall_KW (pl := pl) (thn (he.run pins s σ H _ I h) fun u s1 ⟨x, H1, I1, rx, a, dx, fs, ex, ea, l, q⟩ => ?_) ht
  subst ex
  obtain rfl : u = Value.ref a := rx
  refine getmeth_ok I1 ea c hm l ?_
  exact PySem.W.callWith_K0 (first := [.ref a]) I1.kIn hm.kp (run_any (us := [.ref a]) (vs := [.ref a]) F hr hb hd tk I1 (.cons rfl .nil) q)
theorem run_makeW {pins : List (Addr × Obj)} {σ : L2.St} {H : Hp} {s : Shared} {Q : VK} {us : List Value} {vs : List V} (M : Mk X.K C f) (F : FnOk X.prog X.w X.K X.mg X.base (L2.CX X.prog X.w) k f fd ps sp) (hr : Room (k + 1) X.A) (hb : Binds X.K fd ps ds) (hd : Vals dvs ds)
    (tk : Takes X W) (I : Inv X pins σ H s) (r : Vals vs us)
    (h : ∀ x dx, H x = none → H dx = none → dx ≠ x → sp (.ref x :: (vs ++ dvs)) (upd (upd H dx (.own x)) x (.ins C dx [])) (fun v H2 => v = .non ∧ Q (.ref x) H2) fun cls d H' => W cls d σ H') :
    wpAny (model X.prog X.w) X.A (call (.ref C) us) (EP X pins σ Q) X.xe s := by
  have hq := h (s.heap.objs.size + 1) s.heap.objs.size (I.hok.fresh (Nat.le_succ _)) (I.hok.fresh (Nat.le_refl _)) (Nat.ne_of_lt (Nat.lt_succ_self _))
  have I2 := Inv.made (C := C) I
  have r2 : Vals (V.ref (s.heap.objs.size + 1) :: (vs ++ dvs)) (Value.ref (s.heap.objs.size + 1) :: (us ++ ds)) := .cons rfl (r.append hd)
  have hl : (Value.ref (s.heap.objs.size + 1) :: us ++ ds).length = ps.length := by
    have e := r2.length
    rw [F.len _ _ _ _ hq] at e
    exact e.symm
  refine wpAny_call (make_map (f := f) I.kIn M.makes M.init (beq_iff_eq.mp M.fn) (codeAny_mono (F.run _ X.stack _ _ ⟨Value.ref (s.heap.objs.size + 1) :: us, []⟩ (Value.ref (s.heap.objs.size + 1) :: (us ++ ds)) _ _ _ (hr.make C us [])
    (I2.env0.make C us []) (hb _ (Value.ref (s.heap.objs.size + 1) :: us) I2.kIn hl) r2 hq) fun r s' hq' => ?_))
  cases r with
  | error e => exact passAt tk σ pins _ _ e s' I2 hq'
  | ok fl =>
    cases fl with
    | ret u =>
      obtain ⟨v, H', I3, rv, ev, q3⟩ := I2.after hq'
      subst ev
      exact ⟨rv, ⟨V.ref (s.heap.objs.size + 1), H', I3, rfl, q3⟩⟩
    | next => exact False.elim hq'
    | brk => exact False.elim hq'
    | cont => exact False.elim hq'
theorem pe_makeW (M : Mk X.K C f) (F : FnOk X.prog X.w X.K X.mg X.base (L2.CX X.prog X.w) k f fd ps sp) (hr : Room (k + 1) X.A) (hg : Gl X x) (hm : X.mg x = some (.ref C)) (hb : Binds X.K fd ps ds) (hd : Vals dvs ds) (tk : Takes X W)
    (ha : PA X (e :: es) t) (hdb : (x == ("__debug__" : Str)) = false := by decide) (he : starEach (e :: es) X.env = (false, eval e X.env) :: starEach es X.env := by rfl) (hpl : (backTo pos (starEach es X.env)).any (·.1) = false := by rfl) :
    PE X (.Call (.Name x p) (e :: es) [] pos) (fun σ H Q => t σ H fun vs H1 => ∀ x dx, H1 x = none → H1 dx = none → dx ≠ x → sp (.ref x :: (vs ++ dvs)) (upd (upd H1 dx (.own x)) x (.ins C dx [])) (fun v H2 => v = .non ∧ Q (.ref x) H2) fun cls d H' => W cls d σ H') := by
  refine ⟨fun pins s σ H Q I h => ?_⟩
  refine wpAny_Call_Name_kw (ld_glob I hg hm ?_ hdb)
  refine PySem.W.callWith_K (h₀ := X.base) I.ok.mod.kin M.kp (thn (ha.run pos pins s σ H _ I h) fun us s1 ⟨vs, H1, I1, r, q⟩ => ⟨I1.kIn, ?_⟩) he hpl
  exact run_makeW M F hr hb hd tk I1 r q
theorem pe_makeW0 (M : Mk X.K C f) (F : FnOk X.prog X.w X.K X.mg X.base (L2.CX X.prog X.w) k f fd ps sp) (hr : Room (k + 1) X.A) (hg : Gl X x) (hm : X.mg x = some (.ref C)) (hb : Binds X.K fd ps ds) (hd : Vals dvs ds) (tk : Takes X W)
    (hdb : (x == ("__debug__" : Str)) = false := by decide) :
    PE X (.Call (.Name x p) [] [] pos) (fun σ H Q => ∀ x dx, H x = none → H dx = none → dx ≠ x → sp (.ref x :: dvs) (upd (upd H dx (.own x)) x (.ins C dx [])) (fun v H2 => v = .non ∧ Q (.ref x) H2) fun cls d H' => W cls d σ H') := by
  refine ⟨fun pins s σ H Q I h => ?_⟩
  refine wpAny_Call_Name_kw (ld_glob I hg hm ?_ hdb)
  exact PySem.W.callWith_K0 I.kIn M.kp (run_makeW (us := []) (vs := []) M F hr hb hd tk I .nil h)
end
section
variable {X : Cx} {Γ : Gm} {W : WX} {k : Nat} {f C : Addr} {fd : FuncData} {ps : List Str} {sp3 : Sp3} {dds : List D} {dvs : List V} {ds : List Value} {x m : Str} {p pos apos : Pos} {e o : Expr} {es : List Expr} {ta : TE3} {t : TA3}
@[simp] def TCall (sp3 : Sp3) (dds : List D) (t : TA3) : TE3 := fun δ G Q E => t δ G (fun xs G1 => sp3 (xs ++ dds) G1 Q E) E
/-- the default values as data -/
def Dflt3 (K : PySem.W.Frag) (dds : List D) (dvs : List V) : Prop := ∀ Γ H G, DatL K Γ H G dds dvs
theorem dflt_nil {K : PySem.W.Frag} : Dflt3 K [] [] := fun _ _ _ => rfl
theorem pe3_call (F : Fn3 X.prog X.w X.K X.mg X.base k f fd ps sp3) (hr : Room k X.A) (hg : Gl X x) (hm : X.mg x = some (.ref f)) (hk : PySem.W.keepIn X.K (.ref f) = true) (hb : Binds X.K fd ps ds) (hd : Vals dvs ds) (h3 : Dflt3 X.K dds dvs) (tk : Takes X W)
    (ha : PA3 X Γ W (e :: es) t) (hdb : (x == ("__debug__" : Str)) = false := by decide) (he : starEach (e :: es) X.env = (false, eval e X.env) :: starEach es X.env := by rfl) (hpl : (backTo pos (starEach es X.env)).any (·.1) = false := by rfl) :
    PE3 X Γ W (.Call (.Name x p) (e :: es) [] pos) (TCall sp3 dds t) := by
  refine pe_imp (pe_callW (F Γ) hr hg hm hk hb hd tk ha hdb he hpl) fun σ H Q hw => ?_
  obtain ⟨δ, G, Q3, E3, R, h1, k, ke⟩ := hw
  refine ⟨δ, G, _, E3, R, h1, fun xs vs G1 H1 s1 hp1 dl q => ?_, ke⟩
  exact ⟨xs ++ dds, G1, Q3, E3, dl.append (h3 Γ H1 G1), hp1, q, fun d v G' H' s' => k d v G' H' (s1.trans s'), fun cls G' H' s' => ke cls G' H' (s1.trans s')⟩
theorem pe3_call0 (F : Fn3 X.prog X.w X.K X.mg X.base k f fd ps sp3) (hr : Room k X.A) (hg : Gl X x) (hm : X.mg x = some (.ref f)) (hk : PySem.W.keepIn X.K (.ref f) = true) (hb : Binds X.K fd ps ds) (hd : Vals dvs ds) (h3 : Dflt3 X.K dds dvs) (tk : Takes X W)
    (hdb : (x == ("__debug__" : Str)) = false := by decide) : PE3 X Γ W (.Call (.Name x p) [] [] pos) (TCall sp3 dds TNil) := by
  refine pe_imp (pe_callW0 (F Γ) hr hg hm hk hb hd tk hdb) fun σ H Q hw => ?_
  obtain ⟨δ, G, Q3, E3, R, h1, k, ke⟩ := hw
  exact ⟨dds, G, Q3, E3, h3 Γ H G, R.hp, h1, k, ke⟩
@[simp] def isObj3 (C : Addr) (m : Str) (G : Gp) (x : D) : Prop := match x with
  | .ref p => (match G p with | some (.ins C' fs) => C' = C ∧ noS (fs.lookup m) | _ => False)
  | .nod (.obj C' ns) xs => C' = C ∧ noS ((ns.zip xs).lookup m)
  | _ => False
theorem isObj3.at {K : PySem.W.Frag} {H : Hp} {G : Gp} {d : D} {v : V} (R : HpR K Γ H G) (h : isObj3 C m (vis G) d) (dv : Dat K Γ H G d v) : ∃ a dx fs, v = .ref a ∧ H a = some (.ins C dx fs) ∧ fs.lookup m = none := by
  unfold isObj3 at h
  split at h
  · obtain rfl : v = _ := dv
    split at h
    · rename_i hg
      obtain ⟨rfl, hl⟩ := h
      obtain ⟨dx, vs, h2, l⟩ := R.own _ _ (vis_some hg)
      exact ⟨_, dx, vs, rfl, h2, DatF.lookup_none l m (noS_iff.mp hl)⟩
    · exact h.elim
  · obtain ⟨rfl, hl⟩ := h
    obtain ⟨p, vs, rfl, ⟨_, hz, dx, h2⟩, l⟩ := dv
    exact ⟨p, dx, _, rfl, h2, DatF.lookup_none (DatF.of_zip l) m (noS_iff.mp hl)⟩
  · exact h.elim
@[simp] def TMeth (C : Addr) (m : Str) (sp3 : Sp3) (dds : List D) (to : TE3) (t : TA3) : TE3 := fun δ G Q E => to δ G (fun x G1 => isObj3 C m G1 x ∧ t δ G1 (fun xs G2 => sp3 (x :: (xs ++ dds)) G2 Q E) E) E
theorem pe3_meth {pl : Sem Bool} (he : PE3 X Γ W o ta) (c : Cls X.K C) (hm : Meth X.K C m f) (F : Fn3 X.prog X.w X.K X.mg X.base k f fd ps sp3) (hr : Room k X.A) (hb : Binds X.K fd ps ds) (hd : Vals dvs ds) (h3 : Dflt3 X.K dds dvs) (tk : Takes X W) (ha : PA3 X Γ W (e :: es) t)
    (hst : starEach (e :: es) X.env = (false, eval e X.env) :: starEach es X.env := by rfl) (hpl : (backTo pos (starEach es X.env)).any (·.1) = false := by rfl)
    (ht : eval (.Call (.Attribute o m apos) (e :: es) [] pos) X.env = (do
      let ov ← eval o X.env
      standAt apos.atName
      let (f, first) ← holding [ov] (getMethod ov m pl)
      callWith pos f first (backTo pos (starEach (e :: es) X.env)) (backToKw pos (keywordEach [] X.env))) := by rfl) :
    PE3 X Γ W (.Call (.Attribute o m apos) (e :: es) [] pos) (TMeth C m sp3 dds ta t) := by
  refine pe_imp (pe_methW he c hm (F Γ) hr hb hd tk ha hst hpl ht) fun σ H Q hw => ?_
  obtain ⟨δ, G, Q3, E3, R, h1, k, ke⟩ := hw
  refine ⟨δ, G, _, E3, R, h1, fun x v G1 H1 s1 hp1 dx q => ?_, ke⟩
  obtain ⟨a, dxx, fs, rfl, h2, hl⟩ := q.1.at hp1 dx
  refine ⟨a, dxx, fs, rfl, h2, hl, δ, G1, _, E3, R.mono s1 hp1, q.2, fun xs vs G2 H2 s2 hp2 dl q => ?_, fun cls G' H' s' => ke cls G' H' (s1.trans s')⟩
  exact ⟨x :: (xs ++ dds), G2, Q3, E3, .cons (dx.mono s2) (dl.append (h3 Γ H2 G2)), hp2, q, fun d v G' H' s' => k d v G' H' ((s1.trans s2).trans s'), fun cls G' H' s' => ke cls G' H' ((s1.trans s2).trans s')⟩
theorem pe3_meth0 {pl : Sem Bool} (he : PE3 X Γ W o ta) (c : Cls X.K C) (hm : Meth X.K C m f) (F : Fn3 X.prog X.w X.K X.mg X.base k f fd ps sp3) (hr : Room k X.A) (hb : Binds X.K fd ps ds) (hd : Vals dvs ds) (h3 : Dflt3 X.K dds dvs) (tk : Takes X W)
    (ht : eval (.Call (.Attribute o m apos) [] [] pos) X.env = (do
      let ov ← eval o X.env
      standAt apos.atName
      let (f, first) ← holding [ov] (getMethod ov m pl)
      callWith pos f first (backTo pos (starEach [] X.env)) (backToKw pos (keywordEach [] X.env))) := by rfl) :
    PE3 X Γ W (.Call (.Attribute o m apos) [] [] pos) (TMeth C m sp3 dds ta TNil) := by
  refine pe_imp (pe_methW0 he c hm (F Γ) hr hb hd tk ht) fun σ H Q hw => ?_
  obtain ⟨δ, G, Q3, E3, R, h1, k, ke⟩ := hw
  refine ⟨δ, G, _, E3, R, h1, fun x v G1 H1 s1 hp1 dx q => ?_, ke⟩
  obtain ⟨a, dxx, fs, rfl, h2, hl⟩ := q.1.at hp1 dx
  exact ⟨a, dxx, fs, rfl, h2, hl, x :: dds, G1, Q3, E3, .cons dx (h3 Γ H1 G1), hp1, q.2, fun d v G' H' s' => k d v G' H' (s1.trans s'), fun cls G' H' s' => ke cls G' H' (s1.trans s')⟩
@[simp] def TMake (C : Addr) (sp3 : Sp3) (dds : List D) (t : TA3) : TE3 := fun δ G Q E => t δ G (fun xs G1 => ∀ x, G1 x = none → sp3 (.ref x :: (xs ++ dds)) (gset G1 x (.ins C [])) (fun d G2 => d = .non ∧ Q (.ref x) G2) E) E
theorem made3 {K : PySem.W.Frag} {H : Hp} {G : Gp} {x dx : Addr} (R : HpR K Γ H G) (h1 : H x = none) (h2 : H dx = none) (hne : dx ≠ x) :
    Step K H G (upd (upd H dx (.own x)) x (.ins C dx [])) (gset G x (.ins C [])) ∧ HpR K Γ (upd (upd H dx (.own x)) x (.ins C dx [])) (gset G x (.ins C [])) := by
  have n1 : upd H dx (.own x) x = none := by rw [upd_ne hne.symm]; exact h1
  have R1 : HpR K Γ (upd H dx (.own x)) G := R.new h2
  exact ⟨(Step.new h2).trans (Step.newG n1 (own_none R1 n1)), R1.newG (g := .ins C []) n1 ⟨dx, [], upd_same, .nil⟩⟩
theorem pe3_make (M : Mk X.K C f) (F : Fn3 X.prog X.w X.K X.mg X.base k f fd ps sp3) (hr : Room (k + 1) X.A) (hg : Gl X x) (hm : X.mg x = some (.ref C)) (hb : Binds X.K fd ps ds) (hd : Vals dvs ds) (h3 : Dflt3 X.K dds dvs) (tk : Takes X W)
    (ha : PA3 X Γ W (e :: es) t) (hdb : (x == ("__debug__" : Str)) = false := by decide) (he : starEach (e :: es) X.env = (false, eval e X.env) :: starEach es X.env := by rfl) (hpl : (backTo pos (starEach es X.env)).any (·.1) = false := by rfl) :
    PE3 X Γ W (.Call (.Name x p) (e :: es) [] pos) (TMake C sp3 dds t) := by
  refine pe_imp (pe_makeW M (F Γ) hr hg hm hb hd tk ha hdb he hpl) fun σ H Q hw => ?_
  obtain ⟨δ, G, Q3, E3, R, h1, k, ke⟩ := hw
  refine ⟨δ, G, _, E3, R, h1, fun xs vs G1 H1 s1 hp1 dl q x dx hx hdx hne => ?_, ke⟩
  obtain ⟨st, hp2⟩ := made3 (C := C) hp1 hx hdx hne
  have q1 := q x (vis_none (own_none hp1 hx))
  rw [← vis_gset (by intro z; cases z)] at q1
  refine ⟨.ref x :: (xs ++ dds), _, _, E3, .cons rfl ((dl.mono st).append (h3 Γ _ _)), hp2, q1, fun d v G' H' s' hp' dv ⟨e1, q2⟩ => ?_, fun cls G' H' s' => ke cls G' H' ((s1.trans st).trans s')⟩
  subst e1
  exact ⟨dv, k (.ref x) _ G' H' ((s1.trans st).trans s') hp' rfl q2⟩
theorem pe3_make0 (M : Mk X.K C f) (F : Fn3 X.prog X.w X.K X.mg X.base k f fd ps sp3) (hr : Room (k + 1) X.A) (hg : Gl X x) (hm : X.mg x = some (.ref C)) (hb : Binds X.K fd ps ds) (hd : Vals dvs ds) (h3 : Dflt3 X.K dds dvs) (tk : Takes X W)
    (hdb : (x == ("__debug__" : Str)) = false := by decide) : PE3 X Γ W (.Call (.Name x p) [] [] pos) (TMake C sp3 dds TNil) := by
  refine pe_imp (pe_makeW0 M (F Γ) hr hg hm hb hd tk hdb) fun σ H Q hw => ?_
  obtain ⟨δ, G, Q3, E3, R, h1, k, ke⟩ := hw
  intro x dx hx hdx hne
  obtain ⟨st, hp2⟩ := made3 (C := C) R.hp hx hdx hne
  have q1 := h1 x (vis_none (own_none R.hp hx))
  rw [← vis_gset (by intro z; cases z)] at q1
  refine ⟨.ref x :: dds, _, _, E3, .cons rfl (h3 Γ _ _), hp2, q1, fun d v G' H' s' hp' dv ⟨e1, q2⟩ => ?_, fun cls G' H' s' => ke cls G' H' (st.trans s')⟩
  subst e1
  exact ⟨dv, k (.ref x) _ G' H' (st.trans s') hp' rfl q2⟩
/-- raise C(..) -/
@[simp] def TRaise (C : Addr) (t : TA3) : TS3 := fun D3 δ G => t δ G (fun ds G1 => ds.length ≤ sizeLine ∧ D3.ex (.ref C) δ G1) (fun cls G1 => D3.ex cls δ G1)
theorem ps3_raise {bmB : List Value} {B newId initId : String} {rpos : Pos} (hc : X.calm = true) (tk : Takes X W) (F : ExcBaseFacts B newId initId bmB) (q : PySem.W.excIn X.K C bmB newId = true) (gC : X.mg x = some (.ref C))
    (kC : PySem.W.keepIn X.K (.ref C) = true) (r : Raises X (.ref C)) (hg : Gl X x) (ha : PA3 X Γ W (e :: es) t) (hdb : (x == ("__debug__" : Str)) = false := by decide)
    (he : starEach (e :: es) X.env = (false, eval e X.env) :: starEach es X.env := by rfl) (hpl : (backTo pos (starEach es X.env)).any (·.1) = false := by rfl) : PS3 X Γ W (.Raise (some (.Call (.Name x p) (e :: es) [] pos)) none rpos) (TRaise C t) := by
  refine ps_imp (ps_raise hc tk (pmk_ownA F q gC kC r hg ha hdb he hpl)) fun D' σ H hw => ?_
  obtain ⟨δ, G, D3, R, h, k⟩ := hw
  refine ⟨δ, G, _, _, R, h, fun ds vs G1 H1 s1 hp1 dl q => ?_, fun cls G' H' s hp q => k.ex cls δ G' σ H' s (R.mono s hp) q⟩
  exact ⟨by rw [← dl.length]; exact q.1, k.ex _ δ G1 σ H1 s1 (R.mono s1 hp1) q.2⟩
end
end L3
/-! L3, part g: dicts. -/
namespace L3
open PySem PySem.Spec PyProof.Rows L2

/-! ### tables -/
section
variable {κ α : Type} [DecidableEq κ]
def look (kvs : List (κ × α)) (k : κ) : Option α := (kvs.find? fun kv => decide (kv.1 = k)).map (·.2)
def put (kvs : List (κ × α)) (k : κ) (v : α) : List (κ × α) := if (kvs.any fun kv => decide (kv.1 = k)) = true then kvs.map (fun kv => if kv.1 = k then (kv.1, v) else kv) else kvs ++ [(k, v)]
def drop (kvs : List (κ × α)) (k : κ) : List (κ × α) := kvs.filter fun kv => decide (kv.1 ≠ k)
def merge (kvs : List (κ × α)) : List (κ × α) → List (κ × α)
  | [] => kvs
  | (k, v) :: r => merge (put kvs k v) r
end
def keyD : Key → D
  | .inl i => .int i
  | .inr x => .str x
def keysD (ks : List Key) : D := .tup (ks.map keyD)
section
variable {K : PySem.W.Frag} {Γ : Gm} {H : Hp} {G : Gp}
theorem dat_key {k : Key} {v : V} (h : Dat K Γ H G (keyD k) v) : v = kV k := by
  cases k <;> exact h
theorem dat_key' {k : Key} : Dat K Γ H G (keyD k) (kV k) := by cases k <;> rfl
theorem datL_keys : ∀ {ks : List Key} {vs : List V}, DatL K Γ H G (ks.map keyD) vs → vs = ks.map kV
  | [], _, h => h
  | k :: ks, _, h => by
    obtain ⟨v, r, rfl, h1, h2⟩ := h
    rw [dat_key h1, datL_keys h2] <;> rfl
theorem datL_keys' : ∀ {ks : List Key}, DatL K Γ H G (ks.map keyD) (ks.map kV)
  | [] => rfl
  | k :: ks => ⟨_, _, rfl, dat_key', datL_keys'⟩
theorem dat_keys {ks : List Key} {v : V} (h : Dat K Γ H G (keysD ks) v) : ∃ b, v = .ref b ∧ H b = some (.tup (ks.map kV)) := by
  obtain ⟨a, vs, rfl, h1, l⟩ := h
  exact ⟨a, rfl, by rw [← datL_keys l]; exact h1⟩
theorem dat_keys' {ks : List Key} {b : Addr} (h : H b = some (.tup (ks.map kV))) : Dat K Γ H G (keysD ks) (.ref b) := ⟨b, _, rfl, h, datL_keys'⟩
variable {κ : Type} [DecidableEq κ]
theorem datF_look {kvs : List (κ × D)} {vs : List (κ × V)} (h : DatF K Γ H G kvs vs) (k : κ) : (∃ d v, look kvs k = some d ∧ valV vs k = some v ∧ Dat K Γ H G d v) ∨ (look kvs k = none ∧ valV vs k = none) := by
  induction h with
  | nil => exact .inr ⟨rfl, rfl⟩
  | cons r t ih =>
    rename_i p q l1 l2
    obtain ⟨n, d⟩ := p
    obtain ⟨n', v⟩ := q
    obtain ⟨r1, r2⟩ := r
    have r1 : n = n' := r1
    subst r1
    by_cases e : n = k
    · exact .inl ⟨d, v, by simp [look, e], by simp [valV, e], r2⟩
    · have e1 : look ((n, d) :: l1) k = look l1 k := by simp [look, e]
      have e2 : valV ((n, v) :: l2) k = valV l2 k := by simp [valV, e]
      rw [e1, e2]
      exact ih
theorem datF_any {kvs : List (κ × D)} {vs : List (κ × V)} (h : DatF K Γ H G kvs vs) (k : κ) : (kvs.any fun kv => decide (kv.1 = k)) = vs.any fun kv => decide (kv.1 = k) := by
  induction h with
  | nil => rfl
  | cons r t ih => rw [List.any_cons, List.any_cons, ih, r.1]
theorem datF_repl {kvs : List (κ × D)} {vs : List (κ × V)} (h : DatF K Γ H G kvs vs) (k : κ) {d : D} {v : V} (r : Dat K Γ H G d v) : DatF K Γ H G (kvs.map fun kv => if kv.1 = k then (kv.1, d) else kv) (vs.map fun kv => if kv.1 = k then (kv.1, v) else kv) := by
  induction h with
  | nil => exact .nil
  | cons q t ih =>
    rw [List.map_cons, List.map_cons]
    refine .cons ?_ ih
    rename_i p u l1 l2
    rw [← q.1]
    by_cases e : p.1 = k
    · rw [if_pos e, if_pos e]; exact ⟨rfl, r⟩
    · rw [if_neg e, if_neg e]; exact q
theorem datF_snoc {kvs : List (κ × D)} {vs : List (κ × V)} (h : DatF K Γ H G kvs vs) {k : κ} {d : D} {v : V} (r : Dat K Γ H G d v) : DatF K Γ H G (kvs ++ [(k, d)]) (vs ++ [(k, v)]) := by
  induction h with
  | nil => exact .cons ⟨rfl, r⟩ .nil
  | cons q t ih => exact .cons q ih
theorem datF_put {kvs : List (κ × D)} {vs : List (κ × V)} (h : DatF K Γ H G kvs vs) (k : κ) {d : D} {v : V} (r : Dat K Γ H G d v) : DatF K Γ H G (put kvs k d) (putK vs k v) := by
  unfold put putK
  rw [datF_any h k]
  split
  · exact datF_repl h k r
  · exact datF_snoc h r
theorem datF_drop {kvs : List (κ × D)} {vs : List (κ × V)} (h : DatF K Γ H G kvs vs) (k : κ) : DatF K Γ H G (drop kvs k) (dropK vs k) := by
  induction h with
  | nil => exact .nil
  | cons q t ih =>
    rename_i p u l1 l2
    unfold drop dropK at ih ⊢
    rw [List.filter_cons, List.filter_cons, ← q.1]
    by_cases e : p.1 = k
    · rw [if_neg (by simp [e]), if_neg (by simp [e])]; exact ih
    · rw [if_pos (by simp [e]), if_pos (by simp [e])]; exact .cons q ih
theorem datF_get {kvs : List (κ × D)} {vs : List (κ × V)} (h : DatF K Γ H G kvs vs) {i : Nat} {k : κ} {v : V} (e : vs[i]? = some (k, v)) : ∃ d, kvs[i]? = some (k, d) ∧ Dat K Γ H G d v := by
  induction h generalizing i with
  | nil => simp at e
  | cons q t ih =>
    cases i with
    | zero =>
      rename_i p u l1 l2
      simp at e
      subst e
      obtain ⟨n, d⟩ := p
      have q1 : n = k := q.1
      subst q1
      exact ⟨d, by simp, q.2⟩
    | succ i => simpa using ih (by simpa using e)
end

/-- x is a dict with the pairs kvs -/
def DKat (G : Gp) (x : D) (kvs : List (Key × D)) : Prop := x = .dK kvs ∨ ∃ a, x = .ref a ∧ (G a = some (.dK kvs) ∨ G a = some (.lkK kvs))
def DTat (G : Gp) (x : D) (kvs : List (List Key × D)) : Prop := x = .dT kvs ∨ ∃ a, x = .ref a ∧ (G a = some (.dT kvs) ∨ G a = some (.lkT kvs))
/-- what the dict x holds at y -/
def DG3 (G : Gp) (x y : D) (r : Option D) : Prop := (∃ kvs k, DKat G x kvs ∧ y = keyD k ∧ r = look kvs k) ∨ ∃ kvs k, DTat G x kvs ∧ y = keysD k ∧ r = look kvs k
section
variable {K : PySem.W.Frag} {Γ : Gm} {H : Hp} {G : Gp}
theorem DKat.at {x : D} {v : V} {kvs : List (Key × D)} (R : HpR K Γ H G) (h : DKat (vis G) x kvs) (dv : Dat K Γ H G x v) : ∃ a vs, v = .ref a ∧ Rd H a (.dK vs) ∧ DatF K Γ H G kvs vs := by
  rcases h with rfl | ⟨a, rfl, h | h⟩
  · obtain ⟨a, us, rfl, ⟨_, hz, h1⟩, l⟩ := dv
    have := DatF.of_zip (ns := kvs.map (·.1)) l
    rw [zip_self] at this
    exact ⟨a, _, rfl, h1, this⟩
  · obtain rfl : v = _ := dv
    obtain ⟨vs, h1, l⟩ := R.own _ _ (vis_some h)
    exact ⟨a, vs, rfl, .inl h1, l⟩
  · obtain rfl : v = _ := dv
    obtain ⟨o, vs, h1, l⟩ := R.own _ _ (vis_some h)
    exact ⟨a, vs, rfl, .inr ⟨o, h1⟩, l⟩
theorem DTat.at {x : D} {v : V} {kvs : List (List Key × D)} (R : HpR K Γ H G) (h : DTat (vis G) x kvs) (dv : Dat K Γ H G x v) : ∃ a vs, v = .ref a ∧ Rd H a (.dT vs) ∧ DatF K Γ H G kvs vs := by
  rcases h with rfl | ⟨a, rfl, h | h⟩
  · obtain ⟨a, us, rfl, ⟨_, hz, h1⟩, l⟩ := dv
    have := DatF.of_zip (ns := kvs.map (·.1)) l
    rw [zip_self] at this
    exact ⟨a, _, rfl, h1, this⟩
  · obtain rfl : v = _ := dv
    obtain ⟨vs, h1, l⟩ := R.own _ _ (vis_some h)
    exact ⟨a, vs, rfl, .inl h1, l⟩
  · obtain rfl : v = _ := dv
    obtain ⟨o, vs, h1, l⟩ := R.own _ _ (vis_some h)
    exact ⟨a, vs, rfl, .inr ⟨o, h1⟩, l⟩
theorem DG3.at {x y : D} {v u : V} {r : Option D} (R : HpR K Γ H G) (h : DG3 (vis G) x y r) (dv : Dat K Γ H G x v) (du : Dat K Γ H G y u) :
    ∃ a ro, v = .ref a ∧ DGet H a u ro ∧ IsD H a ∧ ((∃ d w, r = some d ∧ ro = some w ∧ Dat K Γ H G d w) ∨ (r = none ∧ ro = none)) := by
  rcases h with ⟨kvs, k, hx, rfl, rfl⟩ | ⟨kvs, k, hx, rfl, rfl⟩
  · obtain ⟨a, vs, rfl, h1, l⟩ := hx.at R dv
    exact ⟨a, valV vs k, rfl, .inl ⟨vs, k, h1, dat_key du, rfl⟩, .inl ⟨vs, h1⟩, (datF_look l k).imp (fun ⟨d, w, e1, e2, e3⟩ => ⟨d, w, e1, e2, e3⟩) fun h => h⟩
  · obtain ⟨a, vs, rfl, h1, l⟩ := hx.at R dv
    obtain ⟨b, rfl, hb⟩ := dat_keys du
    exact ⟨a, valV vs k, rfl, .inr ⟨vs, k, b, h1, rfl, hb, rfl⟩, .inr ⟨vs, h1⟩, (datF_look l k).imp (fun ⟨d, w, e1, e2, e3⟩ => ⟨d, w, e1, e2, e3⟩) fun h => h⟩
end

section
variable {X : Cx} {Γ : Gm} {W : WX} {e o a b c f i : Expr} {pos apos cpos : Pos} {ta tb tc : TE3}
/-! d[k] -/
def rDGet2 : R2 := fun x y H Q => ∃ a v, x = .ref a ∧ DGet H a y (some v) ∧ Q v H
theorem ix_dict (hu : X.A.units + 1 < cLine) : IxR X rDGet2 := by
  intro value slice pins s σ H x y v u Q I rx ry h hs
  obtain ⟨p, r, rfl, g, q⟩ := h
  obtain rfl : v = Value.ref p := rx
  exact tail_any (dict_typeIs I g) slot_dict_getitem.lookup (d_getItem hu I g ry fun w' s3 I3 rw' => ⟨r, H, I3, rw', q⟩) hs
def subR3 : R3 := fun x y G Q => ixR x y G Q ∨ ∃ d, DG3 G x y (some d) ∧ Q d G
theorem sound_sub : Sound2 X.K Γ (fun x y H Q => rIx X.K x y H Q ∨ rDGet2 x y H Q) subR3 := by
  intro x y v u H G Q3 Q R hx hy h k
  rcases h with h | ⟨d, h, q⟩
  · exact .inl (sound_ix (X := X) x y v u H G Q3 Q R hx hy h k)
  · obtain ⟨a, ro, rfl, g, _, e⟩ := h.at R hx hy
    rcases e with ⟨d', w, e1, rfl, dw⟩ | ⟨e1, _⟩
    · cases e1
      exact .inr ⟨a, w, rfl, g, ret k R q dw⟩
    · cases e1
theorem pe3_sub_ (hu : X.A.units + 1 < cLine) (ha : PE3 X Γ W a ta) (hb : PE3 X Γ W b tb) (hs : PlainIx b) : PE3 X Γ W (.Subscript a b pos) (TOp subR3 ta tb) :=
  pe_imp (pe_ix (ix_seq.or (ix_dict hu)) ha hb hs) fun _ _ _ hw => op_sound sound_sub hw
/-! in, not in -/
def rDIn (neg : Bool) : R2 := fun y x H Q => ∃ a ov, x = .ref a ∧ DGet H a y ov ∧ Q (.bl (if neg then !ov.isSome else ov.isSome)) H
theorem op_dIn (hu : X.A.units + 1 < cLine) : OpR X (compareOp .In) (rDIn false) := by
  intro pins s σ H y x u v Q I ry rx h
  obtain ⟨a, ov, rfl, g, q⟩ := h
  obtain rfl : v = Value.ref a := rx
  exact d_in hu I g ry fun s3 I3 => ⟨.bl ov.isSome, H, I3, rfl, q⟩
theorem op_dNotIn (hu : X.A.units + 1 < cLine) : OpR X (compareOp .NotIn) (rDIn true) := by
  intro pins s σ H y x u v Q I ry rx h
  obtain ⟨a, ov, rfl, g, q⟩ := h
  obtain rfl : v = Value.ref a := rx
  exact d_notIn hu I g ry fun s3 I3 => ⟨.bl (!ov.isSome), H, I3, rfl, q⟩
/-- one sign in a text; in a list; in a tuple of flat things; in a dict -/
def flat3 : D → Bool
  | .nod _ _ => false
  | .ref _ => false
  | .clo _ => false
  | _ => true
def inB (x : D) (ds : List D) : Bool := ds.any fun z => eq3 z x
def inR (neg : Bool) : R3 := fun x y G Q =>
  (∃ r, DG3 G y x r ∧ Q (.bl (if neg then !r.isSome else r.isSome)) G) ∨
  (∃ ds, y = .lst ds ∧ gd 60 x = true ∧ gd 60 y = true ∧ Q (.bl (if neg then !inB x ds else inB x ds)) G) ∨
  (∃ c z, x = .str ⟨#[c]⟩ ∧ y = .str z ∧ Q (.bl (if neg then !decide (c ∈ z.cps.toList) else decide (c ∈ z.cps.toList))) G) ∨
  (∃ ds, (y = .tup ds ∨ y = .nod .tuK ds) ∧ flat3 x = true ∧ ds.all flat3 = true ∧ Q (.bl (if neg then !inB x ds else inB x ds)) G)
end
section
variable {K : PySem.W.Frag} {Γ : Gm} {H : Hp} {G : Gp}
theorem flat_eqV {x y : D} {u v : V} (fx : flat3 x = true) (fy : flat3 y = true) (dx : Dat K Γ H G x v) (dy : Dat K Γ H G y u) : flatV v = true ∧ eqV u v = eq3 y x := by
  cases x <;> first | (cases fx; done) | skip
  all_goals (obtain rfl : v = _ := dx)
  all_goals (cases y <;> first | (cases fy; done) | skip)
  all_goals (obtain rfl : u = _ := dy)
  all_goals (refine ⟨rfl, ?_⟩)
  all_goals (simp [L2.eqV, eq3, py, PyData.eqv])
end
end L3
/-! L3, part h: in, dict methods, stores to items, walks over dicts. -/
namespace L3
open PySem PySem.Spec PyProof.Rows L2

section
variable {X : Cx} {Γ : Gm} {W : WX} {e o a b c f i : Expr} {pos apos cpos : Pos} {ta tb tc tv : TE3}
abbrev rInAll (K : PySem.W.Frag) (neg : Bool) (rd : R2) (rs : R2) : R2 := fun y x H Q => rDIn neg y x H Q ∨ rd y x H Q ∨ rs y x H Q ∨ rIn K neg y x H Q
theorem sound_in (neg : Bool) {rd rs : R2} (hd : ∀ y x H Q, (∃ d ds, Dp X.K H y d ∧ Dp X.K H x (.list ds) ∧ SeqAt.shaped d = true ∧ SeqAt.shaped (.list ds) = true ∧ Q (.bl (if neg then !ds.any fun z => PyData.eqv z d else ds.any fun z => PyData.eqv z d)) H) → rd y x H Q)
    (hs : ∀ y x H Q, (∃ c z, y = .str ⟨#[c]⟩ ∧ x = .str z ∧ Q (.bl (if neg then !decide (c ∈ z.cps.toList) else decide (c ∈ z.cps.toList))) H) → rs y x H Q) :
    Sound2 X.K Γ (rInAll X.K neg rd rs) (inR neg) := by
  intro x y v u H G Q3 Q R hx hy h k
  rcases h with ⟨r, h, q⟩ | ⟨ds, rfl, g1, g2, q⟩ | ⟨c, z, rfl, rfl, q⟩ | ⟨ds, hy2, f1, f2, q⟩
  · obtain ⟨a, ro, rfl, g, _, e⟩ := h.at R hy hx
    refine .inl ⟨a, ro, rfl, g, ret k R q ?_⟩
    rcases e with ⟨d, w, rfl, rfl, _⟩ | ⟨rfl, rfl⟩ <;> rfl
  · refine .inr (.inl (hd _ _ _ _ ⟨py x, pyL ds, dat_dp 60 x v g1 hx, dat_dp 60 _ u g2 hy, gd_shaped g1, gd_shaped g2, ret k R q ?_⟩))
    show V.bl _ = V.bl _
    have e : ∀ ds : List D, (pyL ds).any (fun z => PyData.eqv z (py x)) = inB x ds := fun ds => by
      rw [pyL_map]
      unfold inB eq3
      rw [List.any_map] <;> rfl
    rw [e]
  · exact .inr (.inr (.inl (hs _ _ _ _ ⟨c, z, hx, hy, ret k R q rfl⟩)))
  · refine .inr (.inr (.inr ?_))
    have key : ∀ {a : Addr} {vs : List V}, DatL X.K Γ H G ds vs → flatV v = true ∧ vs.all flatV = true ∧ inV v vs = inB x ds := fun {a vs} l => by
      have fx : flatV v = true := (flat_eqV f1 f1 hx hx).1
      refine ⟨fx, ?_⟩
      clear hy2 q hy
      induction ds generalizing vs with
      | nil => cases (show _ = _ from l); exact ⟨rfl, rfl⟩
      | cons d ds ih =>
        obtain ⟨w, r, rfl, l1, l2⟩ := l
        rw [List.all_cons, Bool.and_eq_true] at f2
        obtain ⟨i1, i2⟩ := ih f2.2 l2
        obtain ⟨e1, e2⟩ := flat_eqV f1 f2.1 hx l1
        have e3 := (flat_eqV f2.1 f1 l1 hx).1
        refine ⟨by rw [List.all_cons, e3, i1] <;> rfl, ?_⟩
        unfold inV inB at i2 ⊢
        rw [List.any_cons, List.any_cons, i2, e2]
    rcases hy2 with rfl | rfl
    · obtain ⟨p, vs, rfl, h1, l⟩ := hy
      obtain ⟨k1, k2, k3⟩ := key (a := p) l
      refine ⟨p, vs, rfl, .inr (SqT.of h1), k1, k2, ret k R q ?_⟩
      rw [k3] <;> rfl
    · obtain ⟨p, vs, rfl, h1, l⟩ := hy
      obtain ⟨k1, k2, k3⟩ := key (a := p) l
      refine ⟨p, vs, rfl, .inr ?_, k1, k2, ret k R q ?_⟩
      · rcases h1 with (z | ⟨_, z⟩) | z
        · cases z
        · cases z
        · exact .inr z
      · rw [k3] <;> rfl
theorem op_in3 (hu : X.A.units + 65 < cLine) : OpR X (compareOp .In) (rInAll X.K false (rInD X.K) fun x y H Q => ∃ (c : Nat) (z : Str), x = .str ⟨#[c]⟩ ∧ y = .str z ∧ Q (.bl (decide (c ∈ z.cps.toList))) H) :=
  (op_dIn (by omega)).or ((op_inD hu).or (op_in_sign.or op_in_seq))
theorem op_notIn3 (hu : X.A.units + 65 < cLine) : OpR X (compareOp .NotIn) (rInAll X.K true (rNotInD X.K) fun x y H Q => ∃ (c : Nat) (z : Str), x = .str ⟨#[c]⟩ ∧ y = .str z ∧ Q (.bl (!decide (c ∈ z.cps.toList))) H) :=
  (op_dNotIn (by omega)).or ((op_notInD hu).or (op_notIn_sign.or op_notIn_seq))
theorem sound_in3 : Sound2 X.K Γ (rInAll X.K false (rInD X.K) fun x y H Q => ∃ (c : Nat) (z : Str), x = .str ⟨#[c]⟩ ∧ y = .str z ∧ Q (.bl (decide (c ∈ z.cps.toList))) H) (inR false) := sound_in false (fun _ _ _ _ h => h) fun _ _ _ _ h => h
theorem sound_notIn3 : Sound2 X.K Γ (rInAll X.K true (rNotInD X.K) fun x y H Q => ∃ (c : Nat) (z : Str), x = .str ⟨#[c]⟩ ∧ y = .str z ∧ Q (.bl (!decide (c ∈ z.cps.toList))) H) (inR true) := sound_in true (fun _ _ _ _ h => h) fun _ _ _ _ h => h

/-! d.get(k), d.get(k, x), d.pop(k, x) -/
def IsD3 (G : Gp) (x : D) : Prop := (∃ kvs, DKat G x kvs) ∨ ∃ kvs, DTat G x kvs
theorem IsD3.at {K : PySem.W.Frag} {H : Hp} {G : Gp} {x : D} {v : V} (R : HpR K Γ H G) (h : IsD3 (vis G) x) (dv : Dat K Γ H G x v) : ∃ a, v = .ref a ∧ IsD H a := by
  rcases h with ⟨kvs, h⟩ | ⟨kvs, h⟩
  · obtain ⟨a, vs, e, h1, _⟩ := h.at R dv
    exact ⟨a, e, .inl ⟨vs, h1⟩⟩
  · obtain ⟨a, vs, e, h1, _⟩ := h.at R dv
    exact ⟨a, e, .inr ⟨vs, h1⟩⟩
def TGet1 (td ty : TE3) : TE3 := fun δ G Q E => td δ G (fun x G1 => IsD3 G1 x ∧ ty δ G1 (fun y G2 => ∃ r, DG3 G2 x y r ∧ Q (r.getD .non) G2) E) E
def TGet2 (td ty tx : TE3) : TE3 := fun δ G Q E => td δ G (fun x G1 => IsD3 G1 x ∧ ty δ G1 (fun y G2 => tx δ G2 (fun z G3 => ∃ r, DG3 G3 x y r ∧ Q (r.getD z) G3) E) E) E
theorem pe3_get1 (hu : X.A.units + 1 < cLine) (ho : PE3 X Γ W o ta) (he : PE3 X Γ W e tb) (m : M1 X o "get" apos e cpos) : PE3 X Γ W (.Call (.Attribute o "get" apos) [e] [] cpos) (TGet1 ta tb) := by
  refine pe_imp (pe_dget1 hu ho he m) fun σ H Q hw => ?_
  obtain ⟨δ, G, Q3, E3, R, h1, k, ke⟩ := hw
  refine ⟨δ, G, _, E3, R, h1, fun x v G1 H1 s1 hp1 dx ⟨hd, q⟩ => ?_, ke⟩
  obtain ⟨a, rfl, hD⟩ := hd.at hp1 dx
  refine ⟨a, rfl, hD, δ, G1, _, E3, R.mono s1 hp1, q, fun y u G2 H2 s2 hp2 dy ⟨r, g, q⟩ => ?_, fun cls G' H' s' => ke cls G' H' (s1.trans s')⟩
  obtain ⟨a', ro, e, g, _, er⟩ := g.at hp2 (dx.mono s2) dy
  cases e
  refine ⟨ro, g, ?_⟩
  rcases er with ⟨d, w, rfl, rfl, dw⟩ | ⟨rfl, rfl⟩
  · exact k d w G2 H2 (s1.trans s2) hp2 dw q
  · exact k .non .non G2 H2 (s1.trans s2) hp2 rfl q
theorem pe3_get2 (hu : X.A.units + 1 < cLine) (ho : PE3 X Γ W o ta) (he : PE3 X Γ W e tb) (hf : PE3 X Γ W f tc) (m : M2 X o "get" apos e f cpos) : PE3 X Γ W (.Call (.Attribute o "get" apos) [e, f] [] cpos) (TGet2 ta tb tc) := by
  refine pe_imp (pe_dget2 hu ho he hf m) fun σ H Q hw => ?_
  obtain ⟨δ, G, Q3, E3, R, h1, k, ke⟩ := hw
  refine ⟨δ, G, _, E3, R, h1, fun x v G1 H1 s1 hp1 dx ⟨hd, q⟩ => ?_, ke⟩
  obtain ⟨a, rfl, hD⟩ := hd.at hp1 dx
  refine ⟨a, rfl, hD, δ, G1, _, E3, R.mono s1 hp1, q, fun y u G2 H2 s2 hp2 dy q => ?_, fun cls G' H' s' => ke cls G' H' (s1.trans s')⟩
  refine ⟨δ, G2, _, E3, R.mono (s1.trans s2) hp2, q, fun z w G3 H3 s3 hp3 dz ⟨r, g, q⟩ => ?_, fun cls G' H' s' => ke cls G' H' ((s1.trans s2).trans s')⟩
  obtain ⟨a', ro, e, g, _, er⟩ := g.at hp3 ((dx.mono s2).mono s3) (dy.mono s3)
  cases e
  refine ⟨ro, g, ?_⟩
  rcases er with ⟨d, w', rfl, rfl, dw⟩ | ⟨rfl, rfl⟩
  · exact k d w' G3 H3 ((s1.trans s2).trans s3) hp3 dw q
  · exact k z w G3 H3 ((s1.trans s2).trans s3) hp3 dz q
def TPop2 (td ty tx : TE3) : TE3 := fun δ G Q E => td δ G (fun x G1 => IsD3 G1 x ∧ ty δ G1 (fun y G2 => tx δ G2 (fun z G3 => ∃ a kvs k, x = .ref a ∧ G3 a = some (.dK kvs) ∧ y = keyD k ∧
  (∀ d, look kvs k = some d → Q d (gset G3 a (.dK (drop kvs k)))) ∧ (look kvs k = none → Q z G3)) E) E) E
theorem pe3_pop2 (ho : PE3 X Γ W o ta) (he : PE3 X Γ W e tb) (hf : PE3 X Γ W f tc) (m : M2 X o "pop" apos e f cpos) : PE3 X Γ W (.Call (.Attribute o "pop" apos) [e, f] [] cpos) (TPop2 ta tb tc) := by
  refine pe_imp (pe_dpop2 ho he hf m) fun σ H Q hw => ?_
  obtain ⟨δ, G, Q3, E3, R, h1, k, ke⟩ := hw
  refine ⟨δ, G, _, E3, R, h1, fun x v G1 H1 s1 hp1 dx ⟨hd, q⟩ => ?_, ke⟩
  obtain ⟨a, rfl, hD⟩ := hd.at hp1 dx
  refine ⟨a, rfl, hD, δ, G1, _, E3, R.mono s1 hp1, q, fun y u G2 H2 s2 hp2 dy q => ?_, fun cls G' H' s' => ke cls G' H' (s1.trans s')⟩
  refine ⟨δ, G2, _, E3, R.mono (s1.trans s2) hp2, q, fun z w G3 H3 s3 hp3 dz ⟨a', kvs, k', ea, hg, ey, q1, q2⟩ => ?_, fun cls G' H' s' => ke cls G' H' ((s1.trans s2).trans s')⟩
  subst ea ey
  cases (show _ = _ from dx)
  have hg' := vis_some hg
  obtain ⟨vs, h3, l⟩ := hp3.own _ _ hg'
  refine ⟨vs, k', h3, dat_key (dy.mono s3), fun w' hv => ?_, fun hv => ?_⟩
  · rcases datF_look l k' with ⟨d, w2, e1, e2, dw⟩ | ⟨_, e2⟩
    · rw [hv] at e2; cases e2
      obtain ⟨st, hp4⟩ := hp3.put (o' := .dK (dropK vs k')) (g' := .dK (drop kvs k')) hg' rfl fun st => ⟨_, upd_same, DatF.mono st (datF_drop l k')⟩
      refine k d w' _ _ (((s1.trans s2).trans s3).trans st) hp4 (dw.mono st) ?_
      rw [vis_gset (by intro z; cases z)]
      exact q1 d e1
    · rw [hv] at e2; cases e2
  · rcases datF_look l k' with ⟨d, w2, e1, e2, dw⟩ | ⟨e1, e2⟩
    · rw [hv] at e2; cases e2
    · exact k z w G3 H3 ((s1.trans s2).trans s3) hp3 dz (q2 e1)

/-! o[i] = v -/
def setR (o i v : D) (G : Gp) (Q : Gp → Prop) : Prop :=
  (∃ a xs k j, o = .ref a ∧ i = .int k ∧ G a = some (.lst xs) ∧ ixN xs.length k = some j ∧ Q (gset G a (.lst (xs.set j v)))) ∨
  (∃ a kvs k, o = .ref a ∧ i = keyD k ∧ G a = some (.dK kvs) ∧ kvs.length < sizeLine ∧ Q (gset G a (.dK (put kvs k v)))) ∨
  ∃ a kvs k, o = .ref a ∧ i = keysD k ∧ G a = some (.dT kvs) ∧ kvs.length < sizeLine ∧ Q (gset G a (.dT (put kvs k v)))
def GSub (to ti : TE3) : TG3 := fun d δ G Q E => to δ G (fun o G1 => ti δ G1 (fun i G2 => setR o i d G2 fun G3 => Q δ G3) E) E
theorem pset_or {t t' : L2.TSet} (h : PSet X t) (h' : PSet X t') : PSet X (fun o i v H Q => t o i v H Q ∨ t' o i v H Q) := fun pins s σ H o i v ov iv u Q I ro ri rv q =>
  q.elim (h pins s σ H o i v ov iv u Q I ro ri rv) (h' pins s σ H o i v ov iv u Q I ro ri rv)
theorem pg3_sub (hu : X.A.units + 1 < cLine) (ho : PE3 X Γ W o ta) (hi : PE3 X Γ W i tb)
    (ha : ∀ v, assign (.Subscript o i pos) X.env v = (do
      let ov ← holding [v] (eval o X.env)
      let iv ← holding [v, ov] (eval i X.env)
      standAt pos
      holding [v, ov, iv] (setItem ov iv v)
      release [v, ov, iv] []) := by intro _; rfl) : PG3 X Γ W (.Subscript o i pos) (GSub ta tb) := by
  refine pg_imp (pg_sub ho hi (pset_or set_list (set_dict hu)) ha) fun v σ H Q hw => ?_
  obtain ⟨d, δ, G, Q3, E3, R, dv, h, k, ke⟩ := hw
  refine ⟨δ, G, _, E3, R, h, fun x w G1 H1 s1 hp1 dx q => ?_, ke⟩
  refine ⟨δ, G1, _, E3, R.mono s1 hp1, q, fun y u G2 H2 s2 hp2 dy q => ?_, fun cls G' H' s' => ke cls G' H' (s1.trans s')⟩
  have R2 := R.mono (s1.trans s2) hp2
  have dv2 := (dv.mono s1).mono s2
  rcases q with ⟨a, xs, n, j, rfl, rfl, hg, hj, q⟩ | ⟨a, kvs, n, rfl, rfl, hg, hz, q⟩ | ⟨a, kvs, n, rfl, rfl, hg, hz, q⟩
  · cases (show _ = _ from dx); cases (show _ = _ from dy)
    have hg' := vis_some hg
    obtain ⟨vs, h3, l⟩ := hp2.own _ _ hg'
    obtain ⟨st, hp4⟩ := hp2.put (o' := .lst (vs.set j v)) (g' := .lst (xs.set j d)) hg' rfl fun st => ⟨_, upd_same, (l.set dv2 j).mono st⟩
    refine .inl ⟨a, vs, n, j, rfl, rfl, h3, by rw [← l.length]; exact hj, k δ _ σ _ ((s1.trans s2).trans st) (R2.mono st hp4) ?_⟩
    rw [vis_gset (by intro z; cases z)]
    exact q
  · cases (show _ = _ from dx)
    have hg' := vis_some hg
    obtain ⟨vs, h3, l⟩ := hp2.own _ _ hg'
    obtain ⟨st, hp4⟩ := hp2.put (o' := .dK (putK vs n v)) (g' := .dK (put kvs n d)) hg' rfl fun st => ⟨_, upd_same, DatF.mono st (datF_put l n dv2)⟩
    refine .inr ⟨a, _, rfl, .inl ⟨vs, n, h3, dat_key dy, by rw [← DatF.length l]; exact hz, rfl⟩, k δ _ σ _ ((s1.trans s2).trans st) (R2.mono st hp4) ?_⟩
    rw [vis_gset (by intro z; cases z)]
    exact q
  · cases (show _ = _ from dx)
    have hg' := vis_some hg
    obtain ⟨vs, h3, l⟩ := hp2.own _ _ hg'
    obtain ⟨b, rfl, hb⟩ := dat_keys dy
    obtain ⟨st, hp4⟩ := hp2.put (o' := .dT (putK vs n v)) (g' := .dT (put kvs n d)) hg' rfl fun st => ⟨_, upd_same, DatF.mono st (datF_put l n dv2)⟩
    refine .inr ⟨a, _, rfl, .inr ⟨vs, n, b, h3, rfl, hb, by rw [← DatF.length l]; exact hz, rfl⟩, k δ _ σ _ ((s1.trans s2).trans st) (R2.mono st hp4) ?_⟩
    rw [vis_gset (by intro z; cases z)]
    exact q

/-! {} -/
def TDNewK : TE3 := fun _ G Q _ => ∀ p, G p = none → Q (.ref p) (gset G p (.dK []))
def TDNewT : TE3 := fun _ G Q _ => ∀ p, G p = none → Q (.ref p) (gset G p (.dT []))
theorem pe3_dnewK : PE3 X Γ W (.Dict [] [] pos) TDNewK := pe_imp pe_dnewK fun σ H Q ⟨δ, G, Q3, E3, R, h, k, ke⟩ p hp => by
  have st : Step X.K H G (upd H p (.dK [])) (gset G p (.dK [])) := Step.newG hp (own_none R.hp hp)
  refine k (.ref p) _ (gset G p (.dK [])) _ st (R.hp.newG (g := .dK []) hp ⟨[], upd_same, .nil⟩) rfl ?_
  rw [vis_gset (by intro z; cases z)]
  exact h p (vis_none (own_none R.hp hp))
theorem pe3_dnewT : PE3 X Γ W (.Dict [] [] pos) TDNewT := pe_imp pe_dnewT fun σ H Q ⟨δ, G, Q3, E3, R, h, k, ke⟩ p hp => by
  have st : Step X.K H G (upd H p (.dT [])) (gset G p (.dT [])) := Step.newG hp (own_none R.hp hp)
  refine k (.ref p) _ (gset G p (.dT [])) _ st (R.hp.newG (g := .dT []) hp ⟨[], upd_same, .nil⟩) rfl ?_
  rw [vis_gset (by intro z; cases z)]
  exact h p (vis_none (own_none R.hp hp))
/-- .. by value -/
theorem pe3_dnilK : PE3 X Γ W (.Dict [] [] pos) (TC (.dK [])) := pe_imp pe_dnewK fun σ H Q ⟨δ, G, Q3, E3, R, h, k, ke⟩ p hp =>
  k (.dK []) _ G _ (Step.new hp) (R.hp.new hp) ⟨p, [], rfl, ⟨own_none R.hp hp, rfl, .inl upd_same⟩, rfl⟩ h
theorem pe3_dnilT : PE3 X Γ W (.Dict [] [] pos) (TC (.dT [])) := pe_imp pe_dnewT fun σ H Q ⟨δ, G, Q3, E3, R, h, k, ke⟩ p hp =>
  k (.dT []) _ G _ (Step.new hp) (R.hp.new hp) ⟨p, [], rfl, ⟨own_none R.hp hp, rfl, .inl upd_same⟩, rfl⟩ h
end
end L3
/-! L3, part i: walks over dicts, dict comprehensions. -/
namespace L3
open PySem PySem.Spec PyProof.Rows L2

/-! ### a dict is locked while it is walked -/
inductive LkOf : GO → GO → Prop
  | dK (kvs : List (Key × D)) : LkOf (.dK kvs) (.lkK kvs)
  | dT (kvs : List (List Key × D)) : LkOf (.dT kvs) (.lkT kvs)
section
variable {K : PySem.W.Frag} {Γ : Gm} {H : Hp} {G : Gp} {a : Addr} {g l : GO}
theorem LkOf.wr (h : LkOf g l) : g.wr = true := by cases h <;> rfl
theorem LkOf.lk (h : LkOf g l) : l.lk = true := by cases h <;> rfl
theorem LkOf.nh (h : LkOf g l) : g ≠ .hid ∧ l ≠ .hid := by cases h <;> exact ⟨nofun, nofun⟩
theorem LkOf.ok (h : LkOf g l) (q : GOk K Γ H G a g) : ∃ u, H a = some u ∧ Mut (some u) ∧ NoTbl u ∧ (∀ φ, u ≠ .ext φ) ∧ (∀ xs, u ≠ .tup xs) ∧ ∀ (od : Obj) (H' : Hp) (G' : Gp), StepD K H G H' G' → H' a = some (.frz od u) → GOk K Γ H' G' a l := by
  cases h with
  | dK kvs =>
    obtain ⟨vs, e, r⟩ := q
    exact ⟨_, e, trivial, noTbl_dK, nofun, nofun, fun od H' G' s e' => ⟨od, vs, e', r.monoD s⟩⟩
  | dT kvs =>
    obtain ⟨vs, e, r⟩ := q
    exact ⟨_, e, trivial, noTbl_dT, nofun, nofun, fun od H' G' s e' => ⟨od, vs, e', r.monoD s⟩⟩
theorem LkOf.back (h : LkOf g l) {u : HO} {od : Obj} (q : GOk K Γ H G a l) (e : H a = some (.frz od u)) : ∀ {H' : Hp} {G' : Gp}, StepD K H G H' G' → H' a = some u → GOk K Γ H' G' a g := by
  intro H' G' s e'
  cases h with
  | dK kvs =>
    obtain ⟨o, vs, e2, r⟩ := q
    rw [e] at e2; cases e2
    exact ⟨vs, e', r.monoD s⟩
  | dT kvs =>
    obtain ⟨o, vs, e2, r⟩ := q
    rw [e] at e2; cases e2
    exact ⟨vs, e', r.monoD s⟩
theorem lock3 (R : HpR K Γ H G) (hg : G a = some g) (hl : LkOf g l) : ∃ u, H a = some u ∧ Mut (some u) ∧ ∀ od : Obj, (Step K H G (upd H a (.frz od u)) (gset G a l) ∧ HpR K Γ (upd H a (.frz od u)) (gset G a l)) ∧
    ∀ (H' : Hp) (G' : Gp), Step K (upd H a (.frz od u)) (gset G a l) H' G' → HpR K Γ H' G' → H' a = some (.frz od u) ∧ Step K H G (upd H' a u) (gset G' a g) ∧ HpR K Γ (upd H' a u) (gset G' a g) ∧ StepD K H' G' (upd H' a u) (gset G' a g) := by
  obtain ⟨u, hu, mu, nt, ne, ntup, ok⟩ := hl.ok (R.own a g hg)
  refine ⟨u, hu, mu, fun od => ?_⟩
  obtain ⟨st, hp⟩ := R.put (o' := .frz od u) (g' := l) hg hl.wr fun st => ok od _ _ st.toStep0.d upd_same
  refine ⟨⟨st, hp⟩, fun H' G' s hp' => ?_⟩
  obtain ⟨hG, hH⟩ := s.lck a l gset_same hl.lk
  have hH := hH _ upd_same
  have sd : StepD K H' G' (upd H' a u) (gset G' a g) := by
    refine ⟨fun b xs h => ?_, fun b o h n _ => ?_, fun b o h n _ => ?_⟩
    · rw [upd_ne (fun z => by subst z; rw [hH] at h; cases h)]; exact h
    · rw [upd_ne (fun z => by subst z; rw [hG] at n; cases n)]; exact h
    · have hb : b ≠ a := fun z => by subst z; rw [hG] at n; cases n
      exact ⟨by rw [gset_ne hb]; exact n, o, by rw [upd_ne hb]; exact h⟩
  have s2 := st.trans s
  refine ⟨hH, ⟨⟨fun b xs h => ?_, fun b o h n nt => ?_, fun b h => ?_, fun b o h n nt => ?_, fun b g' h hlk => ?_⟩, fun b o h n nt => ?_⟩, ⟨fun b g' e => ?_, ?_⟩, sd⟩
  · rw [upd_ne (fun z => by subst z; rw [hu] at h; cases h; exact ntup _ rfl)]; exact s2.tup b xs h
  · rw [upd_ne (fun z => by subst z; rw [hg] at n; cases n)]; exact s2.frm b o h n nt
  · rw [gset_ne (fun z => by subst z; rw [hg] at h; cases h; exact hl.nh.1 rfl)]; exact s2.hid b h
  · have hb : b ≠ a := fun z => by subst z; rw [hg] at n; cases n
    rw [gset_ne hb, upd_ne hb]
    exact s2.own b o h n nt
  · have hb : b ≠ a := fun z => by subst z; rw [hg] at h; cases h; exact GO.wr_lk hl.wr hlk
    rw [gset_ne hb, upd_ne hb]
    exact s2.lck b g' h hlk
  · have hb : b ≠ a := fun z => by subst z; rw [hg] at n; cases n; exact hl.nh.1 rfl
    rw [upd_ne hb]
    exact s2.frh b o h n nt
  · by_cases hb : b = a
    · subst hb
      rw [gset_same] at e; cases e
      exact hl.back (hp'.own b l hG) hH sd upd_same
    · rw [gset_ne hb] at e
      exact (hp'.own b g' e).monoD sd fun o h => by rw [upd_ne hb]; exact h
  · exact tabs_upd hp'.tab (.inr ⟨_, hH, noTbl_frz, fun c q z => nomatch z⟩)
end
/-- where the dict stands that is walked -/
abbrev Pth := St3 → Gp → Option Addr
def pthV (i : Nat) : Pth := fun δ _ => match slot δ i with | some (.ref a) => some a | _ => none
def pthF (i : Nat) (f : Str) : Pth := fun δ G => match slot δ i with
  | some (.ref s) => match G s with
    | some (.ins _ fs) => match fs.lookup f with
      | some (.ref a) => some a
      | _ => none
    | _ => none
  | _ => none
def TLkE (p : Pth) (t : TE3) : TE3 := fun δ G Q E => match p δ G with
  | some a => match G a with
    | some (.dK kvs) => t δ (gset G a (.lkK kvs)) (fun d G' => Q d (gset G' a (.dK kvs))) (fun _ _ => False)
    | some (.dT kvs) => t δ (gset G a (.lkT kvs)) (fun d G' => Q d (gset G' a (.dT kvs))) (fun _ _ => False)
    | _ => t δ G Q E
  | none => t δ G Q E
def backTo3 (a : Addr) (g : GO) (D3 : Ends3) : Ends3 where
  nx := fun δ G => D3.nx δ (gset G a g)
  rt := fun d G => D3.rt d (gset G a g)
  bk := fun δ G => D3.bk δ (gset G a g)
  ct := fun δ G => D3.ct δ (gset G a g)
def TLkS (p : Pth) (T : TS3) : TS3 := fun D3 δ G => match p δ G with
  | some a => match G a with
    | some (.dK kvs) => T (backTo3 a (.dK kvs) D3) δ (gset G a (.lkK kvs))
    | some (.dT kvs) => T (backTo3 a (.dT kvs) D3) δ (gset G a (.lkT kvs))
    | _ => T D3 δ G
  | none => T D3 δ G
section
variable {X : Cx} {Γ : Gm} {W : WX} {e : Expr} {st : Stmt} {t : TE3} {T : TS3} {p : Pth}
theorem pe3_lock (h : PE3 X Γ W e t) : PE3 X Γ W e (TLkE p t) := by
  have h2 : PE X e (fun σ H Q => lift X.K Γ W t σ H Q ∨ tLockE (lift X.K Γ W t) σ H Q) := ⟨fun pins s σ H Q I hw => hw.elim (h.run pins s σ H Q I) ((pe_lock h).run pins s σ H Q I)⟩
  refine pe_imp h2 fun σ H Q hw => ?_
  obtain ⟨δ, G, Q3, E3, R, h1, k, ke⟩ := hw
  have plain : t δ (vis G) Q3 E3 → lift X.K Γ W t σ H Q := fun q => ⟨δ, G, Q3, E3, R, q, k, ke⟩
  have main : ∀ a g l, vis G a = some g → LkOf g l → t δ (gset (vis G) a l) (fun d G' => Q3 d (gset G' a g)) (fun _ _ => False) → tLockE (lift X.K Γ W t) σ H Q := fun a g l hg hl q => by
    obtain ⟨u, hu, mu, lk⟩ := lock3 R.hp (vis_some hg) hl
    refine ⟨a, u, hu, mu, fun od => ?_⟩
    obtain ⟨⟨s1, hp1⟩, bk⟩ := lk od
    refine ⟨δ, gset G a l, _, fun _ _ => False, R.mono s1 hp1, by rw [vis_gset hl.nh.2]; exact q, fun d v G' H' s' hp' dv q => ?_, fun _ _ _ _ _ z => z.elim⟩
    obtain ⟨e1, s2, hp2, sd⟩ := bk H' G' s' hp'
    refine ⟨e1, k d v _ _ s2 hp2 (dv.monoD sd) ?_⟩
    rw [vis_gset hl.nh.1]
    exact q
  unfold TLkE at h1
  split at h1
  · split at h1
    · rename_i a _ kvs hg; exact .inr (main _ _ _ hg (.dK kvs) h1)
    · rename_i a _ kvs hg; exact .inr (main _ _ _ hg (.dT kvs) h1)
    · exact .inl (plain h1)
  · exact .inl (plain h1)
theorem ps3_lock (h : PS3 X Γ W st T) : PS3 X Γ W st (TLkS p T) := by
  have h2 : PS X st (fun D' σ H => liftS X.K Γ W T D' σ H ∨ tLock (liftS X.K Γ W T) D' σ H) := ⟨fun pins s σ H Q I hw => hw.elim (h.run pins s σ H Q I) ((ps_lock h).run pins s σ H Q I)⟩
  refine ps_imp h2 fun D' σ H hw => ?_
  obtain ⟨δ, G, D3, R, h1, k⟩ := hw
  have plain : T D3 δ (vis G) → liftS X.K Γ W T D' σ H := fun q => ⟨δ, G, D3, R, q, k⟩
  have main : ∀ a g l, vis G a = some g → LkOf g l → T (backTo3 a g D3) δ (gset (vis G) a l) → tLock (liftS X.K Γ W T) D' σ H := fun a g l hg hl q => by
    obtain ⟨u, hu, mu, lk⟩ := lock3 R.hp (vis_some hg) hl
    refine ⟨a, u, hu, mu, fun od => ?_⟩
    obtain ⟨⟨s1, hp1⟩, bk⟩ := lk od
    have rel : ∀ {δ' σ' H' G'}, Rel X.K Γ δ' G' σ' H' → HpR X.K Γ (upd H' a u) (gset G' a g) → StepD X.K H' G' (upd H' a u) (gset G' a g) → Rel X.K Γ δ' (gset G' a g) σ' (upd H' a u) := fun R' hp sd =>
      ⟨R'.len, fun i d e => let ⟨v, h1, h2⟩ := R'.get i d e; ⟨v, h1, h2.monoD sd⟩, hp⟩
    refine ⟨δ, gset G a l, backTo3 a g D3, R.mono s1 hp1, by rw [vis_gset hl.nh.2]; exact q, ⟨fun δ' G' σ' H' s' R' q => ?_, fun d v G' H' s' hp' dv q => ?_, fun δ' G' σ' H' s' R' q => ?_, fun δ' G' σ' H' s' R' q => ?_, fun _ _ _ _ _ _ _ z => (show False from z).elim⟩⟩
    · obtain ⟨e1, s2, hp2, sd⟩ := bk H' G' s' R'.hp
      exact ⟨e1, k.nx δ' _ σ' _ s2 (rel R' hp2 sd) (by rw [vis_gset hl.nh.1]; exact q)⟩
    · obtain ⟨e1, s2, hp2, sd⟩ := bk H' G' s' hp'
      exact ⟨e1, k.rt d v _ _ s2 hp2 (dv.monoD sd) (by rw [vis_gset hl.nh.1]; exact q)⟩
    · obtain ⟨e1, s2, hp2, sd⟩ := bk H' G' s' R'.hp
      exact ⟨e1, k.bk δ' _ σ' _ s2 (rel R' hp2 sd) (by rw [vis_gset hl.nh.1]; exact q)⟩
    · obtain ⟨e1, s2, hp2, sd⟩ := bk H' G' s' R'.hp
      exact ⟨e1, k.ct δ' _ σ' _ s2 (rel R' hp2 sd) (by rw [vis_gset hl.nh.1]; exact q)⟩
  unfold TLkS at h1
  split at h1
  · split at h1
    · rename_i a _ kvs hg; exact .inr (main _ _ _ hg (.dK kvs) h1)
    · rename_i a _ kvs hg; exact .inr (main _ _ _ hg (.dT kvs) h1)
    · exact .inl (plain h1)
  · exact .inl (plain h1)
end

/-! ### what walks over dicts give -/
section
variable {K : PySem.W.Frag} {Γ : Gm} {a : Addr} {o : Obj} {κ : Type}
theorem fst_get {kvs : List (κ × D)} {vs : List (κ × V)} (h : vs.map (·.1) = kvs.map (·.1)) {i : Nat} {k : κ} {v : V} (e : vs[i]? = some (k, v)) : ∃ d, kvs[i]? = some (k, d) := by
  have e2 : (vs.map (·.1))[i]? = some k := by rw [List.getElem?_map, e] <;> rfl
  rw [h, List.getElem?_map] at e2
  obtain ⟨⟨k', d⟩, h1, h2⟩ := Option.map_eq_some_iff.mp e2
  cases h2
  exact ⟨d, h1⟩
theorem lkK_len {H : Hp} {G : Gp} {kvs : List (Key × D)} {vs : List (Key × V)} (R : HpR K Γ H G) (hg : G a = some (.lkK kvs)) (hh : H a = some (.frz o (.dK vs))) : DatF K Γ H G kvs vs := by
  obtain ⟨o', vs', e, r⟩ := R.own a _ hg
  rw [hh] at e; cases e
  exact r
theorem lkT_len {H : Hp} {G : Gp} {kvs : List (List Key × D)} {vs : List (List Key × V)} (R : HpR K Γ H G) (hg : G a = some (.lkT kvs)) (hh : H a = some (.frz o (.dT vs))) : DatF K Γ H G kvs vs := by
  obtain ⟨o', vs', e, r⟩ := R.own a _ hg
  rw [hh] at e; cases e
  exact r
def PLkK (a : Addr) (o : Obj) (kvs : List (Key × D)) (vs : List (Key × V)) : Hp → Gp → Prop := fun H G => G a = some (.lkK kvs) ∧ H a = some (.frz o (.dK vs))
def PLkT (a : Addr) (o : Obj) (kvs : List (List Key × D)) (vs : List (List Key × V)) : Hp → Gp → Prop := fun H G => G a = some (.lkT kvs) ∧ H a = some (.frz o (.dT vs))
theorem PLkK.keep {kvs : List (Key × D)} {vs : List (Key × V)} {H H' : Hp} {G G' : Gp} (s : Step0 K H G H' G') (h : PLkK a o kvs vs H G) : PLkK a o kvs vs H' G' :=
  let ⟨q, r⟩ := s.lck a _ h.1 rfl
  ⟨q, r _ h.2⟩
theorem PLkT.keep {kvs : List (List Key × D)} {vs : List (List Key × V)} {H H' : Hp} {G G' : Gp} (s : Step0 K H G H' G') (h : PLkT a o kvs vs H G) : PLkT a o kvs vs H' G' :=
  let ⟨q, r⟩ := s.lck a _ h.1 rfl
  ⟨q, r _ h.2⟩
theorem walk_keys {kvs : List (Key × D)} {vs : List (Key × V)} (hl : kvs.length = vs.length) : Walk3 K Γ (Itk a o vs) (PLkK a o kvs vs) (kvs.map fun kv => keyD kv.1) where
  keep := fun H G H' G' s h => h.keep s
  go := fun i H G hi h R => ⟨h.2, by rw [← hl]; simpa using hi⟩
  yld := fun i H G x H' hi h R y => by
    obtain ⟨rfl, k, v, hkv, rfl⟩ := y
    obtain ⟨d, hd, _⟩ := datF_get (lkK_len R h.1 h.2) hkv
    exact ⟨Step.refl, R, keyD k, by rw [List.getElem?_map, hd] <;> rfl, dat_key'⟩
  stop := fun H G h R => ⟨h.2, by rw [List.length_map, hl]; exact Nat.le_refl _⟩
theorem walk_keysT {kvs : List (List Key × D)} {vs : List (List Key × V)} (hl : kvs.length = vs.length) : Walk3 K Γ (Itkt a o vs) (PLkT a o kvs vs) (kvs.map fun kv => keysD kv.1) where
  keep := fun H G H' G' s h => h.keep s
  go := fun i H G hi h R => ⟨h.2, by rw [← hl]; simpa using hi⟩
  yld := fun i H G x H' hi h R y => by
    obtain ⟨rfl, k, v, q, hkv, rfl, hq⟩ := y
    obtain ⟨d, hd, _⟩ := datF_get (lkT_len R h.1 h.2) hkv
    exact ⟨Step.refl, R, keysD k, by rw [List.getElem?_map, hd] <;> rfl, dat_keys' hq⟩
  stop := fun H G h R => ⟨h.2, by rw [List.length_map, hl]; exact Nat.le_refl _⟩
theorem walk_vals {kvs : List (Key × D)} {vs : List (Key × V)} (hl : kvs.length = vs.length) : Walk3 K Γ (Itd a o vs) (PLkK a o kvs vs) (kvs.map fun kv => kv.2) where
  keep := fun H G H' G' s h => h.keep s
  go := fun i H G hi h R => ⟨h.2, by rw [← hl]; simpa using hi⟩
  yld := fun i H G x H' hi h R y => by
    obtain ⟨rfl, k, hkv⟩ := y
    obtain ⟨d, hd, dd⟩ := datF_get (lkK_len R h.1 h.2) hkv
    exact ⟨Step.refl, R, d, by rw [List.getElem?_map, hd] <;> rfl, dd⟩
  stop := fun H G h R => ⟨h.2, by rw [List.length_map, hl]; exact Nat.le_refl _⟩
theorem walk_items {kvs : List (Key × D)} {vs : List (Key × V)} (hl : kvs.length = vs.length) : Walk3 K Γ (Iti a o vs) (PLkK a o kvs vs) (kvs.map fun kv => .tup [keyD kv.1, kv.2]) where
  keep := fun H G H' G' s h => h.keep s
  go := fun i H G hi h R => ⟨h.2, by rw [← hl]; simpa using hi⟩
  yld := fun i H G x H' hi h R y => by
    obtain ⟨T, k, v, hkv, rfl, hT, rfl⟩ := y
    obtain ⟨d, hd, dd⟩ := datF_get (lkK_len R h.1 h.2) hkv
    have st : Step K H G (upd H T (.tup [kV k, v])) G := Step.new hT
    exact ⟨st, R.new hT, .tup [keyD k, d], by rw [List.getElem?_map, hd] <;> rfl, T, _, rfl, upd_same, .cons dat_key' (.cons (dd.mono st) .nil)⟩
  stop := fun H G h R => ⟨h.2, by rw [List.length_map, hl]; exact Nat.le_refl _⟩
end
def IKeys (t : TE3) : TI3 := fun δ G Q E => t δ G (fun d G1 => match d with
  | .ref a => (match G1 a with
    | some (.lkK kvs) => Q (kvs.map fun kv => keyD kv.1) G1
    | some (.lkT kvs) => Q (kvs.map fun kv => keysD kv.1) G1
    | _ => False)
  | _ => False) E
def IVals (t : TE3) : TI3 := fun δ G Q E => t δ G (fun d G1 => match d with
  | .ref a => (match G1 a with | some (.lkK kvs) => Q (kvs.map fun kv => kv.2) G1 | _ => False)
  | _ => False) E
def IItems (t : TE3) : TI3 := fun δ G Q E => t δ G (fun d G1 => match d with
  | .ref a => (match G1 a with | some (.lkK kvs) => Q (kvs.map fun kv => .tup [keyD kv.1, kv.2]) G1 | _ => False)
  | _ => False) E
section
variable {X : Cx} {Γ : Gm} {W : WX} {e tg : Expr} {apos cpos : Pos} {t : TE3}
theorem pi3_keys (h : PE3 X Γ W e t) : PI3 X Γ W tg e (IKeys t) := pi_imp (pi_keys h) fun σ H R' hw => by
  obtain ⟨δ, G, Q3, E3, R, h1, k, ke⟩ := hw
  refine ⟨δ, G, _, E3, R, h1, fun d v G1 H1 s1 hp1 dv q => ?_, ke⟩
  split at q
  · obtain rfl : v = _ := dv
    split at q
    · rename_i kvs hg
      obtain ⟨o, vs, e, r⟩ := hp1.own _ _ (vis_some hg)
      exact ⟨_, o, rfl, .inl ⟨vs, e, k _ _ _ G1 H1 s1 hp1 (walk_keys (DatF.length r)) ⟨vis_some hg, e⟩ q⟩⟩
    · rename_i kvs hg
      obtain ⟨o, vs, e, r⟩ := hp1.own _ _ (vis_some hg)
      exact ⟨_, o, rfl, .inr ⟨vs, e, k _ _ _ G1 H1 s1 hp1 (walk_keysT (DatF.length r)) ⟨vis_some hg, e⟩ q⟩⟩
    · exact q.elim
  · exact q.elim
theorem pi3_vals (h : PE3 X Γ W e t) (hbase : attributeBase e "values" X.env (eval e X.env) = eval e X.env := by rfl) (hline : (apos.endLine == cpos.line) = true := by rfl) : PI3 X Γ W tg (.Call (.Attribute e "values" apos) [] [] cpos) (IVals t) := pi_imp (pi_values h hbase hline) fun σ H R' hw => by
  obtain ⟨δ, G, Q3, E3, R, h1, k, ke⟩ := hw
  refine ⟨δ, G, _, E3, R, h1, fun d v G1 H1 s1 hp1 dv q => ?_, ke⟩
  split at q
  · obtain rfl : v = _ := dv
    split at q
    · rename_i kvs hg
      obtain ⟨o, vs, e, r⟩ := hp1.own _ _ (vis_some hg)
      exact ⟨_, o, vs, rfl, e, k _ _ _ G1 H1 s1 hp1 (walk_vals (DatF.length r)) ⟨vis_some hg, e⟩ q⟩
    · exact q.elim
  · exact q.elim
theorem pi3_items {elts : List Expr} {kk : Nat} {tpos : Pos} (h : PE3 X Γ W e t) (hbase : attributeBase e "items" X.env (eval e X.env) = eval e X.env := by rfl) (hline : (apos.endLine == cpos.line) = true := by rfl) : PI3 X Γ W (.Tuple elts kk tpos) (.Call (.Attribute e "items" apos) [] [] cpos) (IItems t) := pi_imp (pi_items h hbase hline) fun σ H R' hw => by
  obtain ⟨δ, G, Q3, E3, R, h1, k, ke⟩ := hw
  refine ⟨δ, G, _, E3, R, h1, fun d v G1 H1 s1 hp1 dv q => ?_, ke⟩
  split at q
  · obtain rfl : v = _ := dv
    split at q
    · rename_i kvs hg
      obtain ⟨o, vs, e, r⟩ := hp1.own _ _ (vis_some hg)
      exact ⟨_, o, vs, rfl, e, k _ _ _ G1 H1 s1 hp1 (walk_items (DatF.length r)) ⟨vis_some hg, e⟩ q⟩
    · exact q.elim
  · exact q.elim
end

/-! ### dict comprehensions: an owned dict -/
def DcRun (δ0 : St3) (g : TG3) (tt : TT3) (tk te : TE3) : List D → List (Key × D) → Gp → (List (Key × D) → Gp → Prop) → Prop
  | [], acc, G, k => k acc G
  | x :: xs, acc, G, k => g x δ0 G (fun δ2 G2 => tt δ2 G2 (fun b G3 => if b = true then tk δ2 G3 (fun y G4 => ∃ ky, y = keyD ky ∧ te δ2 G4 (fun z G5 => acc.length < sizeLine ∧ DcRun δ0 g tt tk te xs (put acc ky z) G5 k) X0) X0 else DcRun δ0 g tt tk te xs acc G3 k) X0) X0
@[simp] def TDc (ti : TI3) (g : TG3) (tt : TT3) (tk te : TE3) (vs : List Nat) : TE3 := fun δ G Q E => ti δ G (fun ds G1 => DcRun (wipe3 δ vs) g tt tk te ds [] G1 (fun kvs G2 => ∀ p, G2 p = none → Q (.ref p) (gset G2 p (.dK kvs)))) E
section
variable {X : Cx} {Γ : Gm} {W : WX} {e a b c tg iter kx vx : Expr} {pos : Pos} {vs : List Nat}
theorem Step.showG {K : PySem.W.Frag} {H1 H : Hp} {G1 G : Gp} {A : Addr} {g : GO} (s : Step K H1 G1 H G) (n : H1 A = none) (n2 : G1 A = none) : Step K H1 G1 H (gset G A g) where
  tup := s.tup
  frm := s.frm
  frh := s.frh
  hid := fun a e => by rw [gset_ne (fun z => by subst z; rw [n2] at e; cases e)]; exact s.hid a e
  own := fun a o e g nt => by
    have ha : a ≠ A := fun z => by subst z; rw [n] at e; cases e
    rw [gset_ne ha]
    exact s.own a o e g nt
  lck := fun a g e l => ⟨by rw [gset_ne (fun z => by subst z; rw [n2] at e; cases e)]; exact (s.lck a g e l).1, (s.lck a g e l).2⟩
theorem vis_showG {G : Gp} {A : Addr} {g : GO} (h : g ≠ .hid) : vis (gset G A g) = gset (vis G) A g := vis_gset h
theorem Dat.step_show {K : PySem.W.Frag} {H : Hp} {G : Gp} {A : Addr} {g : GO} (hg : G A = some .hid) : StepD K H G H (gset G A g) :=
  ⟨fun _ _ h => h, fun _ _ h _ _ => h, fun b o h n _ => ⟨by rw [gset_ne (fun z => by subst z; rw [hg] at n; cases n)]; exact n, o, h⟩⟩
theorem run_dc {g : TG3} {tt : TT3} {tk te : TE3} {σ : L2.St} {Q : VK} {δ : St3} {ds : List D} {J : It} {P : Hp → Gp → Prop} {G1 : Gp} {H1 : Hp} {Q3 : K3} (R : Rel X.K Γ δ G1 σ H1) (wk : Walk3 X.K Γ J P ds) (p1 : P H1 G1)
    (k : ∀ d v G' H', Step X.K H1 G1 H' G' → HpR X.K Γ H' G' → Dat X.K Γ H' G' d v → Q3 d (vis G') → Q v H') (q1 : DcRun (wipe3 δ vs) g tt tk te ds [] (vis G1) (fun kvs G2 => ∀ p, G2 p = none → Q3 (.ref p) (gset G2 p (.dK kvs)))) :
    ∀ D, H1 D = none → ∃ W : Nat → Nat → Hp → Prop, (∃ m, W 0 m (upd H1 D (.dK []))) ∧ ∀ i m H, W i m H →
      (J.stop i H ∧ Q (.ref D) H) ∨ (J.go i H ∧ ∃ Nx : Hp → Prop, (∀ H', Nx H' → ∃ m', m' < m ∧ W (i + 1) m' H') ∧ ∀ x H', J.yld i H x H' → liftW X.K Γ vs g x (L2.wipe σ vs) H' fun σ2 H2 => L2.wipe σ2 vs = L2.wipe σ vs ∧ liftT X.K Γ W0 tt σ2 H2 fun b H3 =>
        if b = true then lift X.K Γ W0 tk σ2 H3 fun y H4 => lift X.K Γ W0 te σ2 H4 fun z H5 => ∃ kvs k, y = kV k ∧ H5 D = some (.dK kvs) ∧ kvs.length < sizeLine ∧ Nx (upd H5 D (.dK (putK kvs k z))) else Nx H3) := by
  intro A hA
  have hp1 := R.hp
  have hgA : G1 A = none := own_none hp1 hA
  have sA : Step X.K H1 G1 (upd H1 A (.dK [])) (gset G1 A .hid) := Step.newG hA hgA
  have hpA : HpR X.K Γ (upd H1 A (.dK [])) (gset G1 A .hid) := hp1.newG (g := .hid) hA ⟨_, upd_same, noTbl_dK, fun φ z => nomatch z⟩
  refine ⟨fun i m H' => m = ds.length - i ∧ i ≤ ds.length ∧ ∃ G' acc vacc, Step X.K H1 G1 H' G' ∧ HpR X.K Γ H' G' ∧ P H' G' ∧ G' A = some .hid ∧ H' A = some (.dK vacc) ∧ DatF X.K Γ H' G' acc vacc ∧
      DcRun (wipe3 δ vs) g tt tk te (ds.drop i) acc (vis G') (fun kvs G2 => ∀ p, G2 p = none → Q3 (.ref p) (gset G2 p (.dK kvs))), ⟨ds.length, by omega, Nat.zero_le _, gset G1 A .hid, [], [], sA, hpA, wk.keep _ _ _ _ sA.toStep0 p1, gset_same, upd_same, .nil, by rw [vis_hide hgA]; exact q1⟩, ?_⟩
  rintro i m H2 ⟨rfl, hi, G2, acc, vacc, s2, hp2, p2, gA, hA2, dacc, q2⟩
  have Rw : ∀ {H' : Hp} {G' : Gp}, Step X.K H1 G1 H' G' → HpR X.K Γ H' G' → Rel X.K Γ (wipe3 δ vs) G' (L2.wipe σ vs) H' := fun s hp => (R.mono s hp).wipe vs
  by_cases hl : i < ds.length
  · refine .inr ⟨wk.go i H2 G2 hl p2 hp2, fun H' => ∃ G' acc vacc, Step X.K H1 G1 H' G' ∧ HpR X.K Γ H' G' ∧ P H' G' ∧ G' A = some .hid ∧ H' A = some (.dK vacc) ∧ DatF X.K Γ H' G' acc vacc ∧ DcRun (wipe3 δ vs) g tt tk te (ds.drop (i + 1)) acc (vis G') (fun kvs G2 => ∀ p, G2 p = none → Q3 (.ref p) (gset G2 p (.dK kvs))),
      fun H' q => ⟨ds.length - (i + 1), by omega, rfl, hl, q⟩, fun x H' y => ?_⟩
    obtain ⟨s3, hp3, d, hd, dd⟩ := wk.yld i H2 G2 x H' hl p2 hp2 y
    have e : ds.drop i = d :: ds.drop (i + 1) := by
      rw [List.drop_eq_getElem_cons hl]
      have := (List.getElem?_eq_some_iff.mp hd).2
      rw [this]
    rw [e] at q2
    have s23 := s2.trans s3
    have nt : NoTbl (.dK vacc) := noTbl_dK
    refine ⟨d, wipe3 δ vs, G2, _, Rw s23 hp3, dd, q2, fun δ4 G4 σ4 H4 s4 R4 ew q4 => ⟨ew.trans (wipe_wipe σ vs), ?_⟩⟩
    refine ⟨δ4, G4, _, _, R4, q4, fun bb G5 H5 s5 hp5 q5 => ?_, fun _ _ _ _ _ z => z.elim⟩
    have s35 : Step X.K H2 G2 H5 G5 := (s3.trans s4).trans s5
    have s25 := s2.trans s35
    cases bb with
    | false =>
      have q5 : DcRun (wipe3 δ vs) g tt tk te (ds.drop (i + 1)) acc (vis G5) (fun kvs G2 => ∀ p, G2 p = none → Q3 (.ref p) (gset G2 p (.dK kvs))) := q5
      show ∃ G' acc vacc, _
      exact ⟨G5, acc, vacc, s25, hp5, wk.keep _ _ _ _ s35.toStep0 p2, s35.hid A gA, s35.frh A _ hA2 gA nt, dacc.mono s35, q5⟩
    | true =>
      have q5 : tk δ4 (vis G5) (fun y G4 => ∃ ky, y = keyD ky ∧ te δ4 G4 (fun z G5 => acc.length < sizeLine ∧ DcRun (wipe3 δ vs) g tt tk te (ds.drop (i + 1)) (put acc ky z) G5 (fun kvs G2 => ∀ p, G2 p = none → Q3 (.ref p) (gset G2 p (.dK kvs)))) X0) X0 := q5
      show lift X.K Γ W0 tk σ4 H5 _
      refine ⟨δ4, G5, _, _, R4.mono s5 hp5, q5, fun dy vy G6 H6 s6 hp6 dvy q6 => ?_, fun _ _ _ _ _ z => z.elim⟩
      obtain ⟨ky, rfl, q6⟩ := q6
      refine ⟨δ4, G6, _, _, (R4.mono s5 hp5).mono s6 hp6, q6, fun dz vz G7 H7 s7 hp7 dvz q7 => ?_, fun _ _ _ _ _ z => z.elim⟩
      have s37 : Step X.K H2 G2 H7 G7 := (s35.trans s6).trans s7
      have gA6 := s37.hid A gA
      have hA6 := s37.frh A _ hA2 gA nt
      have dacc6 := DatF.mono s37 dacc
      have hh : Step0 X.K H7 G7 (upd H7 A (.dK (putK vacc ky vz))) G7 := Step0.hide gA6 hA6 fun _ z => nomatch z
      refine ⟨vacc, ky, dat_key dvy, hA6, by rw [← DatF.length dacc6]; exact q7.1, G7, put acc ky dz, putK vacc ky vz, Step.hidden (s2.trans s37) hA (fun a ha => upd_ne ha) ⟨_, upd_same⟩, hp7.hide gA6 hA6 (fun _ z => nomatch z) noTbl_dK (fun _ z => nomatch z),
        wk.keep _ _ _ _ (s37.toStep0.trans hh) p2, gA6, upd_same, DatF.mono0 hh (datF_put dacc6 ky dvz), q7.2⟩
  · have e : i = ds.length := by omega
    subst e
    rw [List.drop_length] at q2
    have sd : StepD X.K H2 G2 H2 (gset G2 A (.dK acc)) := Dat.step_show gA
    refine .inl ⟨wk.stop H2 G2 p2 hp2, k (.ref A) _ (gset G2 A (.dK acc)) H2 (s2.showG hA hgA) ⟨fun b g' eb => ?_, hp2.tab⟩ rfl ?_⟩
    · by_cases hb : b = A
      · subst hb
        rw [gset_same] at eb; cases eb
        exact ⟨vacc, hA2, dacc.monoD sd⟩
      · rw [gset_ne hb] at eb
        exact (hp2.own b g' eb).monoD sd fun o h => h
    · rw [vis_gset (by intro z; cases z)]
      refine q2 A ?_
      unfold vis
      rw [gA]
variable {ti : TI3} {g : TG3} {tt : TT3} {tk te : TE3} {ifs : List Expr} {scope : Scope} {own : List (Str × Nat)}
theorem pe3_dc (hc : X.calm = true) (hN : X.N.Nodup) (hi : PI3 X Γ W tg iter ti) (ok : BlkOk X.N X.env.scope scope own)
    (hg : ∀ (s : Shared) (H : Hp) (C : Addr) (cl : List (Str × Addr)) (fp : List Addr), PW3g (X.blk s H scope (compEnvC scope cl C X.env) fp) Γ (own.map (·.2)) tg g) (ht : ∀ (s : Shared) (H : Hp) (C : Addr) (cl : List (Str × Addr)) (fp : List Addr), PTs3 (X.blk s H scope (compEnvC scope cl C X.env) fp) Γ W0 ifs tt)
    (hk : ∀ (s : Shared) (H : Hp) (C : Addr) (cl : List (Str × Addr)) (fp : List Addr), PE3 (X.blk s H scope (compEnvC scope cl C X.env) fp) Γ W0 kx tk)
    (he : ∀ (s : Shared) (H : Hp) (C : Addr) (cl : List (Str × Addr)) (fp : List Addr), PE3 (X.blk s H scope (compEnvC scope cl C X.env) fp) Γ W0 vx te) (hs : ∀ x, foldedSetIterable iter X.env x = pure x := by intro _; rfl) :
    PE3 X Γ W (.DictComp kx vx [⟨tg, iter, ifs, 0⟩] scope pos) (TDc ti g tt tk te (own.map (·.2))) :=
  pe_imp (pe_dc hc hN hi ok hg ht hk he hs) fun σ H Q hw => by
    obtain ⟨δ, G, Q3, E3, R, h, k, ke⟩ := hw
    exact ⟨δ, G, _, E3, R, h, fun ds J P G1 H1 s1 hp1 wk p1 q1 => run_dc (R.mono s1 hp1) wk p1 (fun d v G' H' s' => k d v G' H' (s1.trans s')) q1, ke⟩
end
end L3
/-! L3, part j: built-ins. -/
namespace L3
open PySem PySem.Spec PyProof.Rows L2

/-- the items of a list or a tuple -/
@[simp] def seqD (G : Gp) (d : D) : Option (List D) := match d with
  | .nod .lst xs => some xs
  | .nod .ro xs => some xs
  | .nod .tup xs => some xs
  | .nod .tuK xs => some xs
  | .ref a => match G a with | some (.lst xs) => some xs | _ => none
  | _ => none
@[simp] def isTup : D → Bool
  | .nod .tup _ => true
  | .nod .tuK _ => true
  | _ => false
section
variable {K : PySem.W.Frag} {Γ : Gm} {H : Hp} {G : Gp}
theorem sqL_none {a : Addr} {vs : List V} (h : SqL K (fun _ => none) a vs) (H : Hp) : SqL K H a vs := by
  rcases h with (z | ⟨_, z⟩) | z
  · cases z
  · cases z
  · exact .inr z
theorem sqT_none {a : Addr} {vs : List V} (h : SqT K (fun _ => none) a vs) (H : Hp) : SqT K H a vs := by
  rcases h with (z | ⟨_, z⟩) | z
  · cases z
  · cases z
  · exact .inr z
theorem seqD_at {d : D} {v : V} {xs : List D} (R : HpR K Γ H G) (h : seqD (vis G) d = some xs) (dv : Dat K Γ H G d v) : ∃ p vs, v = .ref p ∧ ((isTup d = false ∧ SqL K H p vs) ∨ (isTup d = true ∧ SqT K H p vs)) ∧ DatL K Γ H G xs vs := by
  unfold seqD at h
  split at h
  · cases h
    obtain ⟨p, vs, rfl, h1, l⟩ := dv
    exact ⟨p, vs, rfl, .inl ⟨rfl, SqL.of h1.2⟩, l⟩
  · cases h
    obtain ⟨p, vs, rfl, h1, l⟩ := dv
    refine ⟨p, vs, rfl, .inl ⟨rfl, ?_⟩, l⟩
    rcases h1 with h1 | h1
    · exact .inl h1.2
    · exact sqL_none h1 H
  · cases h
    obtain ⟨p, vs, rfl, h1, l⟩ := dv
    exact ⟨p, vs, rfl, .inr ⟨rfl, SqT.of h1⟩, l⟩
  · cases h
    obtain ⟨p, vs, rfl, h1, l⟩ := dv
    exact ⟨p, vs, rfl, .inr ⟨rfl, sqT_none h1 H⟩, l⟩
  · split at h
    · rename_i hg
      cases h
      obtain rfl : v = _ := dv
      obtain ⟨vs, h1, l⟩ := R.own _ _ (vis_some hg)
      exact ⟨_, vs, rfl, .inl ⟨rfl, SqL.of h1⟩, l⟩
    · cases h
  · cases h
theorem datL_one {d : D} {vs : List V} (h : DatL K Γ H G [d] vs) : ∃ v, vs = [v] ∧ Dat K Γ H G d v := by
  obtain ⟨v, r, rfl, h1, h2⟩ := h
  cases (show _ = _ from h2)
  exact ⟨v, rfl, h1⟩
theorem datL_two {d e : D} {vs : List V} (h : DatL K Γ H G [d, e] vs) : ∃ v u, vs = [v, u] ∧ Dat K Γ H G d v ∧ Dat K Γ H G e u := by
  obtain ⟨v, r, rfl, h1, h2⟩ := h
  obtain ⟨u, rfl, h3⟩ := datL_one h2
  exact ⟨v, u, rfl, h1, h3⟩
end

/-! ### numbers -/
@[simp] def absR : C3 := fun ds G Q => match ds with | [.int i] => Q (.int (if i < 0 then -i else i)) G | _ => False
@[simp] def intR : C3 := fun ds G Q => match ds with | [.int i] => Q (.int i) G | [.bl k] => Q (.int (if k = true then 1 else 0)) G | _ => False
/-- the least, the greatest of a list of ints -/
def minI : List Int → Int
  | [] => 0
  | [a] => a
  | a :: b :: r => min a (minI (b :: r))
def maxI : List Int → Int
  | [] => 0
  | [a] => a
  | a :: b :: r => max a (maxI (b :: r))
theorem minI_mem : ∀ {ns : List Int}, ns ≠ [] → minI ns ∈ ns ∧ ∀ y ∈ ns, minI ns ≤ y
  | [], h => absurd rfl h
  | [a], _ => ⟨List.mem_singleton.mpr rfl, fun y hy => by rw [List.mem_singleton.mp hy]; exact Int.le_refl _⟩
  | a :: b :: r, _ => by
    obtain ⟨h1, h2⟩ := minI_mem (ns := b :: r) (by simp)
    show min a (minI (b :: r)) ∈ a :: b :: r ∧ _
    refine ⟨?_, fun y hy => ?_⟩
    · by_cases h : a ≤ minI (b :: r)
      · rw [Int.min_eq_left h]; exact List.mem_cons_self ..
      · rw [Int.min_eq_right (by omega)]; exact List.mem_cons_of_mem _ h1
    · show min a (minI (b :: r)) ≤ y
      rcases List.mem_cons.mp hy with rfl | hy
      · exact Int.min_le_left _ _
      · exact Int.le_trans (Int.min_le_right _ _) (h2 y hy)
theorem maxI_mem : ∀ {ns : List Int}, ns ≠ [] → maxI ns ∈ ns ∧ ∀ y ∈ ns, y ≤ maxI ns
  | [], h => absurd rfl h
  | [a], _ => ⟨List.mem_singleton.mpr rfl, fun y hy => by rw [List.mem_singleton.mp hy]; exact Int.le_refl _⟩
  | a :: b :: r, _ => by
    obtain ⟨h1, h2⟩ := maxI_mem (ns := b :: r) (by simp)
    show max a (maxI (b :: r)) ∈ a :: b :: r ∧ _
    refine ⟨?_, fun y hy => ?_⟩
    · by_cases h : maxI (b :: r) ≤ a
      · rw [Int.max_eq_left h]; exact List.mem_cons_self ..
      · rw [Int.max_eq_right (by omega)]; exact List.mem_cons_of_mem _ h1
    · show y ≤ max a (maxI (b :: r))
      rcases List.mem_cons.mp hy with rfl | hy
      · exact Int.le_max_left _ _
      · exact Int.le_trans (h2 y hy) (Int.le_max_right _ _)
def minR : C3 := fun ds G Q => match ds with
  | [.int i, .int j] => Q (.int (min i j)) G
  | [d] => isTup d = false ∧ ∃ ns : List Int, seqD G d = some (ns.map .int) ∧ ns ≠ [] ∧ Q (.int (minI ns)) G
  | _ => False
def maxR : C3 := fun ds G Q => match ds with
  | [.int i, .int j] => Q (.int (max i j)) G
  | [d] => isTup d = false ∧ ∃ ns : List Int, seqD G d = some (ns.map .int) ∧ ns ≠ [] ∧ Q (.int (maxI ns)) G
  | _ => False
def sumR : C3 := fun ds G Q => match ds with
  | [d] => isTup d = false ∧ ∃ ns : List Int, seqD G d = some (ns.map .int) ∧ Q (.int ns.sum) G
  | _ => False
def lenR : C3 := fun ds G Q => match ds with
  | [.str z] => z.length ≤ sizeLine ∧ Q (.int z.length) G
  | [d] => (match seqD G d with
    | some xs => Q (.int xs.length) G
    | none => match d with
      | .ref a => (match G a with | some (.dK kvs) => Q (.int kvs.length) G | _ => False)
      | _ => False)
  | _ => False
/-- list(xs), by value -/
def listR : C3 := fun ds G Q => match ds with
  | [d] => (match seqD G d with
    | some xs => Q (.lst xs) G
    | none => ∃ kvs, DKat G d kvs ∧ Q (.lst (kvs.map fun kv => keyD kv.1)) G)
  | _ => False
def tupR : C3 := fun ds G Q => match ds with
  | [d] => if isTup d = true then Q d G else ∃ xs, seqD G d = some xs ∧ Q (.tup xs) G
  | _ => False
section
variable {X : Cx} {Γ : Gm}
theorem sound_abs : SoundN X.K Γ (fun xs H Q => ∃ i, xs = [.int i] ∧ Q (.int (if i < 0 then -i else i)) H) absR := by
  intro xs vs H G Q3 Q R hl h k
  unfold absR at h
  split at h
  · obtain ⟨v, rfl, h1⟩ := datL_one hl
    exact ⟨_, by rw [show v = _ from h1], ret k R h rfl⟩
  · exact h.elim
theorem sound_int1 : SoundN X.K Γ (fun xs H Q => (∃ i, xs = [.int i] ∧ Q (.int i) H) ∨ ∃ k, xs = [.bl k] ∧ Q (.int (if k then 1 else 0)) H) intR := by
  intro xs vs H G Q3 Q R hl h k
  unfold intR at h
  split at h
  · obtain ⟨v, rfl, h1⟩ := datL_one hl
    exact .inl ⟨_, by rw [show v = _ from h1], ret k R h rfl⟩
  · obtain ⟨v, rfl, h1⟩ := datL_one hl
    exact .inr ⟨_, by rw [show v = _ from h1], ret k R h rfl⟩
  · exact h.elim
theorem cr_min2 (hc : X.calm = true) : CallR X (.builtin "min") (fun xs H Q => (∃ i j, xs = [.int i, .int j] ∧ Q (.int (if j < i then j else i)) H) ∨ rMin X.K xs H Q) := (call_min2 hc).or (cr_min hc)
theorem cr_max2 (hc : X.calm = true) : CallR X (.builtin "max") (fun xs H Q => (∃ i j, xs = [.int i, .int j] ∧ Q (.int (if j > i then j else i)) H) ∨ rMax X.K xs H Q) := (call_max2 hc).or (cr_max hc)
theorem sound_min : SoundN X.K Γ (fun xs H Q => (∃ i j, xs = [.int i, .int j] ∧ Q (.int (if j < i then j else i)) H) ∨ rMin X.K xs H Q) minR := by
  intro xs vs H G Q3 Q R hl h k
  unfold minR at h
  split at h
  · rename_i i j
    obtain ⟨v, u, rfl, h1, h2⟩ := datL_two hl
    refine .inl ⟨_, _, by rw [show v = _ from h1, show u = _ from h2], ret k R h ?_⟩
    show _ = _
    rw [Int.min_def]
    by_cases e : j < i
    · rw [if_pos e, if_neg (by omega)]
    · rw [if_neg e, if_pos (by omega)]
  · obtain ⟨v, rfl, h1⟩ := datL_one hl
    obtain ⟨nt, ns, e, ne, q⟩ := h
    obtain ⟨p, us, rfl, hs, l⟩ := seqD_at R e h1
    rcases hs with ⟨_, hs⟩ | ⟨z, _⟩
    · rw [DatL.ints l] at hs
      refine .inr ⟨p, ns, rfl, hs, List.length_pos_iff.mpr ne, fun m hm hy => ?_⟩
      obtain ⟨a1, a2⟩ := minI_mem ne
      have e : m = minI ns := Int.le_antisymm (hy _ a1) (a2 _ hm)
      rw [e]
      exact ret k R q rfl
    · rw [nt] at z; cases z
  · exact h.elim
theorem sound_max : SoundN X.K Γ (fun xs H Q => (∃ i j, xs = [.int i, .int j] ∧ Q (.int (if j > i then j else i)) H) ∨ rMax X.K xs H Q) maxR := by
  intro xs vs H G Q3 Q R hl h k
  unfold maxR at h
  split at h
  · rename_i i j
    obtain ⟨v, u, rfl, h1, h2⟩ := datL_two hl
    refine .inl ⟨_, _, by rw [show v = _ from h1, show u = _ from h2], ret k R h ?_⟩
    show _ = _
    rw [Int.max_def]
    by_cases e : j > i
    · rw [if_pos e, if_pos (by omega)]
    · rw [if_neg e]
      by_cases e2 : i ≤ j
      · rw [if_pos e2, show i = j by omega]
      · rw [if_neg e2]
  · obtain ⟨v, rfl, h1⟩ := datL_one hl
    obtain ⟨nt, ns, e, ne, q⟩ := h
    obtain ⟨p, us, rfl, hs, l⟩ := seqD_at R e h1
    rcases hs with ⟨_, hs⟩ | ⟨z, _⟩
    · rw [DatL.ints l] at hs
      refine .inr ⟨p, ns, rfl, hs, List.length_pos_iff.mpr ne, fun m hm hy => ?_⟩
      obtain ⟨a1, a2⟩ := maxI_mem ne
      have e : m = maxI ns := Int.le_antisymm (a2 _ hm) (hy _ a1)
      rw [e]
      exact ret k R q rfl
    · rw [nt] at z; cases z
  · exact h.elim
theorem sound_sum : SoundN X.K Γ (rSum X.K) sumR := by
  intro xs vs H G Q3 Q R hl h k
  unfold sumR at h
  split at h
  · obtain ⟨v, rfl, h1⟩ := datL_one hl
    obtain ⟨nt, ns, e, q⟩ := h
    obtain ⟨p, us, rfl, hs, l⟩ := seqD_at R e h1
    rcases hs with ⟨_, hs⟩ | ⟨z, _⟩
    · rw [DatL.ints l] at hs
      exact ⟨p, ns, rfl, hs, ret k R q rfl⟩
    · rw [nt] at z; cases z
  · exact h.elim
abbrev rLen3 (K : PySem.W.Frag) : List V → Hp → VK → Prop := fun xs H Q => (∃ x n, xs = [x] ∧ LenV K x H n ∧ Q (.int n) H) ∨ ∃ a kvs, xs = [V.ref a] ∧ H a = some (.dK kvs) ∧ Q (.int kvs.length) H
theorem cr_len3 : CallR X (.builtin "len") (rLen3 X.K) := call_len.or call_lenD
theorem sound_len : SoundN X.K Γ (rLen3 X.K) lenR := by
  intro xs vs H G Q3 Q R hl h k
  unfold lenR at h
  split at h
  · obtain ⟨v, rfl, h1⟩ := datL_one hl
    obtain rfl : v = _ := h1
    exact .inl ⟨_, _, rfl, ⟨h.1, rfl⟩, ret k R h.2 rfl⟩
  · obtain ⟨v, rfl, h1⟩ := datL_one hl
    split at h
    · rename_i e
      obtain ⟨p, us, rfl, hs, l⟩ := seqD_at R e h1
      refine .inl ⟨_, us.length, rfl, ?_, by rw [← l.length]; exact ret k R h rfl⟩
      rcases hs with ⟨_, hs⟩ | ⟨_, hs⟩
      · exact .inl ⟨us, hs, rfl⟩
      · exact .inr ⟨us, hs, rfl⟩
    · split at h
      · split at h
        · rename_i hg
          obtain rfl : v = _ := h1
          obtain ⟨us, h2, l⟩ := R.own _ _ (vis_some hg)
          exact .inr ⟨_, us, rfl, h2, by rw [← DatF.length l]; exact ret k R h rfl⟩
        · exact h.elim
      · exact h.elim
  · exact h.elim
abbrev rList3 (K : PySem.W.Frag) : List V → Hp → VK → Prop := fun xs H Q => (∃ p ys, xs = [.ref p] ∧ (SqL K H p ys ∨ SqT K H p ys) ∧ ∀ l, H l = none → Q (.ref l) (upd H l (.lst ys))) ∨
  ∃ (a : Addr) (kvs : List (Key × V)), xs = [.ref a] ∧ Rd H a (.dK kvs) ∧ ∀ p, H p = none → Q (.ref p) (upd H p (.lst (kvs.map fun kv => kV kv.1)))
theorem cr_list3 (hc : X.calm = true) : CallR X (.type "list") (rList3 X.K) := call_list_of.or (call_listD hc)
theorem sound_list : SoundN X.K Γ (rList3 X.K) listR := by
  intro xs vs H G Q3 Q R hl h k
  unfold listR at h
  split at h
  · obtain ⟨v, rfl, h1⟩ := datL_one hl
    split at h
    · rename_i e
      obtain ⟨p, us, rfl, hs, l⟩ := seqD_at R e h1
      exact .inl ⟨p, us, rfl, hs.imp (·.2) (·.2), fun q hq => new_lst R hq l k h⟩
    · obtain ⟨kvs, hd, q⟩ := h
      obtain ⟨a, us, rfl, hr, l⟩ := hd.at R h1
      refine .inr ⟨a, us, rfl, hr, fun p hp => new_lst R hp ?_ k q⟩
      have e : us.map (fun kv => kV kv.1) = (kvs.map (·.1)).map kV := by
        rw [← DatF.fst l, List.map_map] <;> rfl
      have e2 : kvs.map (fun kv => keyD kv.1) = (kvs.map (·.1)).map keyD := by
        rw [List.map_map] <;> rfl
      rw [e, e2]
      exact datL_keys'
  · exact h.elim
theorem sound_tup : SoundN X.K Γ (fun xs H Q => ∃ p ys, xs = [.ref p] ∧ ((SqL X.K H p ys ∧ ∀ l, H l = none → Q (.ref l) (upd H l (.tup ys))) ∨ (SqT X.K H p ys ∧ Q (.ref p) H))) tupR := by
  intro xs vs H G Q3 Q R hl h k
  unfold tupR at h
  split at h
  · rename_i d
    obtain ⟨v, rfl, h1⟩ := datL_one hl
    by_cases ht : isTup d = true
    · rw [if_pos ht] at h
      have hs : ∃ xs, seqD (vis G) d = some xs := by
        unfold isTup at ht
        split at ht
        · exact ⟨_, rfl⟩
        · exact ⟨_, rfl⟩
        · cases ht
      obtain ⟨xs, e⟩ := hs
      have h0 := h1
      obtain ⟨p, us, rfl, hs, l⟩ := seqD_at R e h1
      rcases hs with ⟨z, _⟩ | ⟨_, hs⟩
      · rw [ht] at z; cases z
      · exact ⟨p, us, rfl, .inr ⟨hs, ret k R h h0⟩⟩
    · rw [if_neg ht] at h
      obtain ⟨xs, e, q⟩ := h
      obtain ⟨p, us, rfl, hs, l⟩ := seqD_at R e h1
      rcases hs with ⟨_, hs⟩ | ⟨z, _⟩
      · exact ⟨p, us, rfl, .inl ⟨hs, fun q' hq => new_tup R hq l k q⟩⟩
      · exact absurd z ht
  · exact h.elim
end

/-! ### dict(xs) of pairs -/
def pairsD (kvs : List (Key × D)) : List D := kvs.map fun kv => .tup [keyD kv.1, kv.2]
def dictR : C3 := fun ds G Q => ∃ kvs, ds = [.lst (pairsD kvs)] ∧ ∀ p, G p = none → Q (.ref p) (gset G p (.dK (merge [] kvs)))
/-- .. by value -/
def dictVR : C3 := fun ds G Q => ∃ kvs, ds = [.lst (pairsD kvs)] ∧ Q (.dK (merge [] kvs)) G
section
variable {K : PySem.W.Frag} {Γ : Gm} {H : Hp} {G : Gp}
theorem datL_pairs : ∀ {kvs : List (Key × D)} {vs : List V}, DatL K Γ H G (pairsD kvs) vs → ∃ (ps : List Addr) (ws : List (Key × V)), vs = ps.map V.ref ∧ Paired (fun p kv => SqT K H p [kV kv.1, kv.2]) ps ws ∧ DatF K Γ H G kvs ws
  | [], _, h => ⟨[], [], h, .nil, .nil⟩
  | (k, d) :: kvs, _, h => by
    obtain ⟨v, r, rfl, ⟨p, us, rfl, h1, l⟩, h3⟩ := h
    obtain ⟨ps, ws, rfl, h4, h5⟩ := datL_pairs h3
    obtain ⟨u1, u2, rfl, d1, d2⟩ := datL_two l
    have e := dat_key d1
    subst e
    exact ⟨p :: ps, (k, u2) :: ws, rfl, .cons (SqT.of h1) h4, .cons ⟨rfl, d2⟩ h5⟩
theorem datF_merge : ∀ {more : List (Key × D)} {ms : List (Key × V)} {kvs : List (Key × D)} {vs : List (Key × V)}, DatF K Γ H G more ms → DatF K Γ H G kvs vs → DatF K Γ H G (merge kvs more) (mergeK vs ms)
  | _, _, _, _, .nil, h => h
  | (k, d) :: more, (k', v) :: ms, _, _, .cons r t, h => by
    obtain ⟨e, r2⟩ := r
    have e : k = k' := e
    subst e
    exact datF_merge (more := more) (ms := ms) t (datF_put h k r2)
end
section
variable {X : Cx} {Γ : Gm}
abbrev rDictP3 (K : PySem.W.Frag) : List V → Hp → VK → Prop := fun xs H Q => ∃ (a : Addr) (ps : List Addr) (kvs : List (Key × V)), xs = [.ref a] ∧ SqL K H a (ps.map V.ref) ∧ Paired (fun p kv => SqT K H p [kV kv.1, kv.2]) ps kvs ∧
  ∀ p, H p = none → Q (.ref p) (upd H p (.dK (mergeK [] kvs)))
theorem sound_dict : SoundN X.K Γ (rDictP3 X.K) dictR := by
  intro xs vs H G Q3 Q R hl h k
  obtain ⟨kvs, rfl, q⟩ := h
  obtain ⟨v, rfl, h1⟩ := datL_one hl
  obtain ⟨a, us, rfl, h2, l⟩ := h1
  obtain ⟨ps, ws, rfl, h4, h5⟩ := datL_pairs l
  refine ⟨a, ps, ws, rfl, SqL.of h2.2, h4, fun p hp => ?_⟩
  have st : Step X.K H G (upd H p (.dK (mergeK [] ws))) (gset G p (.dK (merge [] kvs))) := Step.newG hp (own_none R hp)
  refine k (.ref p) _ _ _ st (R.newG (g := .dK (merge [] kvs)) hp ⟨_, upd_same, DatF.mono st (datF_merge h5 .nil)⟩) rfl ?_
  rw [vis_gset (by intro z; cases z)]
  exact q p (vis_none (own_none R hp))
theorem sound_dictV : SoundN X.K Γ (rDictP3 X.K) dictVR := by
  intro xs vs H G Q3 Q R hl h k
  obtain ⟨kvs, rfl, q⟩ := h
  obtain ⟨v, rfl, h1⟩ := datL_one hl
  obtain ⟨a, us, rfl, h2, l⟩ := h1
  obtain ⟨ps, ws, rfl, h4, h5⟩ := datL_pairs l
  refine ⟨a, ps, ws, rfl, SqL.of h2.2, h4, fun p hp => ?_⟩
  have st : Step X.K H G (upd H p (.dK (mergeK [] ws))) G := Step.new hp
  have hm := DatF.mono st (datF_merge h5 .nil)
  refine k (.dK (merge [] kvs)) _ _ _ st (R.new hp) ⟨p, _, rfl, ⟨own_none R hp, by rw [List.length_map, List.length_map]; exact DatF.length hm, .inl ?_⟩, DatF.snd hm⟩ q
  rw [← DatF.fst hm, zip_self]
  exact upd_same
end

/-! ### calls of types by name -/
section
variable {X : Cx} {Γ : Gm} {W : WX} {e : Expr} {es : List Expr} {pos p : Pos}
theorem pe3_callTy {T : String} {x : Str} {r : List V → Hp → VK → Prop} {r3 : C3} {t : TA3} (hc : CallR X (.type T) r) (hs : SoundN X.K Γ r r3) (hg : Gl X x) (hm : X.mg x = none) (hv : bootBuiltins x = some (.type T)) (ha : PA3 X Γ W (e :: es) t)
    (hn : x ≠ "__name__" := by decide) (hdb : (x == ("__debug__" : Str)) = false := by decide) (hst : starEach (e :: es) X.env = (false, eval e X.env) :: starEach es X.env := by rfl) (hpl : ((backTo pos (starEach es X.env)).any fun x => x.fst) = false := by rfl) : PE3 X Γ W (.Call (.Name x p) (e :: es) [] pos) (TCB r3 t) :=
  pe_imp (pe_callTy hc hg hm hv ha hn hdb hst hpl) fun _ _ _ hw => cb_sound hs hw
end

/-! ### xs[::-1] -/
def TRev (t : TE3) : TE3 := fun δ G Q E => t δ G (fun d G1 => isTup d = false ∧ ∃ xs, seqD G1 d = some xs ∧ Q (.lst xs.reverse) G1) E
section
variable {X : Cx} {Γ : Gm} {W : WX} {e : Expr} {k : Nat} {p1 p2 p3 pos : Pos} {t : TE3}
theorem pe3_rev (he : PE3 X Γ W e t) : PE3 X Γ W (.Subscript e (.Slice none none (some (.UnaryOp .USub (.Constant (.int 1) k p1) p2)) p3) pos) (TRev t) := pe_imp (pe_revL he) fun σ H Q hw => by
  obtain ⟨δ, G, Q3, E3, R, h1, k, ke⟩ := hw
  refine ⟨δ, G, _, E3, R, h1, fun d v G1 H1 s1 hp1 dv ⟨nt, xs, e, q⟩ => ?_, ke⟩
  obtain ⟨p, us, rfl, hs, l⟩ := seqD_at hp1 e dv
  rcases hs with ⟨_, hs⟩ | ⟨z, _⟩
  · exact ⟨p, us, rfl, hs, fun q' hq => new_lst hp1 hq l.reverse (fun d w G' H' s' => k d w G' H' (s1.trans s')) q⟩
  · rw [nt] at z; cases z
end

/-! ### xs.append(y) -/
def TApp (to : TE3) (t : TA3) : TE3 := fun δ G Q E => to δ G (fun x G1 => match x with
  | .ref a => (∃ xs, G1 a = some (.lst xs)) ∧ t δ G1 (fun ds G2 => match ds with
    | [y] => (match G2 a with | some (.lst xs) => xs.length < sizeLine ∧ Q .non (gset G2 a (.lst (xs ++ [y]))) | _ => False)
    | _ => False) E
  | _ => False) E
section
variable {X : Cx} {Γ : Gm} {W : WX} {o e : Expr} {apos cpos : Pos} {to : TE3} {t : TA3}
theorem pe3_append (ho : PE3 X Γ W o to) (ha : PA3 X Γ W [e] t) (hbase : attributeBase o "append" X.env (eval o X.env) = eval o X.env := by rfl)
    (hfew : ((backTo cpos (starEach [e] X.env)).all (fun x => !x.1) && (backToKw cpos (keywordEach [] X.env)).all (fun x => x.1.isSome) && decide ([e].length + ([] : List Keyword).length + (if ([] : List Keyword).isEmpty then 0 else 1) < 30)) = true := by rfl)
    (hline : (apos.endLine == cpos.line) = true := by rfl) (hs : starEach [e] X.env = [(false, eval e X.env)] := by rfl) : PE3 X Γ W (.Call (.Attribute o "append" apos) [e] [] cpos) (TApp to t) := by
  refine pe_imp (pe_bm PySem.F.plainAttrs_list PySem.F.slot_list_append PySem.F.type_list_append mt_append ho ha hbase hfew hline hs) fun σ H Q hw => ?_
  obtain ⟨δ, G, Q3, E3, R, h1, k, ke⟩ := hw
  refine ⟨δ, G, _, E3, R, h1, fun d v G1 H1 s1 hp1 dv q => ?_, ke⟩
  split at q
  · obtain rfl : v = _ := dv
    obtain ⟨⟨xs, hg⟩, q⟩ := q
    obtain ⟨us, h2, l⟩ := hp1.own _ _ (vis_some hg)
    refine ⟨.inl ⟨rfl, us, SqL.of h2⟩, δ, G1, _, E3, R.mono s1 hp1, q, fun ds vs G2 H2 s2 hp2 dl q => ?_, fun cls G' H' s' => ke cls G' H' (s1.trans s')⟩
    split at q
    · split at q
      · rename_i xs2 hg2
        have hg2' := vis_some hg2
        obtain ⟨us2, h3, l2⟩ := hp2.own _ _ hg2'
        obtain ⟨y, rfl, dy⟩ := datL_one dl
        obtain ⟨st, hp3⟩ := hp2.put (o' := .lst (us2 ++ [y])) (g' := .lst (xs2 ++ [_])) hg2' rfl fun st => ⟨_, upd_same, (l2.append (.cons dy .nil)).mono st⟩
        refine ⟨_, us2, y, rfl, rfl, h3, by rw [← l2.length]; exact q.1, k .non _ _ _ ((s1.trans s2).trans st) hp3 rfl ?_⟩
        rw [vis_gset (by intro z; cases z)]
        exact q.2
      · exact q.elim
    · exact q.elim
  · exact q.elim
end

/-! ### a, b, c = x, y, z -/
@[simp] def TPar3 (i j l : Nat) (t : TA3) : TS3 := fun D3 δ G => t δ G (fun ds G1 => match ds with | [a, b, c] => D3.nx (((δ.set i (some a)).set j (some b)).set l (some c)) G1 | _ => False) (fun cls G1 => D3.ex cls δ G1)
section
variable {X : Cx} {Γ : Gm} {W : WX} {a b c : Expr} {pos : Pos}
theorem ps3_par3 {i j l : Nat} {x y z : Str} {t : TA3} {px py pz pt : Pos} {kt k2 pt2} (hc : X.calm = true) (hN : X.N.Nodup) (hi : X.N[i]? = some x) (hj : X.N[j]? = some y) (hl : X.N[l]? = some z) (hij : i ≠ j) (hil : i ≠ l) (hjl : j ≠ l)
    (hx : X.env.scope.names.lookup x = some .local) (hy : X.env.scope.names.lookup y = some .local) (hz : X.env.scope.names.lookup z = some .local) (ha : PA3 X Γ W [a, b, c] t)
    (hw : swappedStores [.Tuple [.Name x px, .Name y py, .Name z pz] kt pt] (.Tuple [a, b, c] k2 pt2) X.env = pure (some [x, y, z]))
    (hs : swapsWithSole [.Tuple [.Name x px, .Name y py, .Name z pz] kt pt] (.Tuple [a, b, c] k2 pt2) pos.line X.env = pure false := by rfl) :
    PS3 X Γ W (.Assign [.Tuple [.Name x px, .Name y py, .Name z pz] kt pt] (.Tuple [a, b, c] k2 pt2) pos) (TPar3 i j l t) := by
  refine ps_imp (ps_par3 hc hN hi hj hl hij hil hjl hx hy hz ha hw hs) fun D' σ H hw => ?_
  obtain ⟨δ, G, D3, R, h, k⟩ := hw
  refine ⟨δ, G, _, _, R, h, fun ds vs G1 H1 s1 hp1 dl q => ?_, fun cls G' H' s hp q => k.ex cls δ G' σ H' s (R.mono s hp) q⟩
  split at q
  · obtain ⟨v, r, rfl, d1, l1⟩ := dl
    obtain ⟨v2, v3, rfl, d2, d3⟩ := datL_two l1
    exact ⟨v, v2, v3, rfl, k.nx _ G1 _ H1 s1 ((((R.mono s1 hp1).set d1).set d2).set d3) q⟩
  · exact q.elim
end
end L3
/-! L3, part k: sorted. -/

namespace L3
open PySem PySem.Spec PyProof.Rows L2

/-! ### sorted of a tuple -/
section
variable {prog : Program} {w : World} {A : Around} {E : Value → Shared → Prop} {s : Shared}
theorem collect_tupL {t : Addr} {vs : List Value} {o : Obj} {n : Nat} {Q : List Value → Shared → Prop} (ho : s.heap.get? t = some o) (hc : o.cls = .type "tuple") (hd : o.data = .seq vs.toArray n) (hz : vs.length ≤ sizeLine)
    (h : Q vs { s with heap := (s.heap.push (seqObj "list" #[] 0)).update s.heap.objs.size (Obj.mapSeq (· ++ vs.toArray)) }) : wpAny (model prog w) A (collect (.ref t)) Q E s := by
  have hp : (s.heap.push (seqObj "list" #[] 0)).get? t = some o := Heap.get?_push_of_some _ ho
  have hn : (s.heap.push (seqObj "list" #[] 0)).get? s.heap.objs.size = some (seqObj "list" #[] 0) := Heap.get?_push_size _ rfl
  have hlen : (#[] ++ vs.toArray : Array Value).size ≤ sizeLine + 1 := by
    simp only [Array.size_append, List.size_toArray, List.length_nil]
    omega
  unfold collect
  refine wpAny_bind (wpAny_runValue (codeAny_builtin entry_proto_collect' ?_))
  refine wpAny_bind (m := newList []) (wpAny_newList (wpAny_pure ⟨Code.quiet_builtin _ (by decide +kernel), codeAny_builtin entry_list_iadd' ?_⟩))
  show wpAny _ _ (Builtin.List.listExtendWith (.ref s.heap.objs.size) (.ref t) (.ref s.heap.objs.size)) _ _ _
  unfold Builtin.List.listExtendWith
  refine wpAny_bind (wpAny_typeOf (T := "tuple") ⟨o, hp, hc⟩ ?_)
  rw [if_pos (by rw [show (Value.type "tuple" == Value.type "tuple") = true by rfl, Bool.or_true])]
  refine wpAny_bind (listItems_at hp hd ?_)
  refine wpAny_bind (listItems_at hn rfl ?_)
  rw [if_neg (by simp)]
  refine wpAny_bind (listUpdate_at hn rfl ?_ (Nat.zero_le _) hlen)
  refine wpAny_pure ?_
  refine wpAny_bind (m := load s.heap.objs.size) (wpAny_load (get?_update_seq hn _) ?_)
  refine wpAny_pure ?_
  rw [show ((#[] : Array Value) ++ vs.toArray).toList = vs by simp]
  exact h
theorem sorted_tupO {t : Addr} {vs : List Value} {o : Obj} {n : Nat} {ltv : Value → Value → Bool} {Q : Value → Shared → Prop} (O : SrtO.Swo ltv) (ho : s.heap.get? t = some o) (hc : o.cls = .type "tuple") (hd : o.data = .seq vs.toArray n) (hz : vs.length ≤ sizeLine)
    (hS : 2 ≤ vs.length → ∀ (h1 : Heap) (a : Addr), h1.get? a = some (seqObj "list" vs.toArray 0) → (∀ b o, s.heap.get? b = some o → b ≠ a ∧ h1.get? b = some o) → SrtO.SortableO prog w A.in1.in1 { s with heap := h1 } a vs ltv)
    (h : ∀ out : List Value, SrtO.Srtd ltv out → SrtO.Stb ltv out vs → Q (.ref (s.heap.objs.size + 1)) { s with heap := sortedAll s.heap vs out.toArray }) :
    wpAny (model prog w) A (call (.builtin "sorted") [.ref t]) Q E s := by
  have z1 : ((s.heap.push (seqObj "list" #[] 0)).update s.heap.objs.size (Obj.mapSeq (· ++ vs.toArray))).objs.size = s.heap.objs.size + 1 := by
    rw [Heap.size_update, size_push']
  have new : (((s.heap.push (seqObj "list" #[] 0)).update s.heap.objs.size (Obj.mapSeq (· ++ vs.toArray))).push (seqObj "list" vs.toArray 0)).get? (s.heap.objs.size + 1) = some (seqObj "list" vs.toArray 0) :=
    z1 ▸ Heap.get?_push_size _ rfl
  have old : ∀ b o, s.heap.get? b = some o → b ≠ s.heap.objs.size + 1 ∧ (((s.heap.push (seqObj "list" #[] 0)).update s.heap.objs.size (Obj.mapSeq (· ++ vs.toArray))).push (seqObj "list" vs.toArray 0)).get? b = some o := fun b o e => by
    have lt := Heap.lt_size e
    exact ⟨Nat.ne_of_lt (Nat.lt_succ_of_lt lt), Heap.get?_push_of_some _ ((Heap.get?_update_ne _ _ _ _ (Nat.ne_of_lt lt)).trans (Heap.get?_push_of_some _ e))⟩
  refine Calls.call_function_entry kind_sorted plain_sorted entry_sorted (args_sorted1 _) ?_
  unfold Builtin.«sorted»
  refine wpAny_bind (m := checkCount "sorted" 1 1 _) (wpAny_pure (wpAny_bind (collect_tupL ho hc hd hz ?_)))
  refine wpAny_bind (wpAny_newList ?_ hz)
  show wpAny _ _ _ _ _ { s with heap := ((s.heap.push (seqObj "list" #[] 0)).update s.heap.objs.size (Obj.mapSeq (· ++ vs.toArray))).push (seqObj "list" vs.toArray 0) }
  rw [z1]
  exact wpAny_bind (wpAny_holding (wpAny_call_entry slot_list_sort ⟨_, new, rfl⟩ entry_list_sort (SrtO.list_sort_ord O new hz (fun h2 => hS h2 _ _ new old) fun out hs hb => ⟨_, rfl, wpAny_pure ⟨_, rfl, h out hs hb⟩⟩) (args_list_sort _)))
end

/-! ### as a rule: ints; texts; pairs of ints -/
def lexI (p q : Int × Int) : Prop := p.1 < q.1 ∨ (p.1 = q.1 ∧ p.2 ≤ q.2)
def iiD (p : Int × Int) : D := .tup [.int p.1, .int p.2]
section
variable {X : Cx}
/-- sorted(xs) of a list or a tuple, by an order of its values -/
def rSrt (X : Cx) : List V → Hp → VK → Prop := fun vs H Q => ∃ (a : Addr) (xs : List V), vs = [V.ref a] ∧ (SqL X.K H a xs ∨ SqT X.K H a xs) ∧
  ((∃ ns, xs = ns.map V.int ∧ ∀ (ns' : List Int) (p : Addr), ns'.Perm ns → ns'.Pairwise (· ≤ ·) → H p = none → Q (.ref p) (upd H p (.lst (ns'.map V.int)))) ∨
   (∃ k : V → Int × Int, (∀ x ∈ xs, ∃ t, x = V.ref t ∧ H t = some (.tup [.int (k x).1, .int (k x).2])) ∧ ∀ ys p, SrtO.Srtd (ltP k) ys → SrtO.Stb (ltP k) ys xs → H p = none → Q (.ref p) (upd H p (.lst ys))))
theorem cr_sortedT2 : CallR X (.builtin "sorted") (rSrt X) := by
  intro pins s σ H vs us Q I r h
  obtain ⟨a, xs, rfl, hs, h⟩ := h
  rcases h with ⟨ns, rfl, q⟩ | ⟨k, hx, q⟩
  · rcases hs with hs | hs
    · exact cr_sortedI pins s σ H _ us Q I r ⟨a, ns, rfl, hs, q⟩
    · obtain ⟨its, rv, hl, hz⟩ := I.tuple hs
      rw [Vals.ref1 r]
      obtain ⟨o, ho, hc, n, hd⟩ := hl
      have hi := rv.ints
      refine sorted_tupO SrtO.swo_int ho hc hd (by rw [← rv.length]; exact hz) (fun h2 h1 a' _ _ => SrtO.ints_sortable hi h2) fun out h1 h2 => ?_
      obtain ⟨k1, k2, k3⟩ := SrtO.ints_out hi h1 h2
      obtain ⟨ep, he'⟩ := PyProof.Rows.sortedAll_at s.heap its out.toArray
      have hlen : ((out.map SrtO.iv).map V.int).length ≤ sizeLine := by
        rw [List.length_map, k2.length_eq]
        simpa using hz
      refine ⟨.ref _, upd H (s.heap.objs.size + 1) (.lst ((out.map SrtO.iv).map V.int)), I.laid (t' := s.toks) (fun _ _ => PyProof.Rows.sortedAll_old) (Nat.le_succ _) ⟨hlen, out, ep, vals_of_ints k1, he'⟩, rfl, ?_⟩
      exact q _ _ k2 k3 (I.hok.fresh (Nat.le_succ _))
  · rcases hs with hs | hs
    · exact cr_sortedPO pins s σ H _ us Q I r ⟨a, xs, k, rfl, hs, hx, q⟩
    · obtain ⟨its, rv, hl, hz⟩ := I.tuple hs
      rw [Vals.ref1 r]
      obtain ⟨o, ho, hc, n, hd⟩ := hl
      obtain ⟨e1, e2⟩ := refs_back rv fun x m => let ⟨t, e, _⟩ := hx x m; ⟨t, e⟩
      have hp : ∀ v ∈ its, Srt.IsPair s.heap v (k (backV v)).1 (k (backV v)).2 := fun v hv => by
        obtain ⟨t, rfl⟩ := e2 v hv
        have hm : V.ref t ∈ xs := by rw [e1]; exact List.mem_map.mpr ⟨_, hv, rfl⟩
        obtain ⟨t', e, ht⟩ := hx _ hm
        cases e
        obtain ⟨_, its2, r2, o2, ho2, hc2, n2, hd2⟩ := I.hok _ _ ht
        obtain ⟨u1, u2, rfl, ⟨t1, rfl⟩, t2, rfl⟩ := vals2 r2
        exact ⟨t, o2, t1, t2, n2, rfl, ho2, hc2, hd2⟩
      have hts : 2 ≤ its.length → ∀ (h1 : Heap) (a : Addr), h1.get? a = some (seqObj "list" its.toArray 0) → (∀ b o, s.heap.get? b = some o → b ≠ a ∧ h1.get? b = some o) → SrtO.SortableO X.prog X.w X.A.in1.in1 { s with heap := h1 } a its fun v u => SrtO.lexB (k (backV v)) (k (backV u)) := fun h2 h1 a ha kk => by
        refine SrtO.pairs_sortableO (k := fun u => k (backV u)) (s := { s with heap := h1 }) (by omega) (fun v hm => (hp v hm).keeps fun b o e _ => (kk b o e).2) fun o e c => ?_
        have e2 : o = seqObj "list" its.toArray 0 := Option.some.inj ((show h1.get? a = some o from e).symm.trans ha)
        rw [e2] at c
        exact absurd (Value.type.inj c) (by decide)
      refine sorted_tupO (SrtO.swo_lex fun u => k (backV u)) ho hc hd (by rw [← rv.length]; exact hz) hts fun out h1 h2 => ?_
      obtain ⟨ep, he'⟩ := PyProof.Rows.sortedAll_at s.heap its out.toArray
      have h3 : ∀ u ∈ out, ∃ a, u = Value.ref a := fun u hu => e2 u (h2.perm.mem_iff.mp hu)
      have hb : SrtO.Stb (ltP k) (out.map backV) xs := by
        rw [e1]
        exact SrtO.Stb.map (ltP_swo k) backV h2
      refine ⟨.ref _, upd H (s.heap.objs.size + 1) (.lst (out.map backV)), I.laid (t' := s.toks) (fun _ _ => PyProof.Rows.sortedAll_old) (Nat.le_succ _) ⟨by rw [hb.len]; exact hz, out, ep, vals_back h3, he'⟩, rfl, ?_⟩
      exact q _ _ (SrtO.srtd_map h1) hb (I.hok.fresh (Nat.le_succ _))
end

def sortedR : C3 := fun ds G Q => match ds with
  | [d] => (∃ ns : List Int, seqD G d = some (ns.map .int) ∧ ∀ ns' : List Int, ns'.Perm ns → ns'.Pairwise (· ≤ ·) → Q (.lst (ns'.map .int)) G) ∨
    ∃ ps : List (Int × Int), seqD G d = some (ps.map iiD) ∧ ∀ ps' : List (Int × Int), ps'.Perm ps → ps'.Pairwise lexI → Q (.lst (ps'.map iiD)) G
  | _ => False
section
variable {X : Cx} {Γ : Gm}
theorem datL_pairI {K : PySem.W.Frag} {H : Hp} {G : Gp} : ∀ {ps : List (Int × Int)} {vs : List V}, DatL K Γ H G (ps.map iiD) vs → ∀ x ∈ vs, ∃ t p, x = V.ref t ∧ H t = some (.tup [.int p.1, .int p.2]) ∧ p ∈ ps
  | [], _, h, x, hx => by cases (show _ = _ from h); cases hx
  | p :: ps, _, h, x, hx => by
    obtain ⟨v, r, rfl, h1, h2⟩ := h
    rcases List.mem_cons.mp hx with rfl | hx
    · obtain ⟨t, us, rfl, ht, l⟩ := h1
      obtain ⟨u1, u2, rfl, d1, d2⟩ := datL_two l
      rw [show u1 = _ from d1, show u2 = _ from d2] at ht
      exact ⟨t, p, rfl, ht, List.mem_cons_self ..⟩
    · obtain ⟨t, q, e, ht, hq⟩ := datL_pairI h2 x hx
      exact ⟨t, q, e, ht, List.mem_cons_of_mem _ hq⟩
/-- the ints of the pair at x -/
def pairAt (H : Hp) : V → Int × Int
  | .ref t => match H t with | some (.tup [.int i, .int j]) => (i, j) | _ => (0, 0)
  | _ => (0, 0)
theorem datL_pairK {K : PySem.W.Frag} {H : Hp} {G : Gp} : ∀ {ps : List (Int × Int)} {vs : List V}, DatL K Γ H G (ps.map iiD) vs → vs.map (pairAt H) = ps
  | [], _, h => by cases (show _ = _ from h); rfl
  | p :: ps, _, h => by
    obtain ⟨v, r, rfl, h1, h2⟩ := h
    rw [List.map_cons, datL_pairK h2]
    obtain ⟨t, us, rfl, ht, l⟩ := h1
    obtain ⟨u1, u2, rfl, d1, d2⟩ := datL_two l
    rw [show u1 = _ from d1, show u2 = _ from d2] at ht
    show (match H t with | some (.tup [.int i, .int j]) => (i, j) | _ => (0, 0)) :: ps = _
    rw [ht]
theorem datL_pairB {K : PySem.W.Frag} {H : Hp} {G : Gp} : ∀ {ys : List V}, (∀ x ∈ ys, ∃ t, x = V.ref t ∧ H t = some (.tup [.int (pairAt H x).1, .int (pairAt H x).2])) → DatL K Γ H G ((ys.map (pairAt H)).map iiD) ys
  | [], _ => rfl
  | y :: ys, h => by
    obtain ⟨t, e, ht⟩ := h y (List.mem_cons_self ..)
    exact ⟨y, ys, rfl, ⟨t, _, e, ht, .cons rfl (.cons rfl .nil)⟩, datL_pairB fun x hx => h x (List.mem_cons_of_mem _ hx)⟩
theorem sound_sorted : SoundN X.K Γ (rSrt X) sortedR := by
  intro xs vs H G Q3 Q R hl h k
  unfold sortedR at h
  split at h
  · obtain ⟨v, rfl, h1⟩ := datL_one hl
    rcases h with ⟨ns, e, q⟩ | ⟨ps, e, q⟩
    · obtain ⟨p, us, rfl, hs, l⟩ := seqD_at R e h1
      have eu := DatL.ints l
      subst eu
      exact ⟨p, _, rfl, hs.imp (·.2) (·.2), .inl ⟨ns, rfl, fun ns' p' h2 h3 hp => new_lst R hp DatL.of_ints k (q ns' h2 h3)⟩⟩
    · obtain ⟨p, us, rfl, hs, l⟩ := seqD_at R e h1
      have key : ∀ x ∈ us, ∃ t, x = V.ref t ∧ H t = some (.tup [.int (pairAt H x).1, .int (pairAt H x).2]) := fun x hx => by
        obtain ⟨t, p, rfl, ht, _⟩ := datL_pairI l x hx
        refine ⟨t, rfl, ?_⟩
        have : pairAt H (.ref t) = p := by
          show (match H t with | some (.tup [.int i, .int j]) => (i, j) | _ => (0, 0)) = _
          rw [ht]
        rw [this]
        exact ht
      refine ⟨p, us, rfl, hs.imp (·.2) (·.2), .inr ⟨pairAt H, key, fun ys p' h2 h3 hp => new_lst R hp (datL_pairB fun x hx => key x (h3.perm.mem_iff.mp hx)) k (q _ ?_ ?_)⟩⟩
      · have := h3.perm.map (pairAt H)
        rw [datL_pairK l] at this
        exact this
      · refine List.pairwise_map.mpr (h2.imp fun {x y} h => ?_)
        have := SrtO.lexB_no.mp h
        unfold lexI
        omega
  · exact h.elim
end
end L3
/-! L3, part l: lambdas. -/
namespace L3
open PySem PySem.Spec PyProof.Rows L2
open LamX (CodeO Tabs TabB ExtN LamS lamCx lamEnv)

theorem GOk.at {K : PySem.W.Frag} {Γ : Gm} {H : Hp} {G : Gp} {a : Addr} : ∀ {g : GO}, GOk K Γ H G a g → ∃ o, H a = some o ∧ NoTbl o
  | .lst _, ⟨_, e, _⟩ => ⟨_, e, noTbl_lst⟩
  | .dK _, ⟨_, e, _⟩ => ⟨_, e, noTbl_dK⟩
  | .dT _, ⟨_, e, _⟩ => ⟨_, e, noTbl_dT⟩
  | .ins _ _, ⟨_, _, e, _⟩ => ⟨_, e, noTbl_ins⟩
  | .lkK _, ⟨_, _, e, _⟩ => ⟨_, e, noTbl_frz⟩
  | .lkT _, ⟨_, _, e, _⟩ => ⟨_, e, noTbl_frz⟩
  | .hid, ⟨o, e, n, _⟩ => ⟨o, e, n⟩
theorem noTbl_ext {φ : Heap → Prop} : NoTbl (.ext φ) := fun _ z => nomatch z
theorem noTbl_code {c : Addr} {q : Str} : NoTbl (CodeO c q) := fun _ z => by unfold CodeO at z; cases z
section
variable {K : PySem.W.Frag} {Γ : Gm} {H H1 : Hp} {G : Gp}
theorem Step.ext (R : HpR K Γ H G) (e : ExtN H H1) : Step K H G H1 G where
  tup := fun b xs h => e b _ h noTbl_tup
  frm := fun a o h _ n => e a o h n
  hid := fun a h => h
  own := fun a o h n nt => ⟨n, o, e a o h nt⟩
  lck := fun a g h l => ⟨h, fun o q => by
    obtain ⟨o', q', n⟩ := (R.own a g h).at
    rw [q] at q'
    cases q'
    exact e a o q n⟩
  frh := fun a o h _ n => e a o h n
theorem HpR.ext (R : HpR K Γ H G) (e : ExtN H H1) (t : Tabs Γ.T H1) : HpR K Γ H1 G where
  own := fun a g h => (R.own a g h).mono (Step.ext R e) fun o q => by
    obtain ⟨o', q', n⟩ := (R.own a g h).at
    rw [q] at q'
    cases q'
    exact e a o q n
  tab := t
end

/-! ### told(lambda: ..): what it makes of the lambda -/
def TTold3 (K : PySem.W.Frag) (CS : Addr) (rt : Str) (t : TE3) : TE3 := fun δ G Q E => t δ G Q (fun cls G' => PySem.W.exmOne K cls (.ref CS) = some true ∧ Q (.str rt) G')
section
variable {X : Cx} {Γ : Gm} {W : WX}
theorem told_sound {CS : Addr} {rt : Str} {t : TE3} {σ : L2.St} {H : Hp} {Q : VK} (hw : lift X.K Γ W (TTold3 X.K CS rt t) σ H Q) {H1 : Hp} (e : ExtN H H1) (T1 : Tabs Γ.T H1) : LamX.TTold X.K CS rt (fun E H' Q' => lift X.K Γ (WE3 E) t σ H' Q') H1 Q := by
  obtain ⟨δ, G, Q3, E3, R, h, k, ke⟩ := hw
  have s1 := Step.ext R.hp e
  have hp1 := R.hp.ext e T1
  exact ⟨δ, G, _, _, R.mono s1 hp1, h, fun d v G' H' s' => k d v G' H' (s1.trans s'), fun cls G' H' s' hp' ⟨e1, q⟩ => ⟨true, e1, fun _ => k (.str rt) _ G' H' (s1.trans s') hp' rfl q, fun z => nomatch z⟩⟩
theorem pe3_told {x a : Str} {g c P CS : Addr} {k : Nat} {pg : Arguments} {bg : List Stmt} {sg : Scope} {dV kV doc pm cdv ct oc : Value} {an od : Option Addr} {osl : Array (Option Value)} {Ng : List Str} {params : Arguments} {body : Expr} {scope : Scope} {t : TE3} {p lpos pos : Pos} {rt : Str}
    (hg : Gl X x) (hm : X.mg x = some (.ref g)) (hk : PySem.W.keepIn X.K (.ref g) = true) (lk : X.K.lookup g = some ⟨oc, od, .func (PySem.W.fnOf x x pg bg sg dV kV doc pm an cdv ct), osl⟩) (hcg : PySem.W.codeIn X.K cdv x = true)
    (hb : L2.Binds X.K (PySem.W.fnOf x x pg bg sg dV kV doc pm an cdv ct) [a] []) (Sg : FnScope Ng [a] sg) (hNg : Ng[0]? = some a) (hva : Vis sg a) (hG : LamX.GivesTo X Ng x sg g cdv bg a (X.env.qual ++ "<lambda>") (LamX.TTold X.K CS rt))
    (TB : TabB X.base X.mg c P) (hcode : X.env.code = .ref c) (hmT : (P, X.env.qual ++ "<lambda>") ∈ Γ.T) (hu : ∀ p ∈ Γ.T, p.1 = P → p.2 = X.env.qual ++ "<lambda>") (hr : Room (k + 2) X.A) (L : LamS X.env.scope scope) (hdef : defaultsOf params X.env = ([], []))
    (hbind : ∀ (q : Str) (cl : List (Str × Addr)) (pm cv ctv : Value), bindArgs (PySem.W.kla_fn "<lambda>" q params body scope cl pm cv ctv) ⟨[], []⟩ = pure [])
    (hbody : ∀ (A : Around) (outer : List Env) (s : Shared) (H : Hp) (E : XK) (f c' : Addr), Room k (A.deeper (lamEnv X scope s.heap.objs.size f c')) → PE3 (lamCx X A outer s H E scope f c') Γ (WE3 E) body t)
    (hdb : (x == ("__debug__" : Str)) = false := by decide) (hd : (a == ("__debug__" : Str)) = false := by decide) (hcd : (a == ("__classdict__" : Str)) = false := by decide) :
    PE3 X Γ W (.Call (.Name x p) [.Lambda params body scope lpos] [] pos) (TTold3 X.K CS rt t) :=
  pe_imp (LamX.pe_lamcall hg hm hk lk hcg hb Sg hNg hva hG TB hcode hmT hu hr L hdef hbind hbody hdb hd hcd) fun σ H Q hw => by
    have hw2 := hw
    obtain ⟨δ, G, Q3, E3, R, _⟩ := hw2
    exact ⟨R.hp.tab, fun H1 e T1 => told_sound hw e T1⟩
end

/-! ### lambdas that capture nothing, as values -/
/-- the function object of such a lambda -/
def LamO (q : Str) (params : Arguments) (body : Expr) (scope : Scope) (f c : Addr) : HO := .ext fun h => ∃ pm ctv, h.get? f = some (PySem.W.kla_obj "<lambda>" q params body scope [] pm c ctv)
section
variable {X : Cx} {pins : List (Addr × Obj)} {σ : L2.St} {H : Hp} {s : Shared}
theorem lamO_ok {P : Program} {w : World} {q : Str} {params : Arguments} {body : Expr} {scope : Scope} {f c : Addr} {pm ctv : Value} {H : Hp} {h : Heap} (e : h.get? f = some (PySem.W.kla_obj "<lambda>" q params body scope [] pm c ctv)) : ObjOk P w H h f (LamO q params body scope f c) :=
  ⟨⟨pm, ctv, e⟩, ⟨_, e⟩, fun _ _ ⟨pm, ctv, e⟩ st => ⟨pm, ctv, st _ e⟩⟩
/-- the lambda is made and tracked -/
theorem lam_new {T : List (Addr × Str)} {c P : Addr} {params : Arguments} {body : Expr} {scope : Scope} {pos : Pos} {q : Str} {E : Value → Shared → Prop} {Q : Value → Shared → Prop} (I : Inv X pins σ H s) (TB : TabB X.base X.mg c P) (hcode : X.env.code = .ref c)
    (hq : X.env.qual ++ "<lambda>" = q) (hm : (P, q) ∈ T) (hu : ∀ p ∈ T, p.1 = P → p.2 = q) (hT : Tabs T H) (hdef : defaultsOf params X.env = ([], [])) (hfree : ∀ y ∈ scope.names, y.2 ≠ .free) (hcl : ∀ cells, cloFrom cells scope.names [] = [])
    (h : ∀ (f c' : Addr) (H1 : Hp) (s' : Shared), ExtN H H1 → Tabs T H1 → H1 f = none → H1 c' = some (CodeO c' q) → Inv X pins σ (upd H1 f (LamO q params body scope f c')) s' → Q (.ref f) s') :
    wpAny (model X.prog X.w) X.A (eval (.Lambda params body scope pos) X.env) Q E s := by
  subst hq
  have none_free : ∀ y ∈ scope.names, y.2 = .free → ∃ c, X.env.cells.lookup y.1 = some c := fun y hy e => absurd e (hfree y hy)
  have hclo := closure_ok (env := X.env) none_free
  rw [hcl] at hclo
  obtain ⟨ps, tP, tri, told⟩ := hT _ hm
  have bP := TB.bm.keeps I.bk
  have oP : s.heap.get? P = some { cls := .none, data := .fields ps } := I.hok P _ tP
  have glob := I.mod.glob.keeps I.bk
  have cod := TB.code.keeps I.bk
  refine PySem.W.kla_eval hdef ?_
  cases hc : codeAmong pos ps.toList with
  | some cv =>
    obtain ⟨c', rfl, hco⟩ := told pos cv hc
    refine PySem.W.kla_makeFunctionHit (mg := X.mg) hclo I.ok.glob glob hcode cod oP tri hc bP fun ctv h' tk keep size => ?_
    have I0 : Inv X pins σ H { s with heap := h', toks := tk } := I.kept keep
    exact h _ c' H _ (ExtN.refl H) hT (I.hok.fresh size) hco (I0.laid (t' := tk) (fun b u e => Heap.get?_push_of_some _ e) (Nat.le_refl _) (lamO_ok (Heap.get?_push_size _ rfl)))
  | none =>
    refine PySem.W.kla_makeFunction (mg := X.mg) hclo I.ok.glob glob hcode cod oP tri hc TB.gP bP fun c' ctv h' tk keep ge lt rec tab => ?_
    obtain ⟨c2, oc, vs, t, e2, o2, d2, v2⟩ := rec
    cases e2
    have nC : H c' = none := I.hok.fresh ge
    have size : s.heap.objs.size ≤ h'.objs.size := Nat.le_trans ge (Nat.le_of_lt lt)
    have nPc : P ≠ c' := ne_of_none tP nC
    have I0 := LamX.inv_table (t' := tk) (q := X.env.qual ++ "<lambda>") (more := #[rawInt pos.line, rawInt pos.col, .ref c']) I tP keep tab ge ⟨oc, vs, t, o2, d2, v2⟩
    have list : (ps ++ #[rawInt pos.line, rawInt pos.col, .ref c']).toList = ps.toList ++ [rawInt pos.line, rawInt pos.col, .ref c'] := by simp
    have eN : ExtN H (upd (upd H P (.tbl (ps ++ #[rawInt pos.line, rawInt pos.col, .ref c']))) c' (CodeO c' (X.env.qual ++ "<lambda>"))) := fun b o e n => by
      have b1 : b ≠ c' := ne_of_none e nC
      have b2 : b ≠ P := fun z => by
        subst z
        rw [tP] at e
        exact n ps (Option.some.inj e).symm
      rw [upd_ne b1, upd_ne b2]
      exact e
    have T1 : Tabs T (upd (upd H P (.tbl (ps ++ #[rawInt pos.line, rawInt pos.col, .ref c']))) c' (CodeO c' (X.env.qual ++ "<lambda>"))) := fun p hp => by
      by_cases hb : p.1 = P
      · rw [hu p hp hb, hb]
        refine ⟨_, (upd_ne nPc).trans upd_same, list ▸ PySem.TriplesOk_snoc _ _ _ _ tri, fun p' cv hcv => ?_⟩
        rw [list] at hcv
        rcases LamX.among_app _ tri hcv with z | z
        · obtain ⟨c0, r1, r2⟩ := told p' cv z
          exact ⟨c0, r1, eN _ _ r2 LamX.codeO_ne⟩
        · exact ⟨c', z, upd_same⟩
      · obtain ⟨qs, r1, r2, r3⟩ := hT p hp
        refine ⟨qs, (upd_ne (ne_of_none r1 nC)).trans ((upd_ne hb).trans r1), r2, fun p' cv hcv => ?_⟩
        obtain ⟨c0, r4, r5⟩ := r3 p' cv hcv
        exact ⟨c0, r4, eN _ _ r5 LamX.codeO_ne⟩
    have nf : upd (upd H P (.tbl (ps ++ #[rawInt pos.line, rawInt pos.col, .ref c']))) c' (CodeO c' (X.env.qual ++ "<lambda>")) h'.objs.size = none := I0.hok.fresh (Nat.le_refl _)
    exact h _ c' _ _ eN T1 nf upd_same (I0.laid (t' := tk) (fun b u e => Heap.get?_push_of_some _ e) (Nat.le_refl _) (lamO_ok (Heap.get?_push_size _ rfl)))
end
/-- nothing of its own, nothing captured -/
structure ClosedS (scope : Scope) : Prop where
  kind : scope.kind = .function
  co : scope.isCoroutine = false
  gen : scope.isGenerator = false
  glob : ∀ y ∈ scope.names, y.2 ≠ .local ∧ y.2 ≠ .cell ∧ y.2 ≠ .free
  clo : ∀ cells, cloFrom cells scope.names [] = []
abbrev lamEnv0 (q : Str) (scope : Scope) (L f c' : Addr) : Env := PySem.W.envX q scope L f (.ref c') []
/-- the context of its body -/
def lamCx0 (X : Cx) (A : Around) (outer : List Env) (s : Shared) (H : Hp) (E : XK) (q : Str) (scope : Scope) (f c' : Addr) : Cx :=
  { prog := X.prog, w := X.w, K := X.K, mg := X.mg, base := X.base, A := A.deeper (lamEnv0 q scope s.heap.objs.size f c'), N := [], s_0 := s, H_0 := H, env := lamEnv0 q scope s.heap.objs.size f c', outer := outer, stack := lamEnv0 q scope s.heap.objs.size f c' :: outer, ex := [], fn := fun _ => false, calm := true, pn := [],
    xe := fun e s' => wpAny (model X.prog X.w) (A.deeper (lamEnv0 q scope s.heap.objs.size f c')) (leaving (lamEnv0 q scope s.heap.objs.size f c') e) (fun _ s'' => L2.CX X.prog X.w outer H s E e s'') (fun e' s'' => L2.CX X.prog X.w outer H s E e' s'') s' }
section
variable {X : Cx}
theorem lam_start0 {A : Around} {outer : List Env} {E : XK} {q : Str} {scope : Scope} {f c' : Addr} {h1 : Heap} {tk : Nat} {s1 : Shared} {HZ : Hp} (L : ClosedS scope) (e0 : Env0 X.prog X.w X.K X.mg X.base A outer s1 HZ) (hd : A.handled = none)
    (hns : h1.Ns s1.heap.objs.size fun y => ([] : List (Str × Value)).reverse.lookup y) (kp : ∀ b o, s1.heap.get? b = some o → h1.get? b = some o) : Inv (lamCx0 X A outer s1 HZ E q scope f c') [] [] HZ { s1 with heap := h1, toks := tk } := by
  have no : ∀ b : Addr, b ∉ (lamCx0 X A outer s1 HZ E q scope f c').ex := fun b z => nomatch (show b ∈ ([] : List Addr) from z)
  have noC : ∀ {y c}, (lamCx0 X A outer s1 HZ E q scope f c').env.cells.lookup y = some c → False := fun e => nomatch (show ([] : List (Str × Addr)).lookup _ = some _ from e)
  refine ⟨⟨e0.mod, L.kind, rfl, rfl, Nat.le_refl _, fun y z c e1 _ => (noC e1).elim, fun y hy => ?_, fun y c z _ => (nomatch (show false = true from z)), fun _ => hd, Around.frames_deeper e0.frames, .inr ⟨rfl, rfl⟩, fun b z => absurd z (no b), e0.bs, e0.bsz, fun b _ _ => no b,
      fun b z => absurd z (no b), e0.funs, e0.frf⟩, rfl, e0.bare, Un.kept kp, ⟨_, hns, fun i y v e1 _ _ => by simp [lamCx0] at e1⟩, fun y c e => (noC e).elim, e0.hok.fresh (Nat.le_refl _), fun y c e => (noC e).elim, fun p hp => (nomatch (show p ∈ ([] : List (Addr × Obj)) from hp)), e0.hok.kept kp, rfl⟩
  have hy : scope.names.lookup y = some .cell ∨ scope.names.lookup y = some .free := hy
  rcases hy with hy | hy
  · exact absurd rfl (L.glob _ (PySem.mem_of_lookup hy)).2.1
  · exact absurd rfl (L.glob _ (PySem.mem_of_lookup hy)).2.2
theorem pe_act0 {CXg : CXT} {Eg : XK} {Ng : List Str} {qg : Str} {sg : Scope} {g f c' : Addr} {cdg : Value} {params : Arguments} {body : Expr} {scope : Scope} {q : Str} {k i : Nat} {a : Str} {pn : List (Addr × Obj)} {xe : Value → Shared → Prop} {W : WX} {E : XK} {tb : TE} {p1 p2 : Pos} {s : Shared} {H : Hp}
    (L : ClosedS scope) (hbind : ∀ (pm cv ctv : Value), bindArgs (PySem.W.kla_fn "<lambda>" q params body scope [] pm cv ctv) ⟨[], []⟩ = pure [])
    (tk : Takes ((cxOf CXg X.prog X.w X.K X.mg X.base Ng qg sg g cdg X.A X.stack s H Eg).tr pn xe) W) (hW : ∀ cls d σ' H', E cls d H' → W cls d σ' H') (hr : Room (k + 1) (X.A.deeper (envOfC qg sg s.heap.objs.size g cdg)))
    (hbody : ∀ (A : Around) (outer : List Env) (s : Shared) (H : Hp), Room k (A.deeper (lamEnv0 q scope s.heap.objs.size f c')) → PE (lamCx0 X A outer s H E q scope f c') body tb)
    (hN : Ng[i]? = some a) (hv : Vis sg a) (hd : (a == ("__debug__" : Str)) = false := by decide) (hcd : (a == ("__classdict__" : Str)) = false := by decide) :
    PE ((cxOf CXg X.prog X.w X.K X.mg X.base Ng qg sg g cdg X.A X.stack s H Eg).tr pn xe) (.Call (.Name a p1) [] [] p2)
      (fun σZ HZ Q => σZ[i]? = some (some (.ref f)) ∧ HZ c' = some (CodeO c' q) ∧ HZ f = some (LamO q params body scope f c') ∧ tb [] HZ Q) := by
  refine ⟨fun pins sZ σZ HZ Q IZ ⟨hs, hc, hf, ht⟩ => ?_⟩
  have var := (pe_var (pos := p1) (i := i) hN hv hd hcd).run pins sZ σZ HZ (fun v H1 => v = .ref f ∧ H1 = HZ) IZ ⟨.ref f, hs, rfl, rfl⟩
  refine wpAny_Call_Name_kw (thn var fun u s1 ⟨v, H1, I1, r1, ev, eH⟩ => ?_)
  subst ev
  subst eH
  obtain rfl : u = Value.ref f := r1
  obtain ⟨⟨pm, ctv, of1⟩, _, _⟩ := I1.hok f _ hf
  obtain ⟨⟨oc, vs, t, hoc, hdc, hvc⟩, _, _⟩ := I1.hok c' _ hc
  refine PySem.W.callWith_F0 ⟨_, _, _, _, of1⟩ ?_
  have run : codeAny (model X.prog X.w) (X.A.deeper (envOfC qg sg s.heap.objs.size g cdg)) (.call (.ref f) ⟨[], []⟩) (CR (L2.CX X.prog X.w) (envOfC qg sg s.heap.objs.size g cdg :: X.stack) X.prog X.w H1 s1 Q E) s1 := by
    refine PySem.W.kla_callFunE hr.depth of1 rfl L.co L.gen rfl ⟨c', oc, vs, t, rfl, hoc, hdc, hvc⟩ ?_
    rw [hbind]
    refine wpAny_pure (wpAny_newFunctionEnv (fun y hy => (L.glob y hy).2.1) (fun y hy => (nomatch (show y ∈ ([] : List (Str × Value)) from hy))) (fun h1 hns hsb => ⟨I1.nolimit.fresh _ hsb, ?_⟩) L.kind)
    have kp : ∀ b o, s1.heap.get? b = some o → h1.get? b = some o := fun b o e => hsb.extBut b o (Nat.ne_of_lt (Heap.lt_size e)) (Heap.get?_push_of_some _ e)
    have J : Inv (lamCx0 X (X.A.deeper (envOfC qg sg s.heap.objs.size g cdg)) (envOfC qg sg s.heap.objs.size g cdg :: X.stack) s1 H1 E q scope f c') [] [] H1 { s1 with heap := h1, toks := s1.toks + ([] : List (Str × Value)).length } :=
      lam_start0 L I1.env0 hr.hd hns kp
    refine PySem.W.kla_codeExpr (env := lamEnv0 q scope s1.heap.objs.size f c') (wpAny_mono ((hbody _ _ s1 H1 (hr.deeper _)).run [] _ _ H1 Q J ht) (fun v s' hq => ?_) fun e s' hq => hq)
    obtain ⟨w', H', J', rv, qq⟩ := hq
    exact ⟨w', H', J'.os, J'.bare, J'.base, J'.hok, rv, qq⟩
  refine wpAny_call (codeAny_mono run fun r s' hq => ?_)
  match r, hq with
  | .error e, hq => exact passes_call tk hW pins σZ H1 s1 e s' I1 hq
  | .ok (.ret u), hq => exact I1.after hq
  | .ok .next, hq => exact False.elim hq
  | .ok .brk, hq => exact False.elim hq
  | .ok .cont, hq => exact False.elim hq
end

/-! ### told(f), f such a lambda -/
/-- what is known of the i-th lambda -/
structure LamI where
  params : Arguments
  body : Expr
  scope : Scope
def Gm.is (Γ : Gm) (i : Nat) (l : LamI) : Prop := ∀ f c, Γ.clo i f c = LamO (Γ.cq i) l.params l.body l.scope f c
def TToldV (K : PySem.W.Frag) (CS : Addr) (rt : Str) (te : TE3) (ts : List TE3) : TE3 := fun δ G Q E => te δ G (fun d G1 => match d with
  | .clo i => (match ts[i]? with
    | some t => t [] G1 Q (fun cls G' => PySem.W.exmOne K cls (.ref CS) = some true ∧ Q (.str rt) G')
    | none => False)
  | _ => False) E
def TClo (i : Nat) : TE3 := fun _ G Q _ => Q (.clo i) G
section
variable {X : Cx} {Γ : Gm} {W : WX}
theorem pe3_clo {i : Nat} {l : LamI} {c P : Addr} {pos : Pos} (hi : Γ.is i l) (TB : TabB X.base X.mg c P) (hcode : X.env.code = .ref c) (hq : X.env.qual ++ "<lambda>" = Γ.cq i) (hm : (P, Γ.cq i) ∈ Γ.T) (hu : ∀ p ∈ Γ.T, p.1 = P → p.2 = Γ.cq i) (hdef : defaultsOf l.params X.env = ([], [])) (L : ClosedS l.scope) :
    PE3 X Γ W (.Lambda l.params l.body l.scope pos) (TClo i) := by
  refine ⟨fun pins s σ H Q I hw => ?_⟩
  obtain ⟨δ, G, Q3, E3, R, h, k, ke⟩ := hw
  refine lam_new I TB hcode hq hm hu R.hp.tab hdef (fun y hy => (L.glob y hy).2.2) L.clo fun f c' H1 s' e T1 nf hc I1 => ?_
  have s1 := Step.ext R.hp e
  have hp1 := R.hp.ext e T1
  have s2 : Step X.K H1 G (upd H1 f (LamO (Γ.cq i) l.params l.body l.scope f c')) G := Step.new nf
  have hp2 : HpR X.K Γ (upd H1 f (LamO (Γ.cq i) l.params l.body l.scope f c')) G := hp1.new nf
  have nc : G c' = none := by
    cases g : G c' with
    | none => rfl
    | some o =>
      exfalso
      have q := hp1.own c' o g
      cases o with
      | lst ds => obtain ⟨_, q, _⟩ := q; rw [hc] at q; exact nomatch (Option.some.inj q)
      | dK ds => obtain ⟨_, q, _⟩ := q; rw [hc] at q; exact nomatch (Option.some.inj q)
      | dT ds => obtain ⟨_, q, _⟩ := q; rw [hc] at q; exact nomatch (Option.some.inj q)
      | ins C ds => obtain ⟨_, _, q, _⟩ := q; rw [hc] at q; exact nomatch (Option.some.inj q)
      | lkK ds => obtain ⟨_, _, q, _⟩ := q; rw [hc] at q; exact nomatch (Option.some.inj q)
      | lkT ds => obtain ⟨_, _, q, _⟩ := q; rw [hc] at q; exact nomatch (Option.some.inj q)
      | hid => obtain ⟨_, q, _, n⟩ := q; rw [hc] at q; cases q; exact n _ rfl
  refine ⟨.ref f, _, I1, rfl, k (.clo i) (.ref f) G _ (s1.trans s2) hp2 ⟨f, c', rfl, own_none hp1 nf, nc, ?_, ?_, ?_⟩ h⟩
  · rw [hi f c']
    exact upd_same
  · rw [upd_ne (ne_of_none hc nf)]
    exact hc
  · rw [hi f c']
    exact ⟨_, rfl⟩
theorem pe3_toldV {x a : Str} {g CS : Addr} {k : Nat} {pg : Arguments} {bg : List Stmt} {sg : Scope} {dV kV doc pm cdv ct oc : Value} {an od : Option Addr} {osl : Array (Option Value)} {Ng : List Str} {e : Expr} {te : TE3} {ts : List TE3} {p pos : Pos} {rt : Str}
    (hg : Gl X x) (hm : X.mg x = some (.ref g)) (hk : PySem.W.keepIn X.K (.ref g) = true) (lk : X.K.lookup g = some ⟨oc, od, .func (PySem.W.fnOf x x pg bg sg dV kV doc pm an cdv ct), osl⟩) (hcg : PySem.W.codeIn X.K cdv x = true)
    (hb : L2.Binds X.K (PySem.W.fnOf x x pg bg sg dV kV doc pm an cdv ct) [a] []) (Sg : FnScope Ng [a] sg) (hNg : Ng[0]? = some a) (hva : Vis sg a) (hG : ∀ q, LamX.GivesTo X Ng x sg g cdv bg a q (LamX.TTold X.K CS rt)) (hr : Room (k + 2) X.A) (he : PE3 X Γ W e te)
    (hts : ∀ i t, ts[i]? = some t → ∃ l : LamI, Γ.is i l ∧ ClosedS l.scope ∧ (∀ (pm cv ctv : Value), bindArgs (PySem.W.kla_fn "<lambda>" (Γ.cq i) l.params l.body l.scope [] pm cv ctv) ⟨[], []⟩ = pure []) ∧
      ∀ (A : Around) (outer : List Env) (s : Shared) (H : Hp) (E : XK) (f c' : Addr), Room k (A.deeper (lamEnv0 (Γ.cq i) l.scope s.heap.objs.size f c')) → PE3 (lamCx0 X A outer s H E (Γ.cq i) l.scope f c') Γ (WE3 E) l.body t)
    (hs : starEach [e] X.env = [(false, eval e X.env)] := by rfl) (hdb : (x == ("__debug__" : Str)) = false := by decide) (hd : (a == ("__debug__" : Str)) = false := by decide) (hcd : (a == ("__classdict__" : Str)) = false := by decide) :
    PE3 X Γ W (.Call (.Name x p) [e] [] pos) (TToldV X.K CS rt te ts) := by
  refine ⟨fun pins s σ H Q I hw => ?_⟩
  obtain ⟨δ, G, Q3, E3, R, h, k0, ke⟩ := hw
  refine wpAny_Call_Name_kw (ld_glob I hg hm ?_ hdb)
  refine PySem.W.callWith_K (h₀ := X.base) I.ok.mod.kin hk ?_ hs (by rfl)
  show wpAny _ _ (spliced (backTo pos (starEach [e] X.env))) _ _ s
  rw [hs]
  refine Calls.spliced_cons (thn (he.run pins s σ H (fun v H1 => ∃ G1 i f c', v = V.ref f ∧ HpR X.K Γ H1 G1 ∧ Step X.K H G H1 G1 ∧ H1 f = some (Γ.clo i f c') ∧ H1 c' = some (CodeO c' (Γ.cq i)) ∧
    ∃ t, ts[i]? = some t ∧ t [] (vis G1) Q3 (fun cls G' => PySem.W.exmOne X.K cls (.ref CS) = some true ∧ Q3 (.str rt) G')) I ⟨δ, G, _, E3, R, h, fun d v G1 H1 s1 hp1 dv q => ?_, ke⟩) fun u s1 ⟨v, H1, I1, rv, G1, i, f, c', ev, hp1, st1, hf, hc, t, ht, q⟩ => ?_)
  · split at q
    · split at q
      · rename_i ht
        obtain ⟨f, c', rfl, n1, n2, e1, e2, _⟩ := dv
        exact ⟨G1, _, f, c', rfl, hp1, s1, e1, e2, _, ht, q⟩
      · exact q.elim
    · exact q.elim
  subst ev
  obtain rfl : u = Value.ref f := rv
  refine Calls.spliced_nil ⟨I1.kIn, ?_⟩
  obtain ⟨l, is, L, hbind, hbody⟩ := hts i t ht
  rw [is] at hf
  have rc : codeAny (model X.prog X.w) X.A (.call (.ref g) ⟨[.ref f], []⟩) (CR C8.CX0 X.stack X.prog X.w H1 s1 Q C8.E0) s1 := by
    refine LamX.run_ofS (N := Ng) (ps := [a]) (us := [.ref f]) (vs := [.ref f]) lk hcg Sg hr I1.env0 (hb s1 [.ref f] I1.kIn rfl) (.cons rfl .nil) rfl fun hr' => ?_
    obtain ⟨t', ht', hq'⟩ := hG (Γ.cq i) f c' s1 H1 Q (fun E H' Q' => H' f = some (LamO (Γ.cq i) l.params l.body l.scope f c') ∧ lift X.K Γ (WE3 E) t [] H' Q')
      (fun W' pn xe E p1 p2 tk hW => pe_imp (pe_act0 (i := 0) L hbind tk hW hr' (fun A outer s H hr2 => hbody A outer s H E f c' hr2) hNg hva hd hcd) fun σZ HZ Q' ⟨z1, z2, z3, z4⟩ => ⟨z1, z2, z3, z4⟩) hc
      ⟨hf, [], G1, Q3, _, ⟨rfl, fun i d e => by simp at e, hp1⟩, q, fun d v G' H' s' => k0 d v G' H' (st1.trans s'), fun cls G' H' s' hp' ⟨e1, q⟩ => ⟨true, e1, fun _ => k0 (.str rt) _ G' H' (st1.trans s') hp' rfl q, fun z => nomatch z⟩⟩
    exact ⟨t', ht'.nox, hq'⟩
  refine wpAny_call (codeAny_mono rc fun r s2 hq => ?_)
  match r, hq with
  | .error e, hq => exact (show False from hq).elim
  | .ok (.ret u), hq => exact I1.after hq
  | .ok .next, hq => exact False.elim hq
  | .ok .brk, hq => exact False.elim hq
  | .ok .cont, hq => exact False.elim hq
end
end L3
/-! L3, part m: in of any sequence, op=; what helps the plain proofs. -/
namespace L3
open PySem PySem.Spec PyProof.Rows L2

theorem hu65 {k : Nat} {A : Around} (r : Room k A) : A.units + 65 < cLine := by have := r.un; omega
theorem hu64 {k : Nat} {A : Around} (r : Room k A) : A.units + 64 < cLine := by have := r.un; omega
theorem hu1 {k : Nat} {A : Around} (r : Room k A) : A.units + 1 < cLine := by have := r.un; omega

/-! ### in, not in -/
section
variable {K : PySem.W.Frag} {Γ : Gm} {H : Hp} {G : Gp}
theorem datL_dp {n : Nat} : ∀ {ds : List D} {us : List V}, ds.all (gd n) = true → DatL K Γ H G ds us → DpAll K H us (pyL ds)
  | [], _, _, z => by cases (show _ = _ from z); exact .nil
  | d :: ds, _, g, z => by
    obtain ⟨v, r, rfl, z1, z2⟩ := z
    rw [List.all_cons, Bool.and_eq_true] at g
    exact .cons (dat_dp n d v g.1 z1) (datL_dp g.2 z2)
theorem gd_list {n : Nat} {ds : List D} (g : ds.all (gd n) = true) (hn : n + 1 ≤ 64) : SeqAt.shaped (.list (pyL ds)) = true := gd_shaped (n := n + 1) (d := .lst ds) (by simpa [gd] using g) hn
theorem gd_tuple {n : Nat} {ds : List D} (g : ds.all (gd n) = true) (hn : n + 1 ≤ 64) : SeqAt.shaped (.tuple (pyL ds)) = true := gd_shaped (n := n + 1) (d := .tup ds) (by simpa [gd] using g) hn
end
def rInT (K : PySem.W.Frag) (neg : Bool) : R2 := fun x y H Q => ∃ d ds, Dp K H x d ∧ Dp K H y (.tuple ds) ∧ SeqAt.shaped d = true ∧ SeqAt.shaped (.tuple ds) = true ∧ Q (.bl (if neg then !ds.any fun z => PyData.eqv z d else ds.any fun z => PyData.eqv z d)) H
def inR2 (neg : Bool) : R3 := fun x y G Q => inR neg x y G Q ∨ ∃ ds, seqD G y = some ds ∧ gd 60 x = true ∧ ds.all (gd 59) = true ∧ y ≠ .nod .tuK ds ∧ Q (.bl (if neg then !inB x ds else inB x ds)) G
section
variable {X : Cx} {Γ : Gm}
theorem op_inT (hu : X.A.units + 65 < cLine) : OpR X (compareOp .In) (rInT X.K false) := by
  intro pins s σ H x y v u Q I rx ry ⟨d, ds, hd, he, sd, se, q⟩
  obtain ⟨as, r1⟩ := Dp.reads I d x v hd rx
  obtain ⟨bs, r2⟩ := Dp.reads I (.tuple ds) y u he ry
  exact SeqAt.in_tuple_reads r2 r1 (SeqAt.canLay_of_shaped se) (SeqAt.canLay_of_shaped sd) (room_in_shaped sd hu) ⟨.bl _, H, I, rfl, q⟩
theorem op_notInT (hu : X.A.units + 65 < cLine) : OpR X (compareOp .NotIn) (rInT X.K true) := by
  intro pins s σ H x y v u Q I rx ry ⟨d, ds, hd, he, sd, se, q⟩
  obtain ⟨as, r1⟩ := Dp.reads I d x v hd rx
  obtain ⟨bs, r2⟩ := Dp.reads I (.tuple ds) y u he ry
  exact SeqAt.notIn_tuple_reads r2 r1 (SeqAt.canLay_of_shaped se) (SeqAt.canLay_of_shaped sd) (room_in_shaped sd hu) ⟨.bl _, H, I, rfl, q⟩
theorem pyL_any {x : D} : ∀ ds : List D, (pyL ds).any (fun z => PyData.eqv z (py x)) = inB x ds := fun ds => by
  rw [pyL_map]
  unfold inB eq3
  rw [List.any_map] <;> rfl
theorem in2_sound {neg : Bool} {x y : D} {v u : V} {H : Hp} {G : Gp} {Q3 : K3} {Q : VK} (R : HpR X.K Γ H G) (hx : Dat X.K Γ H G x v) (hy : Dat X.K Γ H G y u)
    (h : ∃ ds, seqD (vis G) y = some ds ∧ gd 60 x = true ∧ ds.all (gd 59) = true ∧ y ≠ .nod .tuK ds ∧ Q3 (.bl (if neg then !inB x ds else inB x ds)) (vis G)) (k : ∀ d w G' H', Step X.K H G H' G' → HpR X.K Γ H' G' → Dat X.K Γ H' G' d w → Q3 d (vis G') → Q w H') :
    (∃ d ds, Dp X.K H v d ∧ Dp X.K H u (.list ds) ∧ SeqAt.shaped d = true ∧ SeqAt.shaped (.list ds) = true ∧ Q (.bl (if neg then !ds.any fun z => PyData.eqv z d else ds.any fun z => PyData.eqv z d)) H) ∨ rInT X.K neg v u H Q := by
  obtain ⟨ds, e, gx, gy, _, q⟩ := h
  obtain ⟨p, vs, rfl, hs, l⟩ := seqD_at R e hy
  rcases hs with ⟨_, hs⟩ | ⟨_, hs⟩
  · exact .inl ⟨py x, pyL ds, dat_dp 60 x v gx hx, .lst hs (datL_dp gy l), gd_shaped gx, gd_list gy (by decide), ret k R q (by rw [pyL_any] <;> rfl)⟩
  · exact .inr ⟨py x, pyL ds, dat_dp 60 x v gx hx, .tup hs (datL_dp gy l), gd_shaped gx, gd_tuple gy (by decide), ret k R q (by rw [pyL_any] <;> rfl)⟩
abbrev rIn4 (K : PySem.W.Frag) : R2 := fun x y H Q => (rInAll K false (rInD K) fun x y H Q => ∃ (c : Nat) (z : Str), x = .str ⟨#[c]⟩ ∧ y = .str z ∧ Q (.bl (decide (c ∈ z.cps.toList))) H) x y H Q ∨ rInT K false x y H Q
abbrev rNotIn4 (K : PySem.W.Frag) : R2 := fun x y H Q => (rInAll K true (rNotInD K) fun x y H Q => ∃ (c : Nat) (z : Str), x = .str ⟨#[c]⟩ ∧ y = .str z ∧ Q (.bl (!decide (c ∈ z.cps.toList))) H) x y H Q ∨ rInT K true x y H Q
theorem op_in4 (hu : X.A.units + 65 < cLine) : OpR X (compareOp .In) (rIn4 X.K) := (op_in3 hu).or (op_inT hu)
theorem op_notIn4 (hu : X.A.units + 65 < cLine) : OpR X (compareOp .NotIn) (rNotIn4 X.K) := (op_notIn3 hu).or (op_notInT hu)
theorem sound_in4 : Sound2 X.K Γ (rIn4 X.K) (inR2 false) := by
  intro x y v u H G Q3 Q R hx hy h k
  rcases h with h | h
  · exact .inl (sound_in3 x y v u H G Q3 Q R hx hy h k)
  · rcases in2_sound R hx hy h k with h | h
    · exact .inl (.inr (.inl h))
    · exact .inr h
theorem sound_notIn4 : Sound2 X.K Γ (rNotIn4 X.K) (inR2 true) := by
  intro x y v u H G Q3 Q R hx hy h k
  rcases h with h | h
  · exact .inl (sound_notIn3 x y v u H G Q3 Q R hx hy h k)
  · rcases in2_sound R hx hy h k with h | h
    · exact .inl (.inr (.inl h))
    · exact .inr h
end

/-! ### name op= e -/
@[simp] def TAug (i : Nat) (r : R3) (t : TE3) : TS3 := fun D3 δ G => match slot δ i with
  | some x => t δ G (fun y G1 => r x y G1 fun z G2 => D3.nx (δ.set i (some z)) G2) (fun cls G1 => D3.ex cls δ G1)
  | none => False
section
variable {X : Cx} {Γ : Gm} {W : WX} {e : Expr} {pos pos' : Pos} {t : TE3}
theorem ps3_aug {i : Nat} {x : Str} {op : Operator} {r : R2} {r3 : R3} (hN : X.N.Nodup) (hi : X.N[i]? = some x) (hx : Loc X.env.scope x) (ho : OpR X (inplaceOp op) r) (hs : Sound2 X.K Γ r r3) (he : PE3 X Γ W e t)
    (hf : X.fn x = true ∨ X.env.scope.names.lookup x = some .local := by first | exact .inl rfl | exact .inr rfl | assumption) : PS3 X Γ W (.AugAssign (.Name x pos') op e pos) (TAug i r3 t) := by
  refine ps_imp (ps_aug (ti := r) hN hi hx he (fun pins s σ H x y v u Q I rx ry h => ho pins s σ H x y v u Q I rx ry h) hf) fun D' σ H hw => ?_
  obtain ⟨δ, G, D3, R, h, k⟩ := hw
  unfold TAug at h
  split at h
  · rename_i d e
    obtain ⟨v, h1, h2⟩ := R.get i d (slot_get e)
    refine ⟨v, h1, δ, G, _, _, R, h, fun y w G1 H1 s1 hp1 dy q => ?_, fun cls G' H' s hp q => k.ex cls δ G' σ H' s (R.mono s hp) q⟩
    exact hs d y v w H1 G1 _ _ hp1 (h2.mono s1) dy q fun z zv G2 H2 s2 hp2 dz q => k.nx _ G2 _ H2 (s1.trans s2) ((R.mono (s1.trans s2) hp2).set dz) q
  · exact h.elim
abbrev rIadd2 : R2 := fun x y H Q => rI0 (fun i j => .int (i + j)) x y H Q ∨ ∃ i j, x = .str i ∧ y = .str j ∧ i.length + j.length ≤ sizeLine ∧ Q (.str (i ++ j)) H
theorem iop_add2 : OpR X (inplaceOp .Add) rIadd2 := iop_add.or iop_add_str
@[simp] def iaddR : R3 := fun x y G Q => match x, y with
  | .int i, .int j => Q (.int (i + j)) G
  | .str s, .str t => s.length + t.length ≤ sizeLine ∧ Q (.str (s ++ t)) G
  | _, _ => False
theorem sound_iadd : Sound2 X.K Γ rIadd2 iaddR := by
  intro x y v u H G Q3 Q R hx hy h k
  unfold iaddR at h
  split at h
  · exact .inl ⟨_, _, hx, hy, ret k R h rfl⟩
  · exact .inr ⟨_, _, hx, hy, h.1, ret k R h.2 rfl⟩
  · exact h.elim
theorem sound_isub : Sound2 X.K Γ (rI0 fun i j => .int (i - j)) subR := sound_ii0 fun _ _ _ _ => rfl
theorem sound_ifdiv : Sound2 X.K Γ (rI CDiv fun i j => .int (i / j)) fdivR := sound_ii fun _ _ _ _ => rfl
end

/-! ### plain proofs: walks -/
/-- one turn of a comprehension that changes nothing: is the item taken, what is made of it -/
def LcStep (δ0 : St3) (g : TG3) (tt : TT3) (te : TE3) (G : Gp) (x : D) (p : Bool) (y : D) : Prop :=
  ∀ (K1 : D → Gp → Prop) (K2 : Gp → Prop), (p = true → K1 y G) → (p = false → K2 G) → g x δ0 G (fun δ2 G2 => tt δ2 G2 (fun b G3 => if b = true then te δ2 G3 K1 X0 else K2 G3) X0) X0
theorem lcRun {δ0 : St3} {g : TG3} {tt : TT3} {te : TE3} {G : Gp} {k : List D → Gp → Prop} (p : D → Bool) (y : D → D) : ∀ (xs acc : List D), (∀ x ∈ xs, LcStep δ0 g tt te G x (p x) (y x)) → acc.length + xs.length ≤ sizeLine → k (acc ++ (xs.filter p).map y) G → LcRun δ0 g tt te xs acc G k
  | [], acc, _, _, h => by simpa [LcRun] using h
  | x :: xs, acc, hs, hl, h => by
    have hl' : acc.length + xs.length + 1 ≤ sizeLine := by simpa [Nat.add_assoc] using hl
    refine hs x (List.mem_cons_self ..) _ _ (fun hp => ⟨by omega, ?_⟩) (fun hp => ?_)
    · refine lcRun p y xs (acc ++ [y x]) (fun x' hx => hs x' (List.mem_cons_of_mem _ hx)) (by simp; omega) ?_
      simpa [List.filter_cons, hp] using h
    · refine lcRun p y xs acc (fun x' hx => hs x' (List.mem_cons_of_mem _ hx)) (by omega) ?_
      simpa [List.filter_cons, hp] using h
def DcStep (δ0 : St3) (g : TG3) (tt : TT3) (tk te : TE3) (G : Gp) (x : D) (p : Bool) (ky : Key) (z : D) : Prop :=
  ∀ (K1 : D → Gp → Prop) (K2 : Gp → Prop), (p = true → K1 z G) → (p = false → K2 G) → g x δ0 G (fun δ2 G2 => tt δ2 G2 (fun b G3 => if b = true then tk δ2 G3 (fun y G4 => ∃ k, y = keyD k ∧ te δ2 G4 (fun z G5 => (k = ky → K1 z G5) ∧ k = ky) X0) X0 else K2 G3) X0) X0
/-- a for loop: an invariant of what is behind -/
theorem forRun {g : TG3} {tb : TS3} {D3 : Ends3} (I : List D → St3 → Gp → Prop) : ∀ (xs : List D) (δ : St3) (G : Gp), I xs δ G →
    (∀ x r δ G, I (x :: r) δ G → ∀ Nx : St3 → Gp → Prop, (∀ δ' G', I r δ' G' → Nx δ' G') → g x δ G (fun δ2 G2 => tb { D3 with nx := Nx, ct := Nx, bk := D3.nx } δ2 G2) (fun cls G2 => D3.ex cls δ G2)) →
    (∀ δ G, I [] δ G → D3.nx δ G) → ForRun g tb D3 xs δ G
  | [], δ, G, h, _, he => he δ G h
  | x :: xs, δ, G, h, hs, he => hs x xs δ G h _ (fun δ' G' h' => forRun I xs δ' G' h' hs he)
/-- a while loop: an invariant with a measure -/
theorem whileRun {t : TT3} {tb : TS3} {D3 : Ends3} (I : Nat → St3 → Gp → Prop) {m : Nat} {δ : St3} {G : Gp} (h : I m δ G)
    (hs : ∀ m δ G, I m δ G → t δ G (fun b G1 => if b = true then tb { D3 with nx := fun δ' G' => ∃ m', m' < m ∧ I m' δ' G', ct := fun δ' G' => ∃ m', m' < m ∧ I m' δ' G', bk := D3.nx } δ G1 else D3.nx δ G1) (fun cls G1 => D3.ex cls δ G1)) : TWhile t tb D3 δ G := ⟨I, ⟨m, h⟩, hs⟩
end L3
namespace L3
open PySem PySem.Spec PyProof.Rows L2
@[simp] def TDead : TS3 := fun _ _ _ => False
abbrev GC2 (t : TG3) (u : TGs3) : TGs3 := fun ds δ G Q _ => GCons t u ds δ G Q fun _ _ => False
abbrev GI (t : TG3) : TG3 := fun d δ G Q _ => t d δ G Q fun _ _ => False
end L3
/-! L3, part n: what laws share. -/
namespace L3
open PySem PySem.Spec PyProof.Rows L2

/-- what is owned stands, but at these places -/
def Kp (as : List Addr) (G G' : Gp) : Prop := ∀ x g, G x = some g → x ∉ as → G' x = some g
theorem Kp.refl {as : List Addr} {G : Gp} : Kp as G G := fun _ _ h _ => h
theorem Kp.trans {as bs : List Addr} {G G1 G2 : Gp} (a : Kp as G G1) (b : Kp bs G1 G2) (h : ∀ x ∈ bs, x ∈ as) : Kp as G G2 := fun x g e n => b x g (a x g e n) fun z => n (h x z)
theorem Kp.weak {as bs : List Addr} {G G' : Gp} (a : Kp as G G') (h : ∀ x ∈ as, x ∈ bs) : Kp bs G G' := fun x g e n => a x g e fun z => n (h x z)
theorem Kp.set {as : List Addr} {G : Gp} {p : Addr} {o : GO} (h : p ∈ as) : Kp as G (gset G p o) := fun x g e n => by
  rw [gset_ne (fun z => n (by rw [z]; exact h))]; exact e
theorem Kp.new {as : List Addr} {G : Gp} {p : Addr} {o : GO} (h : G p = none) : Kp as G (gset G p o) := fun x g e n => by
  rw [gset_ne (fun z => by rw [z, h] at e; cases e)]; exact e
theorem Kp.at0 {G G' : Gp} (k : Kp [] G G') {x : Addr} {g : GO} (e : G x = some g) : G' x = some g := k x g e (by simp)
theorem gp_ne {G : Gp} {p q : Addr} {g h : GO} (e : G p = some g) (f : G q = some h) (n : g ≠ h) : p ≠ q := fun z => by
  subst z
  rw [e] at f
  exact n (Option.some.inj f)
theorem gp_new {G : Gp} {p q : Addr} {g : GO} (e : G p = some g) (f : G q = none) : p ≠ q := fun z => by
  subst z
  rw [e] at f
  cases f

/-! ### the laws' dice -/
def DiceAt (G : Gp) (p : Addr) : Prop := ∃ x y z : Int, G p = some (.lst [.int x, .int y, .int z])
theorem DiceAt.kp {as : List Addr} {G G' : Gp} {p : Addr} (h : DiceAt G p) (k : Kp as G G') (n : p ∉ as) : DiceAt G' p := let ⟨x, y, z, e⟩ := h; ⟨x, y, z, k _ _ e n⟩
def spDice : Sp3 := fun ds G Q _ => ∃ c : Int, ds = [.int c] ∧ ∀ p G', DiceAt G' p → G p = none → Kp [] G G' → Q (.ref p) G'
def spRoll : Sp3 := fun ds G Q _ => ∃ (p : Addr) (many : Int), ds = [.ref p, .int many] ∧ DiceAt G p ∧ 0 < many ∧ many ≤ 100000000 ∧ ∀ (r : Int) (G' : Gp), 0 ≤ r → r < many → DiceAt G' p → Kp [p] G G' → Q (.int r) G'
def spRounds : Sp3 := fun ds G Q _ => ∃ (ns : List Int) (m : Int), ds = [.nod .ro (ns.map .int), .int m] ∧ ns.length ≤ 63 ∧ ∀ (ps : List Addr) (G' : Gp), ps.Nodup → (∀ p ∈ ps, DiceAt G' p ∧ G p = none) → Kp [] G G' → Q (.lst (ps.map .ref)) G'

/-! ### a def whose code object is known (it makes lambdas) -/
theorem fn3L {P : Program} {w : World} {K : PySem.W.Frag} {mg : Str → Option Value} {base : Heap} {x qual : Str} {st : Stmt} {f : Addr} {fd : FuncData} {N ps : List Str} {k : Nat} {sp3 : Sp3} (Γ : Gm) (F : Fun K x qual st f fd) (S : FnScope N ps (defScope st)) (len : ∀ ds G Q E, sp3 ds G Q E → ds.length = ps.length)
    (body : ∀ (cdv : Value) (A : Around) (outer : List Env) (s : Shared) (H : Hp) (E : XK), fd.code = cdv → Room k (A.deeper (envOfC qual (defScope st) s.heap.objs.size f cdv)) →
      ∃ T : TS3, PSs3 (cxOf (L2.CX P w) P w K mg base N qual (defScope st) f cdv A outer s H E) Γ (WE3 E) (defBody st) T ∧
        ∀ ds G Q3 E3, sp3 ds G Q3 E3 → T { nx := fun _ G' => RetC Q3 .non G', rt := RetC Q3, ex := fun cls _ G' => ExC E3 cls G' } (start3 N ds) G) :
    FnOk P w K mg base (L2.CX P w) (k + 1) f fd ps (liftSp K Γ sp3) := by
  obtain ⟨oc, od, kV, doc, pm, an, cdv, ct, osl, rfl, lk, hcd⟩ := F.ex
  refine fn_of lk hcd S (fun vs H Q E ⟨ds, G, Q3, E3, dl, _, h, _⟩ => ?_) fun A outer s H vs Q E hr ⟨ds, G, Q3, E3, dl, hp, h, kq, ke⟩ => ?_
  · rw [← dl.length]
    exact len _ _ _ _ h
  · obtain ⟨T, hT, hd⟩ := body cdv A outer s H E rfl hr
    have fin : ∀ d v G' H', Step K H G H' G' → HpR K Γ H' G' → Dat K Γ H' G' d v → RetC Q3 d (vis G') → Q v H' := fun d v G' H' s' hp' dv ⟨d', G2, sb, fz, q⟩ =>
      kq d' v (ovl G' G2) H' (s'.let sb) (hp'.sub (sub_ovl sb)) (fz K Γ H' G' v rfl hp' (dv.sub (sub_ovl sb))) (by rw [vis_sub sb]; exact q)
    refine ⟨_, hT, start3 N ds, G, _, Rel.start hp dl, hd ds (vis G) Q3 E3 h, ⟨fun δ' G' σ' H' s' R' q => fin .non .non G' H' s' R'.hp rfl q, fin, fun _ _ _ _ _ _ z => z.elim, fun _ _ _ _ _ _ z => z.elim, fun cls δ' G' σ' H' s' R' q => ?_⟩⟩
    obtain ⟨G2, sb, q⟩ := q
    exact ke cls (ovl G' G2) H' (s'.let sb) (R'.hp.sub (sub_ovl sb)) (by rw [vis_sub sb]; exact q)
/-- told's def, known -/
structure ToldF (K : PySem.W.Frag) (mg : Str → Option Value) (x : Str) (g : Addr) (d : FuncData) (st : Stmt) (e : Str) (CS : Addr) (rt : Str) : Prop where
  u : Fun K x x st g d
  gm : mg x = some (.ref g)
  b : Binds K d ["what"] []
  sc : FnScope ["what"] ["what"] (defScope st)
  body : ∃ (j : Nat) (p1 p2 p3 p4 p5 p6 p7 p8 : Pos), defBody st = [.Try [.Return (some (.Call (.Name "what" p1) [] [] p2)) p3] [.ExceptHandler (some (.Name e p4)) none [.Return (some (.Constant (.str rt) j p5)) p6] p7] [] [] p8]
  ge : (defScope st).names.lookup e = some .globalImplicit
  de : (e == ("__debug__" : Str)) = false
  me : mg e = some (.ref CS)
  loc : (defScope st).names.lookup ("what" : Str) = some .local
section
variable {X : Cx} {Γ : Gm} {W : WX} {x e : Str} {g CS : Addr} {d : FuncData} {st : Stmt} {rt : Str} {k : Nat}
theorem ToldF.told (F : ToldF X.K X.mg x g d st e CS rt) {c P : Addr} {params : Arguments} {body : Expr} {scope : Scope} {t : TE3} {p lpos pos : Pos} (hg : Gl X x) (hdb : (x == ("__debug__" : Str)) = false) (TB : LamX.TabB X.base X.mg c P) (hcode : X.env.code = .ref c) (hmT : (P, X.env.qual ++ "<lambda>") ∈ Γ.T)
    (hu : ∀ p ∈ Γ.T, p.1 = P → p.2 = X.env.qual ++ "<lambda>") (hr : Room (k + 2) X.A) (L : LamX.LamS X.env.scope scope) (hdef : defaultsOf params X.env = ([], []))
    (hbind : ∀ (q : Str) (cl : List (Str × Addr)) (pm cv ctv : Value), bindArgs (PySem.W.kla_fn "<lambda>" q params body scope cl pm cv ctv) ⟨[], []⟩ = pure [])
    (hbody : ∀ (A : Around) (outer : List Env) (s : Shared) (H : Hp) (E : XK) (f c' : Addr), Room k (A.deeper (LamX.lamEnv X scope s.heap.objs.size f c')) → PE3 (LamX.lamCx X A outer s H E scope f c') Γ (WE3 E) body t) :
    PE3 X Γ W (.Call (.Name x p) [.Lambda params body scope lpos] [] pos) (TTold3 X.K CS rt t) := by
  obtain ⟨oc, od, kV, doc, pm, an, cdv, ct, osl, e1, lk, hcd⟩ := F.u.ex
  obtain ⟨j, p1, p2, p3, p4, p5, p6, p7, p8, eb⟩ := F.body
  have hb := F.b
  rw [e1, eb] at lk
  rw [e1, eb] at hb
  exact pe3_told hg F.gm F.u.kp lk hcd hb F.sc rfl (.inl F.loc) (LamX.told_gives F.ge F.me F.de fun _ => rfl) TB hcode hmT hu hr L hdef hbind hbody hdb
theorem ToldF.toldV (F : ToldF X.K X.mg x g d st e CS rt) {ex : Expr} {te : TE3} {ts : List TE3} {p pos : Pos} (hg : Gl X x) (hdb : (x == ("__debug__" : Str)) = false) (hr : Room (k + 2) X.A) (he : PE3 X Γ W ex te)
    (hts : ∀ i t, ts[i]? = some t → ∃ l : LamI, Γ.is i l ∧ ClosedS l.scope ∧ (∀ (pm cv ctv : Value), bindArgs (PySem.W.kla_fn "<lambda>" (Γ.cq i) l.params l.body l.scope [] pm cv ctv) ⟨[], []⟩ = pure []) ∧
      ∀ (A : Around) (outer : List Env) (s : Shared) (H : Hp) (E : XK) (f c' : Addr), Room k (A.deeper (lamEnv0 (Γ.cq i) l.scope s.heap.objs.size f c')) → PE3 (lamCx0 X A outer s H E (Γ.cq i) l.scope f c') Γ (WE3 E) l.body t)
    (hs : starEach [ex] X.env = [(false, eval ex X.env)] := by rfl) : PE3 X Γ W (.Call (.Name x p) [ex] [] pos) (TToldV X.K CS rt te ts) := by
  obtain ⟨oc, od, kV, doc, pm, an, cdv, ct, osl, e1, lk, hcd⟩ := F.u.ex
  obtain ⟨j, p1, p2, p3, p4, p5, p6, p7, p8, eb⟩ := F.body
  have hb := F.b
  rw [e1, eb] at lk
  rw [e1, eb] at hb
  exact pe3_toldV hg F.gm F.u.kp lk hcd hb F.sc rfl (.inl F.loc) (fun q => LamX.told_gives F.ge F.me F.de fun _ => rfl) hr he hts hs hdb
end
end L3
namespace L3
open PySem
/-! where lambdas stand in a text -/
def stV : Stmt → Expr
  | .Assign _ v _ => v
  | .Return (some v) _ => v
  | .If t _ _ _ => t
  | _ => .Constant .none 0 ⟨0, 0, 0, 0⟩
def eltAt : Expr → Nat → Expr
  | .List es _, j => es.getD j (.Constant .none 0 ⟨0, 0, 0, 0⟩)
  | .Tuple es _ _, j => es.getD j (.Constant .none 0 ⟨0, 0, 0, 0⟩)
  | e, _ => e
def binL : Expr → Expr
  | .BinOp a _ _ _ => a
  | e => e
def binR : Expr → Expr
  | .BinOp _ _ b _ => b
  | e => e
def lcIter : Expr → Expr
  | .ListComp _ (g :: _) _ _ => g.iter
  | e => e
def cmpL : Expr → Expr
  | .Compare a _ _ _ => a
  | e => e
def boolAt : Expr → Nat → Expr
  | .BoolOp _ es _, j => es.getD j (.Constant .none 0 ⟨0, 0, 0, 0⟩)
  | e, _ => e
def lamI : Expr → LamI
  | .Lambda p b s _ => ⟨p, b, s⟩
  | e => ⟨{ posonlyargs := [], args := [], vararg := none, kwonlyargs := [], kw_defaults := [], kwarg := none, defaults := [] }, e, { kind := .function, names := [], isGenerator := false, isCoroutine := false }⟩
end L3
/-! L3, part o: readings that simp may run. -/
namespace L3
open PySem PySem.Spec PyProof.Rows L2

@[simp] theorem gset_gset {G : Gp} {p : Addr} {o o' : GO} : gset (gset G p o) p o' = gset G p o' := by
  funext b
  unfold gset
  by_cases e : b = p
  · rw [if_pos e, if_pos e]
  · rw [if_neg e, if_neg e, if_neg e]
@[simp] theorem gset_at {G : Gp} {p : Addr} {o : GO} : gset G p o p = some o := gset_same
@[simp] theorem size0 : 0 ≤ sizeLine := Nat.zero_le _
@[simp] theorem size1 : 1 ≤ sizeLine := by rw [sizeLine_eq]; decide
@[simp] theorem size2 : 2 ≤ sizeLine := by rw [sizeLine_eq]; decide
@[simp] theorem size3 : 3 ≤ sizeLine := by rw [sizeLine_eq]; decide
@[simp] theorem size4 : 4 ≤ sizeLine := by rw [sizeLine_eq]; decide
theorem sizeLe {n m : Nat} (h : n ≤ m) (hm : m ≤ 16777216) : n ≤ sizeLine := by rw [sizeLine_eq]; omega
theorem sizeLt {n m : Nat} (h : n ≤ m) (hm : m < 16777216) : n < sizeLine := by rw [sizeLine_eq]; omega
/-! ### keys -/
@[simp] def keyOf : D → Option Key
  | .int i => some (.inl i)
  | .str s => some (.inr s)
  | _ => none
def keysL : List D → Option (List Key)
  | [] => some []
  | d :: ds => match keyOf d, keysL ds with
    | some k, some ks => some (k :: ks)
    | _, _ => none
@[simp] def keysOf : D → Option (List Key)
  | .nod .tup xs => keysL xs
  | _ => none
theorem keyOf_is {d : D} {k : Key} (h : keyOf d = some k) : d = keyD k := by
  cases d <;> first | (cases h; done) | skip
  all_goals (cases h; rfl)
theorem keysL_is : ∀ {ds : List D} {ks : List Key}, keysL ds = some ks → ds = ks.map keyD
  | [], _, h => by cases h; rfl
  | d :: ds, _, h => by
    unfold keysL at h
    split at h
    · rename_i e1 e2
      cases h
      rw [keyOf_is e1, keysL_is e2] <;> rfl
    · cases h
theorem keysOf_is {d : D} {ks : List Key} (h : keysOf d = some ks) : d = keysD ks := by
  unfold keysOf at h
  split at h
  · rw [keysL_is h] <;> rfl
  · cases h
@[simp] theorem keyOf_keyD (k : Key) : keyOf (keyD k) = some k := by cases k <;> rfl
@[simp] theorem keysL_map : ∀ ks : List Key, keysL (ks.map keyD) = some ks
  | [] => rfl
  | k :: ks => by
    show (match keyOf (keyD k), keysL (ks.map keyD) with | some k, some ks => some (k :: ks) | _, _ => none) = _
    rw [keyOf_keyD, keysL_map]
@[simp] theorem keysOf_keysD (ks : List Key) : keysOf (keysD ks) = some ks := keysL_map ks
@[simp] theorem zip_maps {α β : Type} (l : List (α × β)) : (l.map (·.1)).zip (l.map (·.2)) = l := zip_self l
/-- the table at x, with the keys of its kind: what is there at y -/
def tabC (x y : D) (G : Gp) (k : Option D → Prop) : Prop := match x with
  | .ref a => (match G a with
    | some (.dK kvs) => onS (keyOf y) fun ky => k (look kvs ky)
    | some (.lkK kvs) => onS (keyOf y) fun ky => k (look kvs ky)
    | some (.dT kvs) => onS (keysOf y) fun ky => k (look kvs ky)
    | some (.lkT kvs) => onS (keysOf y) fun ky => k (look kvs ky)
    | _ => False)
  | .nod (.dK ks) vs => ks.length = vs.length ∧ onS (keyOf y) fun ky => k (look (ks.zip vs) ky)
  | .nod (.dT ks) vs => ks.length = vs.length ∧ onS (keysOf y) fun ky => k (look (ks.zip vs) ky)
  | _ => False
theorem dK_zip {ks : List Key} {vs : List D} (h : ks.length = vs.length) : (.nod (.dK ks) vs : D) = .dK (ks.zip vs) := by
  show _ = D.nod (.dK ((ks.zip vs).map (·.1))) ((ks.zip vs).map (·.2))
  rw [show (ks.zip vs).map (·.1) = ks from List.map_fst_zip (Nat.le_of_eq h), show (ks.zip vs).map (·.2) = vs from List.map_snd_zip (Nat.le_of_eq h.symm)]
theorem dT_zip {ks : List (List Key)} {vs : List D} (h : ks.length = vs.length) : (.nod (.dT ks) vs : D) = .dT (ks.zip vs) := by
  show _ = D.nod (.dT ((ks.zip vs).map (·.1))) ((ks.zip vs).map (·.2))
  rw [show (ks.zip vs).map (·.1) = ks from List.map_fst_zip (Nat.le_of_eq h), show (ks.zip vs).map (·.2) = vs from List.map_snd_zip (Nat.le_of_eq h.symm)]
theorem tabC_is {x y : D} {G : Gp} {k : Option D → Prop} (h : tabC x y G k) : ∃ r, DG3 G x y r ∧ IsD3 G x ∧ k r := by
  unfold tabC at h
  split at h
  · split at h
    · rename_i hg
      obtain ⟨ky, e, q⟩ := onS_iff.mp h
      exact ⟨_, .inl ⟨_, ky, .inr ⟨_, rfl, .inl hg⟩, keyOf_is e, rfl⟩, .inl ⟨_, .inr ⟨_, rfl, .inl hg⟩⟩, q⟩
    · rename_i hg
      obtain ⟨ky, e, q⟩ := onS_iff.mp h
      exact ⟨_, .inl ⟨_, ky, .inr ⟨_, rfl, .inr hg⟩, keyOf_is e, rfl⟩, .inl ⟨_, .inr ⟨_, rfl, .inr hg⟩⟩, q⟩
    · rename_i hg
      obtain ⟨ky, e, q⟩ := onS_iff.mp h
      exact ⟨_, .inr ⟨_, ky, .inr ⟨_, rfl, .inl hg⟩, keysOf_is e, rfl⟩, .inr ⟨_, .inr ⟨_, rfl, .inl hg⟩⟩, q⟩
    · rename_i hg
      obtain ⟨ky, e, q⟩ := onS_iff.mp h
      exact ⟨_, .inr ⟨_, ky, .inr ⟨_, rfl, .inr hg⟩, keysOf_is e, rfl⟩, .inr ⟨_, .inr ⟨_, rfl, .inr hg⟩⟩, q⟩
    · exact h.elim
  · obtain ⟨hl, h⟩ := h
    obtain ⟨ky, e, q⟩ := onS_iff.mp h
    rw [dK_zip hl]
    exact ⟨_, .inl ⟨_, ky, .inl rfl, keyOf_is e, rfl⟩, .inl ⟨_, .inl rfl⟩, q⟩
  · obtain ⟨hl, h⟩ := h
    obtain ⟨ky, e, q⟩ := onS_iff.mp h
    rw [dT_zip hl]
    exact ⟨_, .inr ⟨_, ky, .inl rfl, keysOf_is e, rfl⟩, .inr ⟨_, .inl rfl⟩, q⟩
  · exact h.elim

/-! ### items -/
/-- the items of x where it is no table -/
def itemsC (x : D) (G : Gp) : Option (List D) := match x with
  | .nod .lst xs => some xs
  | .nod .tup xs => some xs
  | .ref a => (match G a with | some (.lst xs) => some xs | _ => none)
  | _ => none
def subC (x y : D) (G : Gp) (Q : K3) : Prop := match itemsC x G, y with
  | some xs, .int i => onS (atI xs i) fun d => Q d G
  | some _, _ => False
  | none, y => match x, y with
    | .str z, .int i => z.length ≤ sizeLine ∧ onS (atI z.cps.toList i) fun c => Q (.str ⟨#[c]⟩) G
    | x, y => tabC x y G fun r => onS r fun d => Q d G
theorem subC_of {x y : D} {G : Gp} {Q : K3} (h : subC x y G Q) : subR3 x y G Q := by
  unfold subC at h
  split at h
  · rename_i xs i e
    obtain ⟨d, e1, q⟩ := onS_iff.mp h
    unfold itemsC at e
    split at e
    · cases e; exact .inl ⟨d, e1, q⟩
    · cases e; exact .inl ⟨d, e1, q⟩
    · split at e
      · rename_i hg
        cases e
        exact .inl ⟨_, d, hg, e1, q⟩
      · cases e
    · cases e
  · exact h.elim
  · split at h
    · obtain ⟨d, e1, q⟩ := onS_iff.mp h.2
      exact .inl ⟨d, h.1, e1, q⟩
    · obtain ⟨r, g, _, q⟩ := tabC_is h
      obtain ⟨d, e1, q⟩ := onS_iff.mp q
      exact .inr ⟨d, by rw [← e1]; exact g, q⟩
def setC (o i v : D) (G : Gp) (Q : Gp → Prop) : Prop := match o with
  | .ref a => (match G a with
    | some (.lst xs) => (match i with | .int k => onS (ixN xs.length k) fun j => Q (gset G a (.lst (xs.set j v))) | _ => False)
    | some (.dK kvs) => onS (keyOf i) fun k => kvs.length < sizeLine ∧ Q (gset G a (.dK (put kvs k v)))
    | some (.dT kvs) => onS (keysOf i) fun k => kvs.length < sizeLine ∧ Q (gset G a (.dT (put kvs k v)))
    | _ => False)
  | _ => False
theorem setC_of {o i v : D} {G : Gp} {Q : Gp → Prop} (h : setC o i v G Q) : setR o i v G Q := by
  unfold setC at h
  split at h
  · split at h
    · rename_i hg
      split at h
      · obtain ⟨j, e, q⟩ := onS_iff.mp h
        exact .inl ⟨_, _, _, j, rfl, rfl, hg, e, q⟩
      · exact h.elim
    · rename_i hg
      obtain ⟨k, e, q⟩ := onS_iff.mp h
      exact .inr (.inl ⟨_, _, k, rfl, keyOf_is e, hg, q.1, q.2⟩)
    · rename_i hg
      obtain ⟨k, e, q⟩ := onS_iff.mp h
      exact .inr (.inr ⟨_, _, k, rfl, keysOf_is e, hg, q.1, q.2⟩)
    · exact h.elim
  · exact h.elim
@[simp] def GSubC (to ti : TE3) : TG3 := fun d δ G Q E => to δ G (fun o G1 => ti δ G1 (fun i G2 => setC o i d G2 fun G3 => Q δ G3) E) E
@[simp] def ngB (neg b : Bool) : Bool := if neg then !b else b
/-- in, not in -/
def inC (neg : Bool) : R3 := fun x y G Q => match itemsC y G with
  | some ds => gd 60 x = true ∧ ds.all (gd 59) = true ∧ Q (.bl (ngB neg (inB x ds))) G
  | none => (match y with
    | .nod .tuK ds => flat3 x = true ∧ ds.all flat3 = true ∧ Q (.bl (ngB neg (inB x ds))) G
    | .str z => (match x with | .str ⟨⟨[c]⟩⟩ => Q (.bl (ngB neg (decide (c ∈ z.cps.toList)))) G | _ => False)
    | y => tabC y x G fun r => Q (.bl (ngB neg r.isSome)) G)
theorem inC_of {neg : Bool} {x y : D} {G : Gp} {Q : K3} (h : inC neg x y G Q) : inR2 neg x y G Q := by
  unfold inC at h
  split at h
  · rename_i ds e
    have e2 : seqD G y = some ds ∧ y ≠ .nod .tuK ds := by
      unfold itemsC at e
      split at e
      · cases e; exact ⟨rfl, nofun⟩
      · cases e; exact ⟨rfl, nofun⟩
      · split at e
        · rename_i hg
          cases e
          exact ⟨by show (match G _ with | some (.lst xs) => some xs | _ => none) = some ds; rw [hg], nofun⟩
        · cases e
      · cases e
    exact .inr ⟨ds, e2.1, h.1, h.2.1, e2.2, h.2.2⟩
  · split at h
    · exact .inl (.inr (.inr (.inr ⟨_, .inr rfl, h⟩)))
    · split at h
      · exact .inl (.inr (.inr (.inl ⟨_, _, rfl, rfl, h⟩)))
      · exact h.elim
    · obtain ⟨r, g, _, q⟩ := tabC_is h
      exact .inl (.inl ⟨r, g, q⟩)
section
variable {X : Cx} {Γ : Gm} {W : WX} {e o a b c i f : Expr} {pos apos cpos : Pos} {ta tb tc : TE3}
theorem pe3_subC (hu : X.A.units + 1 < cLine) (ha : PE3 X Γ W a ta) (hb : PE3 X Γ W b tb) (hs : PlainIx b) : PE3 X Γ W (.Subscript a b pos) (TOp subC ta tb) :=
  pe_imp (pe_ix (ix_seq.or (ix_dict hu)) ha hb hs) fun _ _ _ hw => op_sound (fun x y v u H G Q3 Q R hx hy h k => sound_sub x y v u H G Q3 Q R hx hy (subC_of h) k) hw
theorem sound_inC : Sound2 X.K Γ (rIn4 X.K) (inC false) := fun x y v u H G Q3 Q R hx hy h k => sound_in4 x y v u H G Q3 Q R hx hy (inC_of h) k
theorem sound_notInC : Sound2 X.K Γ (rNotIn4 X.K) (inC true) := fun x y v u H G Q3 Q R hx hy h k => sound_notIn4 x y v u H G Q3 Q R hx hy (inC_of h) k
theorem pg3_subC (hu : X.A.units + 1 < cLine) (ho : PE3 X Γ W o ta) (hi : PE3 X Γ W i tb)
    (ha : ∀ v, assign (.Subscript o i pos) X.env v = (do
      let ov ← holding [v] (eval o X.env)
      let iv ← holding [v, ov] (eval i X.env)
      standAt pos
      holding [v, ov, iv] (setItem ov iv v)
      release [v, ov, iv] []) := by intro _; rfl) : PG3 X Γ W (.Subscript o i pos) (GSubC ta tb) := by
  refine pg_imp (pg_sub ho hi (pset_or set_list (set_dict hu)) ha) fun v σ H Q hw => ?_
  obtain ⟨d, δ, G, Q3, E3, R, dv, h, k, ke⟩ := hw
  refine ⟨δ, G, _, E3, R, h, fun x w G1 H1 s1 hp1 dx q => ?_, ke⟩
  refine ⟨δ, G1, _, E3, R.mono s1 hp1, q, fun y u G2 H2 s2 hp2 dy q => ?_, fun cls G' H' s' => ke cls G' H' (s1.trans s')⟩
  have R2 := R.mono (s1.trans s2) hp2
  have dv2 := (dv.mono s1).mono s2
  have q := setC_of q
  rcases q with ⟨a, xs, n, j, rfl, rfl, hg, hj, q⟩ | ⟨a, kvs, n, rfl, rfl, hg, hz, q⟩ | ⟨a, kvs, n, rfl, rfl, hg, hz, q⟩
  · cases (show _ = _ from dx); cases (show _ = _ from dy)
    have hg' := vis_some hg
    obtain ⟨vs, h3, l⟩ := hp2.own _ _ hg'
    obtain ⟨st, hp4⟩ := hp2.put (o' := .lst (vs.set j v)) (g' := .lst (xs.set j d)) hg' rfl fun st => ⟨_, upd_same, (l.set dv2 j).mono st⟩
    refine .inl ⟨a, vs, n, j, rfl, rfl, h3, by rw [← l.length]; exact hj, k δ _ σ _ ((s1.trans s2).trans st) (R2.mono st hp4) ?_⟩
    rw [vis_gset (by intro z; cases z)]
    exact q
  · cases (show _ = _ from dx)
    have hg' := vis_some hg
    obtain ⟨vs, h3, l⟩ := hp2.own _ _ hg'
    obtain ⟨st, hp4⟩ := hp2.put (o' := .dK (putK vs n v)) (g' := .dK (put kvs n d)) hg' rfl fun st => ⟨_, upd_same, DatF.mono st (datF_put l n dv2)⟩
    refine .inr ⟨a, _, rfl, .inl ⟨vs, n, h3, dat_key dy, by rw [← DatF.length l]; exact hz, rfl⟩, k δ _ σ _ ((s1.trans s2).trans st) (R2.mono st hp4) ?_⟩
    rw [vis_gset (by intro z; cases z)]
    exact q
  · cases (show _ = _ from dx)
    have hg' := vis_some hg
    obtain ⟨vs, h3, l⟩ := hp2.own _ _ hg'
    obtain ⟨b, rfl, hb⟩ := dat_keys dy
    obtain ⟨st, hp4⟩ := hp2.put (o' := .dT (putK vs n v)) (g' := .dT (put kvs n d)) hg' rfl fun st => ⟨_, upd_same, DatF.mono st (datF_put l n dv2)⟩
    refine .inr ⟨a, _, rfl, .inr ⟨vs, n, b, h3, rfl, hb, by rw [← DatF.length l]; exact hz, rfl⟩, k δ _ σ _ ((s1.trans s2).trans st) (R2.mono st hp4) ?_⟩
    rw [vis_gset (by intro z; cases z)]
    exact q

end
/-- a table stands there -/
def isDC (x : D) (G : Gp) : Prop := match x with
  | .ref a => (match G a with
    | some (.dK _) => True
    | some (.lkK _) => True
    | some (.dT _) => True
    | some (.lkT _) => True
    | _ => False)
  | .nod (.dK ks) vs => ks.length = vs.length
  | .nod (.dT ks) vs => ks.length = vs.length
  | _ => False
theorem isDC_of {x : D} {G : Gp} (h : isDC x G) : IsD3 G x := by
  unfold isDC at h
  split at h
  · split at h
    · rename_i hg; exact .inl ⟨_, .inr ⟨_, rfl, .inl hg⟩⟩
    · rename_i hg; exact .inl ⟨_, .inr ⟨_, rfl, .inr hg⟩⟩
    · rename_i hg; exact .inr ⟨_, .inr ⟨_, rfl, .inl hg⟩⟩
    · rename_i hg; exact .inr ⟨_, .inr ⟨_, rfl, .inr hg⟩⟩
    · exact h.elim
  · rw [dK_zip h]; exact .inl ⟨_, .inl rfl⟩
  · rw [dT_zip h]; exact .inr ⟨_, .inl rfl⟩
  · exact h.elim
section
variable {X : Cx} {Γ : Gm} {W : WX} {e o a b c i f : Expr} {pos apos cpos : Pos} {ta tb tc : TE3}
@[simp] def TGet1C (td ty : TE3) : TE3 := fun δ G Q E => td δ G (fun x G1 => isDC x G1 ∧ ty δ G1 (fun y G2 => tabC x y G2 fun r => Q (r.getD .non) G2) E) E
@[simp] def TGet2C (td ty tx : TE3) : TE3 := fun δ G Q E => td δ G (fun x G1 => isDC x G1 ∧ ty δ G1 (fun y G2 => tx δ G2 (fun z G3 => tabC x y G3 fun r => Q (r.getD z) G3) E) E) E
theorem pe3_get1C (hu : X.A.units + 1 < cLine) (ho : PE3 X Γ W o ta) (he : PE3 X Γ W e tb) (m : M1 X o "get" apos e cpos) : PE3 X Γ W (.Call (.Attribute o "get" apos) [e] [] cpos) (TGet1C ta tb) := by
  refine pe_imp (pe_dget1 hu ho he m) fun σ H Q hw => ?_
  obtain ⟨δ, G, Q3, E3, R, h1, k, ke⟩ := hw
  refine ⟨δ, G, _, E3, R, h1, fun x v G1 H1 s1 hp1 dx ⟨hd', q⟩ => ?_, ke⟩
  have hd := isDC_of hd'
  obtain ⟨a, rfl, hD⟩ := hd.at hp1 dx
  refine ⟨a, rfl, hD, δ, G1, _, E3, R.mono s1 hp1, q, fun y u G2 H2 s2 hp2 dy q0 => ?_, fun cls G' H' s' => ke cls G' H' (s1.trans s')⟩
  obtain ⟨r, g, _, q⟩ := tabC_is q0
  obtain ⟨a', ro, e, g, _, er⟩ := g.at hp2 (dx.mono s2) dy
  cases e
  refine ⟨ro, g, ?_⟩
  rcases er with ⟨d, w, rfl, rfl, dw⟩ | ⟨rfl, rfl⟩
  · exact k d w G2 H2 (s1.trans s2) hp2 dw q
  · exact k .non .non G2 H2 (s1.trans s2) hp2 rfl q
theorem pe3_get2C (hu : X.A.units + 1 < cLine) (ho : PE3 X Γ W o ta) (he : PE3 X Γ W e tb) (hf : PE3 X Γ W f tc) (m : M2 X o "get" apos e f cpos) : PE3 X Γ W (.Call (.Attribute o "get" apos) [e, f] [] cpos) (TGet2C ta tb tc) := by
  refine pe_imp (pe_dget2 hu ho he hf m) fun σ H Q hw => ?_
  obtain ⟨δ, G, Q3, E3, R, h1, k, ke⟩ := hw
  refine ⟨δ, G, _, E3, R, h1, fun x v G1 H1 s1 hp1 dx ⟨hd', q⟩ => ?_, ke⟩
  have hd := isDC_of hd'
  obtain ⟨a, rfl, hD⟩ := hd.at hp1 dx
  refine ⟨a, rfl, hD, δ, G1, _, E3, R.mono s1 hp1, q, fun y u G2 H2 s2 hp2 dy q => ?_, fun cls G' H' s' => ke cls G' H' (s1.trans s')⟩
  refine ⟨δ, G2, _, E3, R.mono (s1.trans s2) hp2, q, fun z w G3 H3 s3 hp3 dz q0 => ?_, fun cls G' H' s' => ke cls G' H' ((s1.trans s2).trans s')⟩
  obtain ⟨r, g, _, q⟩ := tabC_is q0
  obtain ⟨a', ro, e, g, _, er⟩ := g.at hp3 ((dx.mono s2).mono s3) (dy.mono s3)
  cases e
  refine ⟨ro, g, ?_⟩
  rcases er with ⟨d, w', rfl, rfl, dw⟩ | ⟨rfl, rfl⟩
  · exact k d w' G3 H3 ((s1.trans s2).trans s3) hp3 dw q
  · exact k z w G3 H3 ((s1.trans s2).trans s3) hp3 dz q
def popC (x y z : D) (G : Gp) (Q : K3) : Prop := match x with
  | .ref a => (match G a with
    | some (.dK kvs) => onS (keyOf y) fun k => (match look kvs k with | some d => Q d (gset G a (.dK (drop kvs k))) | none => Q z G)
    | _ => False)
  | _ => False
theorem popC_of {x y z : D} {G : Gp} {Q : K3} (h : popC x y z G Q) : ∃ a kvs k, x = .ref a ∧ G a = some (.dK kvs) ∧ y = keyD k ∧ (∀ d, look kvs k = some d → Q d (gset G a (.dK (drop kvs k)))) ∧ (look kvs k = none → Q z G) := by
  unfold popC at h
  split at h
  · split at h
    · rename_i hg
      obtain ⟨k, e, q⟩ := onS_iff.mp h
      refine ⟨_, _, k, rfl, hg, keyOf_is e, fun d e2 => ?_, fun e2 => ?_⟩
      · rw [e2] at q; exact q
      · rw [e2] at q; exact q
    · exact h.elim
  · exact h.elim
@[simp] def TPop2C (td ty tx : TE3) : TE3 := fun δ G Q E => td δ G (fun x G1 => isDC x G1 ∧ ty δ G1 (fun y G2 => tx δ G2 (fun z G3 => popC x y z G3 Q) E) E) E
theorem pe3_pop2C (ho : PE3 X Γ W o ta) (he : PE3 X Γ W e tb) (hf : PE3 X Γ W f tc) (m : M2 X o "pop" apos e f cpos) : PE3 X Γ W (.Call (.Attribute o "pop" apos) [e, f] [] cpos) (TPop2C ta tb tc) := by
  refine pe_imp (pe_dpop2 ho he hf m) fun σ H Q hw => ?_
  obtain ⟨δ, G, Q3, E3, R, h1, k, ke⟩ := hw
  refine ⟨δ, G, _, E3, R, h1, fun x v G1 H1 s1 hp1 dx ⟨hd', q⟩ => ?_, ke⟩
  have hd := isDC_of hd'
  obtain ⟨a, rfl, hD⟩ := hd.at hp1 dx
  refine ⟨a, rfl, hD, δ, G1, _, E3, R.mono s1 hp1, q, fun y u G2 H2 s2 hp2 dy q => ?_, fun cls G' H' s' => ke cls G' H' (s1.trans s')⟩
  refine ⟨δ, G2, _, E3, R.mono (s1.trans s2) hp2, q, fun z w G3 H3 s3 hp3 dz q0 => ?_, fun cls G' H' s' => ke cls G' H' ((s1.trans s2).trans s')⟩
  obtain ⟨a', kvs, k', ea, hg, ey, q1, q2⟩ := popC_of q0
  subst ea ey
  cases (show _ = _ from dx)
  have hg' := vis_some hg
  obtain ⟨vs, h3, l⟩ := hp3.own _ _ hg'
  refine ⟨vs, k', h3, dat_key (dy.mono s3), fun w' hv => ?_, fun hv => ?_⟩
  · rcases datF_look l k' with ⟨d, w2, e1, e2, dw⟩ | ⟨_, e2⟩
    · rw [hv] at e2; cases e2
      obtain ⟨st, hp4⟩ := hp3.put (o' := .dK (dropK vs k')) (g' := .dK (drop kvs k')) hg' rfl fun st => ⟨_, upd_same, DatF.mono st (datF_drop l k')⟩
      refine k d w' _ _ (((s1.trans s2).trans s3).trans st) hp4 (dw.mono st) ?_
      rw [vis_gset (by intro z; cases z)]
      exact q1 d e1
    · rw [hv] at e2; cases e2
  · rcases datF_look l k' with ⟨d, w2, e1, e2, dw⟩ | ⟨e1, e2⟩
    · rw [hv] at e2; cases e2
    · exact k z w G3 H3 ((s1.trans s2).trans s3) hp3 dz (q2 e1)

end
end L3
/-! L3, part p: == of lists that are owned; == and in of coded things. -/
namespace L3
open PySem PySem.Spec PyProof.Rows L2

/-- what is compared where an owned list stands -/
@[simp] def valD (x : D) (G : Gp) : D := match x with
  | .ref a => (match G a with | some (.lst xs) => .lst xs | _ => x)
  | _ => x
def eqC : R3 := fun x y G Q => match valD x G, valD y G with
  | .int i, .int j => Q (.bl (decide (i = j))) G
  | .str s, .str t => Q (.bl (decide (s = t))) G
  | .bl a, .bl b => Q (.bl (decide (a = b))) G
  | x, y => gd 60 x = true ∧ gd 60 y = true ∧ Q (.bl (eq3 x y)) G
def neC : R3 := fun x y G Q => match valD x G, valD y G with
  | .int i, .int j => Q (.bl (!decide (i = j))) G
  | .str s, .str t => Q (.bl (!decide (s = t))) G
  | .bl a, .bl b => Q (.bl (!decide (a = b))) G
  | x, y => gd 60 x = true ∧ gd 60 y = true ∧ Q (.bl (!eq3 x y)) G
section
variable {K : PySem.W.Frag} {Γ : Gm} {H : Hp} {G : Gp}
theorem valD_cases (x : D) (G : Gp) : valD x G = x ∨ ∃ a xs, x = .ref a ∧ G a = some (.lst xs) ∧ valD x G = .lst xs := by
  unfold valD
  split
  · split
    · rename_i h; exact .inr ⟨_, _, rfl, h, rfl⟩
    · exact .inl rfl
  · exact .inl rfl
theorem valD_dp {x : D} {v : V} (R : HpR K Γ H G) (dv : Dat K Γ H G x v) (g : gd 60 (valD x (vis G)) = true) : Dp K H v (py (valD x (vis G))) := by
  rcases valD_cases x (vis G) with e | ⟨a, xs, rfl, hg, e⟩
  · rw [e] at g ⊢
    exact dat_dp 60 x v g dv
  · rw [e] at g ⊢
    obtain rfl : v = _ := dv
    obtain ⟨vs, h1, l⟩ := R.own _ _ (vis_some hg)
    exact .lst (SqL.of h1) (datL_dp (n := 59) (by simpa [gd] using g) l)
theorem valD_sc {x d : D} {v : V} (dv : Dat K Γ H G x v) (e : valD x (vis G) = d) (h : ∀ xs, d ≠ .lst xs) : Dat K Γ H G d v := by
  rcases valD_cases x (vis G) with e2 | ⟨a, xs, rfl, hg, e2⟩
  · rw [e2] at e
    subst e
    exact dv
  · exact absurd (e.symm.trans e2) (h xs)
theorem sound_eqC : Sound2 K Γ (fun x y H Q => rEq x y H Q ∨ rEqD K x y H Q) eqC := by
  intro x y v u H G Q3 Q R hx hy h k
  unfold eqC at h
  split at h
  · rename_i i j e1 e2
    obtain rfl : v = _ := valD_sc hx e1 nofun
    obtain rfl : u = _ := valD_sc hy e2 nofun
    exact .inl ⟨rfl, ret k R h (by show V.bl _ = V.bl _; rw [dec_int, Bool.beq_eq_decide_eq])⟩
  · rename_i i j e1 e2
    obtain rfl : v = _ := valD_sc hx e1 nofun
    obtain rfl : u = _ := valD_sc hy e2 nofun
    exact .inl ⟨rfl, ret k R h (by show V.bl _ = V.bl _; rw [dec_str, Bool.beq_eq_decide_eq])⟩
  · rename_i i j e1 e2
    obtain rfl : v = _ := valD_sc hx e1 nofun
    obtain rfl : u = _ := valD_sc hy e2 nofun
    exact .inl ⟨rfl, ret k R h (by show V.bl _ = V.bl _; rw [dec_bl, Bool.beq_eq_decide_eq])⟩
  · exact .inr ⟨_, _, valD_dp R hx h.1, valD_dp R hy h.2.1, gd_shaped h.1, gd_shaped h.2.1, ret k R h.2.2 rfl⟩
theorem sound_neC : Sound2 K Γ (fun x y H Q => rNe x y H Q ∨ rNeD K x y H Q) neC := by
  intro x y v u H G Q3 Q R hx hy h k
  unfold neC at h
  split at h
  · rename_i i j e1 e2
    obtain rfl : v = _ := valD_sc hx e1 nofun
    obtain rfl : u = _ := valD_sc hy e2 nofun
    exact .inl ⟨rfl, ret k R h (by show V.bl _ = V.bl _; rw [dec_int, Bool.beq_eq_decide_eq])⟩
  · rename_i i j e1 e2
    obtain rfl : v = _ := valD_sc hx e1 nofun
    obtain rfl : u = _ := valD_sc hy e2 nofun
    exact .inl ⟨rfl, ret k R h (by show V.bl _ = V.bl _; rw [dec_str, Bool.beq_eq_decide_eq])⟩
  · rename_i i j e1 e2
    obtain rfl : v = _ := valD_sc hx e1 nofun
    obtain rfl : u = _ := valD_sc hy e2 nofun
    exact .inl ⟨rfl, ret k R h (by show V.bl _ = V.bl _; rw [dec_bl, Bool.beq_eq_decide_eq])⟩
  · exact .inr ⟨_, _, valD_dp R hx h.1, valD_dp R hy h.2.1, gd_shaped h.1, gd_shaped h.2.1, ret k R h.2.2 rfl⟩
end

/-! ### data coded by a function -/
@[simp] theorem gd_int (n : Nat) (i : Int) : gd n (.int i) = true := by cases n <;> rfl
@[simp] theorem gd_bl (n : Nat) (b : Bool) : gd n (.bl b) = true := by cases n <;> rfl
@[simp] theorem gd_non (n : Nat) : gd n .non = true := by cases n <;> rfl
@[simp] theorem gd_str (n : Nat) (x : Str) : gd n (.str x) = PyData.strOk x := by cases n <;> rfl
theorem gd_lst (n : Nat) (xs : List D) : gd (n + 1) (.lst xs) = xs.all (gd n) := rfl
theorem gd_tup (n : Nat) (xs : List D) : gd (n + 1) (.tup xs) = xs.all (gd n) := rfl
/-- f tells things apart as == does; its things are plain, at most so deep -/
structure Cod {α : Type} [DecidableEq α] (n : Nat) (f : α → D) : Prop where
  eq : ∀ a b, eq3 (f a) (f b) = decide (a = b)
  gd : ∀ a, gd n (f a) = true
theorem gd_mono : ∀ {n m : Nat} {d : D}, n ≤ m → gd n d = true → gd m d = true
  | _, _, .non, _, _ => gd_non _
  | _, _, .bl b, _, _ => gd_bl _ b
  | _, _, .int i, _, _ => gd_int _ i
  | _, _, .str x, _, h => by rw [gd_str] at h ⊢; exact h
  | n + 1, m + 1, .nod .tup xs, hl, h => by
    have h : xs.all (gd n) = true := h
    show xs.all (gd m) = true
    rw [List.all_eq_true] at h ⊢
    exact fun d hd => gd_mono (by omega) (h d hd)
  | n + 1, m + 1, .nod .lst xs, hl, h => by
    have h : xs.all (gd n) = true := h
    show xs.all (gd m) = true
    rw [List.all_eq_true] at h ⊢
    exact fun d hd => gd_mono (by omega) (h d hd)
  | n + 1, 0, _, hl, _ => absurd hl (by omega)
  | 0, _, .nod .tup _, _, h => by simp [gd] at h
  | 0, _, .nod .lst _, _, h => by simp [gd] at h
  | 0, _, .nod .ro _, _, h => by simp [gd] at h
  | 0, _, .nod .tuK _, _, h => by simp [gd] at h
  | 0, _, .nod (.dK _) _, _, h => by simp [gd] at h
  | 0, _, .nod (.dT _) _, _, h => by simp [gd] at h
  | 0, _, .nod (.obj _ _) _, _, h => by simp [gd] at h
  | _ + 1, _, .nod .ro _, _, h => by simp [gd] at h
  | _ + 1, _, .nod .tuK _, _, h => by simp [gd] at h
  | _ + 1, _, .nod (.dK _) _, _, h => by simp [gd] at h
  | _ + 1, _, .nod (.dT _) _, _, h => by simp [gd] at h
  | _ + 1, _, .nod (.obj _ _) _, _, h => by simp [gd] at h
  | 0, _, .ref _, _, h => by simp [gd] at h
  | _ + 1, _, .ref _, _, h => by simp [gd] at h
  | 0, _, .clo _, _, h => by simp [gd] at h
  | _ + 1, _, .clo _, _, h => by simp [gd] at h
section
variable {α β : Type} [DecidableEq α] [DecidableEq β] {f : α → D} {g : β → D} {n : Nat}
theorem Cod.int : Cod 0 D.int := ⟨fun a b => by simp [eq3, py, PyData.eqv, Bool.beq_eq_decide_eq], fun _ => rfl⟩
theorem Cod.bl : Cod 0 D.bl := ⟨fun a b => by simp [eq3, py, PyData.eqv, Bool.beq_eq_decide_eq], fun _ => rfl⟩
theorem Cod.mono {m : Nat} (h : Cod n f) (hl : n ≤ m) : Cod m f := ⟨h.eq, fun a => gd_mono hl (h.gd a)⟩
theorem eqvAll_map (h : Cod n f) : ∀ xs ys : List α, PyData.eqvAll (pyL (xs.map f)) (pyL (ys.map f)) = decide (xs = ys)
  | [], [] => by simp [pyL, PyData.eqvAll]
  | [], y :: ys => by simp [pyL, PyData.eqvAll]
  | x :: xs, [] => by simp [pyL, PyData.eqvAll]
  | x :: xs, y :: ys => by
    have e := h.eq x y
    unfold eq3 at e
    simp only [List.map_cons, pyL, PyData.eqvAll, e, eqvAll_map h xs ys]
    by_cases h1 : x = y <;> by_cases h2 : xs = ys <;> simp [h1, h2]
theorem Cod.lst (h : Cod n f) : Cod (n + 1) fun xs : List α => D.lst (xs.map f) := ⟨fun a b => by
  show PyData.eqv (.list (pyL (a.map f))) (.list (pyL (b.map f))) = _
  rw [PyData.eqv]
  exact eqvAll_map h a b, fun a => by
  show (a.map f).all (L3.gd n) = true
  simp [List.all_eq_true, h.gd]⟩
theorem Cod.tup (h : Cod n f) : Cod (n + 1) fun xs : List α => D.tup (xs.map f) := ⟨fun a b => by
  show PyData.eqv (.tuple (pyL (a.map f))) (.tuple (pyL (b.map f))) = _
  rw [PyData.eqv]
  exact eqvAll_map h a b, fun a => by
  show (a.map f).all (L3.gd n) = true
  simp [List.all_eq_true, h.gd]⟩
theorem Cod.pair (h : Cod n f) (h2 : Cod n g) : Cod (n + 1) fun p : α × β => D.tup [f p.1, g p.2] := ⟨fun a b => by
  show PyData.eqv (.tuple [py (f a.1), py (g a.2)]) (.tuple [py (f b.1), py (g b.2)]) = _
  have e1 := h.eq a.1 b.1
  have e2 := h2.eq a.2 b.2
  unfold eq3 at e1 e2
  simp only [PyData.eqv, PyData.eqvAll, e1, e2]
  obtain ⟨a1, a2⟩ := a
  obtain ⟨b1, b2⟩ := b
  by_cases q1 : a1 = b1 <;> by_cases q2 : a2 = b2 <;> simp [q1, q2], fun a => by
  show [f a.1, g a.2].all (L3.gd n) = true
  simp [h.gd, h2.gd]⟩
theorem cod_iiD : Cod 1 iiD := Cod.pair Cod.int Cod.int
theorem Cod.inB (h : Cod n f) (a : α) : ∀ xs : List α, L3.inB (f a) (xs.map f) = decide (a ∈ xs)
  | [] => rfl
  | x :: xs => by
    have ih := h.inB a xs
    unfold L3.inB at ih ⊢
    rw [List.map_cons, List.any_cons, ih, h.eq]
    by_cases q1 : a = x
    · subst q1; simp
    · have q2 : ¬ x = a := fun z => q1 z.symm
      simp [q1, q2]
theorem Cod.all {m : Nat} (h : Cod n f) (hl : n ≤ m) (xs : List α) : (xs.map f).all (L3.gd m) = true := by
  simp only [List.all_map, List.all_eq_true]
  exact fun a _ => gd_mono hl (h.gd a)
theorem Cod.gdl {m : Nat} (h : Cod n f) (hl : n ≤ m) (xs : List α) : L3.gd (m + 1) (.lst (xs.map f)) = true := h.all hl xs
theorem Cod.gdt {m : Nat} (h : Cod n f) (hl : n ≤ m) (xs : List α) : L3.gd (m + 1) (.tup (xs.map f)) = true := h.all hl xs
theorem Cod.eql (h : Cod n f) (xs ys : List α) : eq3 (.lst (xs.map f)) (.lst (ys.map f)) = decide (xs = ys) := h.lst.eq xs ys
theorem Cod.eqt (h : Cod n f) (xs ys : List α) : eq3 (.tup (xs.map f)) (.tup (ys.map f)) = decide (xs = ys) := h.tup.eq xs ys
theorem Cod.nil (h : Cod n f) (xs : List α) : eq3 (.lst (xs.map f)) (.lst []) = decide (xs = []) := h.lst.eq xs []
end
/-- texts that may be laid -/
def StrOk (x : Str) : Prop := PyData.strOk x = true
theorem eq3_str (x y : Str) : eq3 (.str x) (.str y) = decide (x = y) := by simp [eq3, py, PyData.eqv, Bool.beq_eq_decide_eq]
theorem inB_strs (x : Str) : ∀ xs : List Str, inB (.str x) (xs.map .str) = decide (x ∈ xs)
  | [] => rfl
  | y :: xs => by
    have ih := inB_strs x xs
    unfold inB at ih ⊢
    rw [List.map_cons, List.any_cons, ih, eq3_str]
    by_cases q1 : x = y
    · subst q1; simp
    · have q2 : ¬ y = x := fun z => q1 z.symm
      simp [q1, q2]
theorem cut3_map {α : Type} (f : α → D) (xs : List α) (lo hi : Option Int) : ∃ ys : List α, cut3 (xs.map f) lo hi = ys.map f ∧ ys.length ≤ xs.length := by
  refine ⟨(xs.drop (HT.sIx xs.length 0 lo)).take (HT.sIx xs.length xs.length hi - HT.sIx xs.length 0 lo), ?_, ?_⟩
  · unfold cut3
    rw [List.length_map, List.map_take, List.map_drop]
  · rw [List.length_take, List.length_drop]
    omega
section
variable {G : Gp} {Q : K3}
@[simp] theorem eqC_ii (i j : Int) : eqC (.int i) (.int j) G Q = Q (.bl (decide (i = j))) G := rfl
@[simp] theorem eqC_ss (i j : Str) : eqC (.str i) (.str j) G Q = Q (.bl (decide (i = j))) G := rfl
@[simp] theorem eqC_bb (i j : Bool) : eqC (.bl i) (.bl j) G Q = Q (.bl (decide (i = j))) G := rfl
@[simp] theorem eqC_nn (t u : Tag) (xs ys : List D) : eqC (.nod t xs) (.nod u ys) G Q = (gd 60 (.nod t xs) = true ∧ gd 60 (.nod u ys) = true ∧ Q (.bl (eq3 (.nod t xs) (.nod u ys))) G) := rfl
@[simp] theorem neC_ii (i j : Int) : neC (.int i) (.int j) G Q = Q (.bl (!decide (i = j))) G := rfl
@[simp] theorem neC_ss (i j : Str) : neC (.str i) (.str j) G Q = Q (.bl (!decide (i = j))) G := rfl
@[simp] theorem neC_bb (i j : Bool) : neC (.bl i) (.bl j) G Q = Q (.bl (!decide (i = j))) G := rfl
@[simp] theorem neC_nn (t u : Tag) (xs ys : List D) : neC (.nod t xs) (.nod u ys) G Q = (gd 60 (.nod t xs) = true ∧ gd 60 (.nod u ys) = true ∧ Q (.bl (!eq3 (.nod t xs) (.nod u ys))) G) := rfl
end
@[simp] theorem eq3_nilL : eq3 (.lst []) (.lst []) = true := by simp [eq3, py, pyL, PyData.eqv, PyData.eqvAll]
@[simp] theorem gd_nilL : gd 60 (.lst []) = true := rfl
@[simp] theorem gd_nilT : gd 60 (.tup []) = true := rfl
@[simp] theorem gd_ints (xs : List Int) : gd 60 (.lst (xs.map .int)) = true := Cod.int.gdl (m := 59) (by decide) xs
@[simp] theorem eq3_ints (xs ys : List Int) : eq3 (.lst (xs.map .int)) (.lst (ys.map .int)) = decide (xs = ys) := Cod.int.eql xs ys
@[simp] theorem eq3_ints0 (xs : List Int) : eq3 (.lst (xs.map .int)) (.lst []) = decide (xs = []) := Cod.int.nil xs
@[simp] theorem gd_pairs (xs : List (Int × Int)) : gd 60 (.lst (xs.map iiD)) = true := cod_iiD.gdl (m := 59) (by decide) xs
@[simp] theorem gd_pairsT (xs : List (Int × Int)) : gd 60 (.tup (xs.map iiD)) = true := cod_iiD.gdt (m := 59) (by decide) xs
@[simp] theorem eq3_pairs (xs ys : List (Int × Int)) : eq3 (.lst (xs.map iiD)) (.lst (ys.map iiD)) = decide (xs = ys) := cod_iiD.eql xs ys
@[simp] theorem eq3_pairs0 (xs : List (Int × Int)) : eq3 (.lst (xs.map iiD)) (.lst []) = decide (xs = []) := cod_iiD.nil xs
@[simp] theorem eq3_pairsT (xs ys : List (Int × Int)) : eq3 (.tup (xs.map iiD)) (.tup (ys.map iiD)) = decide (xs = ys) := cod_iiD.eqt xs ys
@[simp] theorem gd_pair (p : Int × Int) : gd 60 (iiD p) = true := gd_mono (by decide) (cod_iiD.gd p)
@[simp] theorem eq3_pair (p q : Int × Int) : eq3 (iiD p) (iiD q) = decide (p = q) := cod_iiD.eq p q
@[simp] theorem atI_0 {α : Type} (x : α) (xs : List α) : atI (x :: xs) 0 = some x := by
  unfold atI ixN
  rw [if_pos (by decide), if_pos (by simp only [List.length_cons]; omega)]
  rfl
@[simp] theorem atI_1 {α : Type} (x y : α) (xs : List α) : atI (x :: y :: xs) 1 = some y := by
  unfold atI ixN
  rw [if_pos (by decide), if_pos (by simp only [List.length_cons]; omega)]
  rfl
@[simp] theorem atI_2 {α : Type} (x y z : α) (xs : List α) : atI (x :: y :: z :: xs) 2 = some z := by
  unfold atI ixN
  rw [if_pos (by decide), if_pos (by simp only [List.length_cons]; omega)]
  rfl
theorem ixN_at {n m : Nat} (h : m < n) : ixN n (m : Int) = some m := by unfold ixN; rw [if_pos (by omega), if_pos (by omega)]; simp
@[simp] theorem ixN_last (n : Nat) : ixN (n + 1) (n : Int) = some n := ixN_at (by omega)
theorem atI_at {α : Type} {xs : List α} {m : Nat} (h : m < xs.length) : atI xs (m : Int) = xs[m]? := by unfold atI; rw [ixN_at h] <;> rfl
theorem atI_snoc {α : Type} (xs : List α) (d : α) : atI (xs ++ [d]) (xs.length : Int) = some d := by
  rw [atI_at (by simp)]
  simp
@[simp] theorem atI_snocM {α β : Type} (f : α → β) (xs : List α) (d : β) : atI (xs.map f ++ [d]) (xs.length : Int) = some d := by
  have := atI_snoc (xs.map f) d
  simpa using this
theorem Kp.put {as : List Addr} {G G' : Gp} {f : Addr} {o : GO} (k : Kp as G G') (h : G f = none) : Kp as G (gset G' f o) := fun x g e n => by
  rw [gset_ne (fun z => by rw [z, h] at e; cases e)]
  exact k x g e n
theorem Kp.puts {as : List Addr} {G G' : Gp} {f : Addr} {o : GO} (k : Kp as G G') (h : f ∈ as) : Kp as G (gset G' f o) := fun x g e n => by
  rw [gset_ne (fun z => n (by rw [z]; exact h))]
  exact k x g e n
theorem sub_del {G : Gp} {f : Addr} {g : GO} (h : G f = some g) (hl : g.lk = false) : Sub (gdel G f) G := Sub.del fun g' e => by
  rw [h] at e
  cases e
  exact hl
theorem Kp.del {as : List Addr} {G G' : Gp} {f : Addr} (k : Kp as G G') (h : G f = none) : Kp as G (gdel G' f) := fun x g e n => by
  rw [gdel_ne (fun z => by rw [z, h] at e; cases e)]
  exact k x g e n
/-- a list is let go as it is returned -/
theorem RetC.lst {Q3 : K3} {f : Addr} {G : Gp} {xs : List D} (h : G f = some (.lst xs)) (q : Q3 (.lst xs) (gdel G f)) : RetC Q3 (.ref f) G :=
  ⟨.lst xs, gdel G f, sub_del h rfl, Fz.lst (sub_del h rfl) h gdel_same, q⟩
theorem whileRun2 {t : TT3} {tb : TS3} {D3 : Ends3} (I : Nat → St3 → Gp → Prop) {m : Nat} {δ : St3} {G : Gp} (h : I m δ G)
    (hs : ∀ m δ G, I m δ G → ∀ Nx : St3 → Gp → Prop, (∀ m' δ' G', m' < m → I m' δ' G' → Nx δ' G') → t δ G (fun b G1 => if b = true then tb { D3 with nx := Nx, ct := Nx, bk := D3.nx } δ G1 else D3.nx δ G1) (fun cls G1 => D3.ex cls δ G1)) : TWhile t tb D3 δ G :=
  whileRun I h fun m δ G h => hs m δ G h _ fun m' δ' G' l q => ⟨m', l, q⟩
theorem filter_range_ge (c n : Nat) : (List.range (c + n)).filter (fun j => decide (c ≤ j)) = (List.range n).map (c + ·) := by
  rw [List.range_add, List.filter_append]
  have h1 : (List.range c).filter (fun j => decide (c ≤ j)) = [] := by
    simp only [List.filter_eq_nil_iff, List.mem_range, decide_eq_true_eq]
    omega
  have h2 : ((List.range n).map (c + ·)).filter (fun j => decide (c ≤ j)) = (List.range n).map (c + ·) := by
    simp only [List.filter_eq_self, List.mem_map, decide_eq_true_eq]
    rintro a ⟨b, _, rfl⟩
    omega
  rw [h1, h2, List.nil_append]
theorem reverse_range_map {α : Type} (n : Nat) (g : Nat → α) : ((List.range n).map g).reverse = (List.range n).map fun k => g (n - 1 - k) := by
  apply List.ext_getElem
  · simp
  · intro i h1 h2
    simp [List.getElem_reverse]
theorem gset_self {G : Gp} {p : Addr} {o : GO} (h : G p = some o) : gset G p o = G := by
  funext b
  by_cases e : b = p
  · subst e; rw [gset_same, h]
  · rw [gset_ne e]
@[simp] theorem maxR_2 (i j : Int) (G : Gp) (Q : K3) : maxR [.int i, .int j] G Q = Q (.int (max i j)) G := rfl
@[simp] theorem minR_2 (i j : Int) (G : Gp) (Q : K3) : minR [.int i, .int j] G Q = Q (.int (min i j)) G := rfl
theorem minR_l {ns : List Int} {G : Gp} {Q : K3} (h : ns ≠ []) (q : Q (.int (minI ns)) G) : minR [.lst (ns.map .int)] G Q := ⟨rfl, ns, rfl, h, q⟩
theorem maxR_l {ns : List Int} {G : Gp} {Q : K3} (h : ns ≠ []) (q : Q (.int (maxI ns)) G) : maxR [.lst (ns.map .int)] G Q := ⟨rfl, ns, rfl, h, q⟩
theorem lcRunM {α : Type} {δ0 : St3} {g : TG3} {tt : TT3} {te : TE3} {G : Gp} {k : List D → Gp → Prop} (f : α → D) (p : α → Bool) (y : α → D) : ∀ (xs : List α) (acc : List D), (∀ x ∈ xs, LcStep δ0 g tt te G (f x) (p x) (y x)) → acc.length + xs.length ≤ sizeLine → k (acc ++ (xs.filter p).map y) G → LcRun δ0 g tt te (xs.map f) acc G k
  | [], acc, _, _, h => by simpa [LcRun] using h
  | x :: xs, acc, hs, hl, h => by
    have hl' : acc.length + xs.length + 1 ≤ sizeLine := by simpa [Nat.add_assoc] using hl
    refine hs x (List.mem_cons_self ..) _ _ (fun hp => ⟨by omega, ?_⟩) (fun hp => ?_)
    · refine lcRunM f p y xs (acc ++ [y x]) (fun x' hx => hs x' (List.mem_cons_of_mem _ hx)) (by simp; omega) ?_
      simpa [List.filter_cons, hp] using h
    · refine lcRunM f p y xs acc (fun x' hx => hs x' (List.mem_cons_of_mem _ hx)) (by omega) ?_
      simpa [List.filter_cons, hp] using h
/-! ### range with a step -/
def rangeC3 (i c : Int) (n : Nat) : List D := (List.range n).map fun (k : Nat) => D.int (i + (k : Int) * c)
section
variable {K : PySem.W.Frag} {Γ : Gm} {X : Cx} {W : WX} {a b c tg : Expr} {pos : Pos}
theorem walk_rngC {lo c : Int} {n : Nat} : Walk3 K Γ (Itc lo c n) (fun _ _ => True) (rangeC3 lo c n) where
  keep := fun _ _ _ _ _ h => h
  go := fun i H G hi _ _ => by
    show i < n
    simpa [rangeC3] using hi
  yld := fun i H G x H' hi _ R y => by
    obtain ⟨rfl, rfl⟩ := y
    have hi : i < n := by simpa [rangeC3] using hi
    exact ⟨Step.refl, R, .int (lo + (i : Int) * c), by simp [rangeC3, hi], rfl⟩
  stop := fun H G _ _ => by
    show n ≤ (rangeC3 lo c n).length
    simp [rangeC3]
@[simp] def IRng3 (t : TA3) : TI3 := fun δ G Q E => t δ G (fun ds G1 => match ds with | [.int i, .int j, .int c] => ∃ n, RgC i j c n ∧ Q (rangeC3 i c n) G1 | _ => False) E
theorem pi3_range3 {t : TA3} {p : Pos} (hg : Gl X "range") (hm : X.mg "range" = none) (ha : PA3 X Γ W [a, b, c] t) (hs : starEach [a, b, c] X.env = (false, eval a X.env) :: starEach [b, c] X.env := by rfl) (hpl : (backTo pos (starEach [b, c] X.env)).any (·.1) = false := by rfl) :
    PI3 X Γ W tg (.Call (.Name "range" p) [a, b, c] [] pos) (IRng3 t) := pi_imp (pi_range3 hg hm ha hs hpl) fun σ H R' hw => by
  obtain ⟨δ, G, Q3, E3, R, h1, k, ke⟩ := hw
  refine ⟨δ, G, _, E3, R, h1, fun ds vs G1 H1 s1 hp1 dl q => ?_, ke⟩
  split at q
  · obtain ⟨n, hr, q⟩ := q
    obtain ⟨v, r, rfl, rfl, l⟩ := dl
    obtain ⟨v2, v3, rfl, d2, d3⟩ := datL_two l
    exact ⟨_, _, _, n, by rw [show v2 = _ from d2, show v3 = _ from d3], hr, k _ _ _ G1 H1 s1 hp1 walk_rngC trivial q⟩
  · exact q.elim
end
theorem Kp.transN {as bs : List Addr} {G0 G G' : Gp} (k1 : Kp as G0 G) (k2 : Kp bs G G') (h : ∀ x ∈ bs, x ∈ as ∨ G0 x = none) : Kp as G0 G' := fun x g e n => k2 x g (k1 x g e n) fun z => by
  rcases h x z with q | q
  · exact n q
  · rw [q] at e; cases e
theorem RgC_pos {b c : Int} {n : Nat} (hb : 0 ≤ b) (hb' : b < 1073741824) (hc : 1 ≤ c) (hc' : c < 1073741824) (hn : (b + c - 1) / c = n) : RgC 0 b c n := by
  have h1 : (n : Int) ≤ b + c - 1 := by rw [← hn]; exact Int.ediv_le_self _ (by omega)
  refine ⟨by omega, by omega, ?_, by rw [rangeSize_pos hc hb, hn]⟩
  unfold Builtin.Range.small
  rw [rangeSize_pos hc hb, hn]
  simp only [Builtin.Range.rangeFitsLong, Bool.and_eq_true, Bool.or_eq_true, decide_eq_true_eq, beq_iff_eq, show c > 0 by omega, if_true]
  omega
/-! ### lists of lambdas that are all refused -/
def Refused (CS : Addr) (t : TE3) : Prop := ∀ (G : Gp) (Q : K3) (E : X3), (∀ G', E (.ref CS) G') → t [] G Q E
theorem slot_set : ∀ {δ : St3} {j : Nat} {d : D}, j < δ.length → slot (δ.set j (some d)) j = some d
  | [], _, _, h => absurd h (by simp)
  | _ :: _, 0, _, _ => rfl
  | _ :: δ, j + 1, d, h => slot_set (δ := δ) (j := j) (d := d) (by simpa using h)
theorem lc_bad {K : PySem.W.Frag} {CS : Addr} {rt : Str} {ts : List TE3} {δ0 : St3} {j : Nat} {te : TE3} {k : List D → Gp → Prop} (hj : j < δ0.length) (hx : PySem.W.exmOne K (.ref CS) (.ref CS) = some true) : ∀ (is : List Nat) (acc : List D) (G : Gp), (∀ i ∈ is, ∃ t, ts[i]? = some t ∧ Refused CS t) → (∀ G', k acc G') →
    LcRun δ0 (GName j) (TTest (TOp neC (TToldV K CS rt (TVar j) ts) (TC (.str rt)))) te (is.map .clo) acc G k
  | [], acc, G, _, hk => hk G
  | i :: is, acc, G, h, hk => by
    obtain ⟨t, ht, hr⟩ := h i (List.mem_cons_self ..)
    show TTest (TOp neC (TToldV K CS rt (TVar j) ts) (TC (.str rt))) (δ0.set j (some (.clo i))) G _ X0
    have hs : slot (δ0.set j (some (.clo i))) j = some (.clo i) := slot_set hj
    simp only [TTest, TOp, TToldV, TVar, hs, ht]
    refine hr G _ _ fun G' => ⟨hx, ?_⟩
    simp only [TC, neC_ss, decide_true, Bool.not_true]
    exact lc_bad hj hx is acc G' (fun i' hi => h i' (List.mem_cons_of_mem _ hi)) hk
end L3
namespace K08
open PySem PySem.Spec PyProof.Rows L2 L3
structure Ad where
  JobError : Addr
  Marks : Addr
  Sessions : Addr
  Windows : Addr
  f_Marks_time_now : Addr
  d_Marks_time_now : FuncData
  f_Marks_init : Addr
  d_Marks_init : FuncData
  f_Marks_tell : Addr
  d_Marks_tell : FuncData
  f_Marks_rest : Addr
  d_Marks_rest : FuncData
  f_Windows_init : Addr
  d_Windows_init : FuncData
  f_Windows_around : Addr
  d_Windows_around : FuncData
  f_Sessions_init : Addr
  d_Sessions_init : FuncData
  f_Sessions_joined : Addr
  d_Sessions_joined : FuncData
  f_law_dice : Addr
  d_law_dice : FuncData
  f_law_roll : Addr
  d_law_roll : FuncData
  f_law_rounds : Addr
  d_law_rounds : FuncData
  f_law_told : Addr
  d_law_told : FuncData
  f_law_spans : Addr
  d_law_spans : FuncData
  f_law : Addr
  d_law : FuncData
/-! ### data and promises -/
def mkM (ms : List (Str × Int)) : List (Key × D) := ms.map fun p => (.inr p.1, .int p.2)
def mkI (is : List Str) : List (Key × D) := is.map fun n => (.inr n, .bl true)
structure MarksAt (C : Addr) (G : Gp) (m p q : Addr) (ms : List (Str × Int)) (idle : List Str) (now : Int) : Prop where
  om : G m = some (.ins C [("marks", .ref p), ("idle", .ref q), ("now", .int now)])
  op : G p = some (.dK (mkM ms))
  oq : G q = some (.dK (mkI idle))
  ne : p ≠ q
/-- the times that count -/
def rowsOf (ms : List (Str × Int)) (idle : List Str) : List Int := (ms.filter fun p => decide (p.1 ∉ idle)).map (·.2)
def nextNow (ms : List (Str × Int)) (idle : List Str) (now : Int) : Int := if rowsOf ms idle = [] then now else max now (minI (rowsOf ms idle))
def setM (ms : List (Str × Int)) (n : Str) (t : Int) : List (Str × Int) := ms.map fun p => if p.1 = n then (p.1, max p.2 t) else p
def addI (is : List Str) (n : Str) : List Str := if n ∈ is then is else is ++ [n]
def delI (is : List Str) (n : Str) : List Str := is.filter fun x => decide (x ≠ n)
def sp_Marks_time_now (_ : PySem.W.Frag) (a : Ad) : Sp3 := fun ds G Q _ => ∃ (m p q : Addr) (ms : List (Str × Int)) (idle : List Str) (now : Int), ds = [.ref m] ∧ MarksAt a.Marks G m p q ms idle now ∧ (ms.map (·.1)).Nodup ∧ ms.length ≤ 3 ∧
  ∀ G', Kp [m, p, q] G G' → MarksAt a.Marks G' m p q ms idle (nextNow ms idle now) → Q (.int (nextNow ms idle now)) G'
def sp_Marks_init (_ : PySem.W.Frag) (a : Ad) : Sp3 := fun ds G Q _ => ∃ (m : Addr) (names : List Str), ds = [.ref m, .lst (names.map .str)] ∧ G m = some (.ins a.Marks []) ∧ names.Nodup ∧ names.length ≤ 3 ∧
  ∀ G' p q, MarksAt a.Marks G' m p q (names.map fun n => (n, 0)) [] 0 → G p = none → G q = none → Kp [m] G G' → Q .non G'
def sp_Marks_tell (_ : PySem.W.Frag) (a : Ad) : Sp3 := fun ds G Q E => ∃ (m p q : Addr) (ms : List (Str × Int)) (idle : List Str) (now : Int) (n : Str) (t : Int), ds = [.ref m, .str n, .int t] ∧ MarksAt a.Marks G m p q ms idle now ∧ (ms.map (·.1)).Nodup ∧ ms.length ≤ 3 ∧ idle.length ≤ 3 ∧
  (n ∈ ms.map (·.1) → ∀ G', Kp [m, p, q] G G' → MarksAt a.Marks G' m p q (setM ms n t) (delI idle n) (nextNow (setM ms n t) (delI idle n) now) → Q (.int (nextNow (setM ms n t) (delI idle n) now)) G') ∧
  (n ∉ ms.map (·.1) → E (.ref a.JobError) G)
def sp_Marks_rest (_ : PySem.W.Frag) (a : Ad) : Sp3 := fun ds G Q E => ∃ (m p q : Addr) (ms : List (Str × Int)) (idle : List Str) (now : Int) (n : Str), ds = [.ref m, .str n] ∧ MarksAt a.Marks G m p q ms idle now ∧ (ms.map (·.1)).Nodup ∧ ms.length ≤ 3 ∧ idle.length ≤ 3 ∧
  (n ∈ ms.map (·.1) → ∀ G', Kp [m, p, q] G G' → MarksAt a.Marks G' m p q ms (addI idle n) (nextNow ms (addI idle n) now) → Q (.int (nextNow ms (addI idle n) now)) G') ∧
  (n ∉ ms.map (·.1) → E (.ref a.JobError) G)
def sp_Windows_init (_ : PySem.W.Frag) (a : Ad) : Sp3 := fun ds G Q E => ∃ (w : Addr) (l s : Int), ds = [.ref w, .int l, .int s] ∧ G w = some (.ins a.Windows []) ∧
  ((0 < s ∧ s ≤ l) → Q .non (gset G w (.ins a.Windows [("length", .int l), ("step", .int s)]))) ∧ (¬ (0 < s ∧ s ≤ l) → E (.ref a.JobError) G)
/-- the windows that t is in -/
def winsOf (l s t : Int) : List (Int × Int) := (((List.range ((t / s).toNat + 1)).map fun (i : Nat) => (i : Int) * s).filter fun b => decide (t < b + l)).map fun b => (b, b + l)
def sp_Windows_around (_ : PySem.W.Frag) (a : Ad) : Sp3 := fun ds G Q _ => ∃ (w : Addr) (l s t : Int), ds = [.ref w, .int t] ∧ G w = some (.ins a.Windows [("length", .int l), ("step", .int s)]) ∧ 0 < s ∧ s ≤ l ∧ l ≤ 1000 ∧ 0 ≤ t ∧ t ≤ 1000 ∧
  ∀ G', Kp [] G G' → Q (.tup ((winsOf l s t).map iiD)) G'
def sp_Sessions_init (_ : PySem.W.Frag) (a : Ad) : Sp3 := fun ds G Q E => ∃ (w : Addr) (g : Int), ds = [.ref w, .int g] ∧ G w = some (.ins a.Sessions []) ∧
  (1 ≤ g → Q .non (gset G w (.ins a.Sessions [("gap", .int g)]))) ∧ (¬ 1 ≤ g → E (.ref a.JobError) G)
/-- the joining of a time: (first, end), what is taken -/
def joinT (s : (Int × Int) × List (Int × Int)) (x : Int × Int) : (Int × Int) × List (Int × Int) := if x.1 < s.1.2 ∧ s.1.1 < x.2 then ((min s.1.1 x.1, max s.1.2 x.2), s.2 ++ [x]) else s
def joinR (g t : Int) (xs : List (Int × Int)) : (Int × Int) × List (Int × Int) := xs.foldl joinT ((t, t + g), [])
def restOf (xs taken : List (Int × Int)) : List (Int × Int) := xs.filter fun x => decide (x ∉ taken)
def sp_Sessions_joined (_ : PySem.W.Frag) (a : Ad) : Sp3 := fun ds G Q _ => ∃ (w : Addr) (g t : Int) (xs : List (Int × Int)), ds = [.ref w, .tup (xs.map iiD), .int t] ∧ G w = some (.ins a.Sessions [("gap", .int g)]) ∧ xs.length ≤ 1000 ∧
  ∀ (ys : List (Int × Int)) (G' : Gp), ys.Perm (restOf xs (joinR g t xs).2 ++ [(joinR g t xs).1]) → ys.Pairwise lexI → Kp [] G G' → Q (.tup [.tup (ys.map iiD), iiD (joinR g t xs).1, .tup ((joinR g t xs).2.map iiD)]) G'
def sp_law_dice (_ : PySem.W.Frag) (_ : Ad) : Sp3 := spDice
def sp_law_roll (_ : PySem.W.Frag) (_ : Ad) : Sp3 := spRoll
def sp_law_rounds (_ : PySem.W.Frag) (_ : Ad) : Sp3 := spRounds
/-- the law's own spans -/
def spanS (g : Int) (acc : List (Int × Int)) (t : Int) : List (Int × Int) := match acc.getLast? with
  | some l => if t < l.2 then acc.dropLast ++ [(l.1, t + g)] else acc ++ [(t, t + g)]
  | none => [(t, t + g)]
def spansOf (g : Int) (ts : List Int) : List (Int × Int) := ts.foldl (spanS g) []
def sp_law_spans (_ : PySem.W.Frag) (_ : Ad) : Sp3 := fun ds G Q _ => ∃ (p : Addr) (ts : List Int) (g : Int), ds = [.ref p, .int g] ∧ G p = some (.lst (ts.map .int)) ∧ ts.length ≤ 1000 ∧
  ∀ (srt : List Int) (G' : Gp), srt.Perm ts → srt.Pairwise (· ≤ ·) → Kp [] G G' → Q (.lst ((spansOf g srt).map iiD)) G'
abbrev N_Marks_time_now : List Str := ["self", "told", "name"]
@[simp] def T_Marks_time_now_r31 (K : PySem.W.Frag) (a : Ad) : TS3 :=
  (TRet (TFld K "now" (TVar 0)))
def T_Marks_time_now (K : PySem.W.Frag) (a : Ad) : TS3 :=
  (TSeq (TLkS (pthF 0 "marks") (TSet (TLc (IKeys (TFld K "marks" (TVar 0))) (GName 2) (TTest (TOp (inC true) (TVar 2) (TFld K "idle" (TVar 0)))) (TOp subC (TFld K "marks" (TVar 0)) (TVar 2)) [2]) 1))
  (TSeq (TIfS (TTest (TOp neC (TVar 1) (TLst TNil))) (TSFld K "now" (TVar 0) (TCB maxR (TCons (TFld K "now" (TVar 0)) (TCons (TCB minR (TCons (TVar 1) TNil)) TNil))))
  TNext)
  (T_Marks_time_now_r31 K a)))
abbrev N_Marks_init : List Str := ["self", "names", "name"]
def T_Marks_init (K : PySem.W.Frag) (a : Ad) : TS3 :=
  (TSeq (TSFld K "marks" (TVar 0) (TDc (ISeq (TVar 1)) (GName 2) TYes (TVar 2) (TC (.int 0)) [2]))
  (TSeq (TSFld K "idle" (TVar 0) TDNewK)
  (TSFld K "now" (TVar 0) (TC (.int 0)))))
abbrev N_Marks_tell : List Str := ["self", "name", "time"]
@[simp] def T_Marks_tell_r17 (K : PySem.W.Frag) (a : Ad) : TS3 :=
  (TSeq (TDrop (TPop2C (TFld K "idle" (TVar 0)) (TVar 1) (TC .non)))
  (TSeq (TAsg (TCB maxR (TCons (TOp subC (TFld K "marks" (TVar 0)) (TVar 1)) (TCons (TVar 2) TNil))) (GSubC (TFld K "marks" (TVar 0)) (TVar 1)))
  (TRet (TMeth a.Marks "time_now" (sp_Marks_time_now K a) [] (TVar 0) TNil))))
def T_Marks_tell (K : PySem.W.Frag) (a : Ad) : TS3 :=
  (TSeq (TIfS (TTest (TOp (inC true) (TVar 1) (TFld K "marks" (TVar 0)))) (TRaise a.JobError (TCons (TC (.str "no such channel")) TNil))
  TNext)
  (T_Marks_tell_r17 K a))
abbrev N_Marks_rest : List Str := ["self", "name"]
@[simp] def T_Marks_rest_r24 (K : PySem.W.Frag) (a : Ad) : TS3 :=
  (TSeq (TAsg (TC (.bl true)) (GSubC (TFld K "idle" (TVar 0)) (TVar 1)))
  (TRet (TMeth a.Marks "time_now" (sp_Marks_time_now K a) [] (TVar 0) TNil)))
def T_Marks_rest (K : PySem.W.Frag) (a : Ad) : TS3 :=
  (TSeq (TIfS (TTest (TOp (inC true) (TVar 1) (TFld K "marks" (TVar 0)))) (TRaise a.JobError (TCons (TC (.str "no such channel")) TNil))
  TNext)
  (T_Marks_rest_r24 K a))
abbrev N_Windows_init : List Str := ["self", "length", "step"]
@[simp] def T_Windows_init_r37 (K : PySem.W.Frag) (a : Ad) : TS3 :=
  (TSeq (TSFld K "length" (TVar 0) (TVar 1))
  (TSFld K "step" (TVar 0) (TVar 2)))
def T_Windows_init (K : PySem.W.Frag) (a : Ad) : TS3 :=
  (TSeq (TIfS (TNot (TTest (TChain ltR leR (TC (.int 0)) (TVar 2) (TVar 1)))) (TRaise a.JobError (TCons (TC (.str "no windows")) TNil))
  TNext)
  (T_Windows_init_r37 K a))
abbrev N_Windows_around : List Str := ["self", "time", "first", "found"]
@[simp] def T_Windows_around_43 (K : PySem.W.Frag) (a : Ad) : TS3 :=
  (TSeq (TDrop (TApp (TVar 3) (TCons (TTup (TCons (TVar 2) (TCons (TOp addR (TVar 2) (TFld K "length" (TVar 0))) TNil))) TNil)))
  (TAug 2 subR (TFld K "step" (TVar 0))))
@[simp] def T_Windows_around_r46 (K : PySem.W.Frag) (a : Ad) : TS3 :=
  (TRet (TCB tupR (TCons (TRev (TVar 3)) TNil)))
def T_Windows_around (K : PySem.W.Frag) (a : Ad) : TS3 :=
  (TSeq (TSet (TOp mulR (TOp fdivR (TVar 1) (TFld K "step" (TVar 0))) (TFld K "step" (TVar 0))) 2)
  (TSeq (TSet (TLstM TNil) 3)
  (TSeq (TWhile (TAnd (TTest (TOp gtR (TVar 2) (TOp subR (TVar 1) (TFld K "length" (TVar 0))))) (TTest (TOp geR (TVar 2) (TC (.int 0)))))
  (T_Windows_around_43 K a))
  (T_Windows_around_r46 K a))))
abbrev N_Sessions_init : List Str := ["self", "gap"]
@[simp] def T_Sessions_init_r52 (K : PySem.W.Frag) (a : Ad) : TS3 :=
  (TSFld K "gap" (TVar 0) (TVar 1))
def T_Sessions_init (K : PySem.W.Frag) (a : Ad) : TS3 :=
  (TSeq (TIfS (TTest (TOp ltR (TVar 1) (TC (.int 1)))) (TRaise a.JobError (TCons (TC (.str "no gap")) TNil))
  TNext)
  (T_Sessions_init_r52 K a))
abbrev N_Sessions_joined : List Str := ["self", "spans", "time", "first", "end", "taken", "span", "rest"]
@[simp] def T_Sessions_joined_57 (K : PySem.W.Frag) (a : Ad) : TS3 :=
  (TIfS (TAnd (TTest (TOp ltR (TOp subC (TVar 6) (TC (.int 0))) (TVar 4))) (TTest (TOp ltR (TVar 3) (TOp subC (TVar 6) (TC (.int 1)))))) (TSeq (TPar 3 4 (TCons (TCB minR (TCons (TVar 3) (TCons (TOp subC (TVar 6) (TC (.int 0))) TNil))) (TCons (TCB maxR (TCons (TVar 4) (TCons (TOp subC (TVar 6) (TC (.int 1))) TNil))) TNil)))
  (TDrop (TApp (TVar 5) (TCons (TVar 6) TNil))))
  TNext)
@[simp] def T_Sessions_joined_r61 (K : PySem.W.Frag) (a : Ad) : TS3 :=
  (TSeq (TSet (TLc (ITup (TVar 1)) (GName 6) (TTest (TOp (inC true) (TVar 6) (TVar 5))) (TVar 6) [6]) 7)
  (TRet (TTup (TCons (TCB tupR (TCons (TCB sortedR (TCons (TOp addR (TVar 7) (TLst (TCons (TTup (TCons (TVar 3) (TCons (TVar 4) TNil))) TNil))) TNil)) TNil)) (TCons (TTup (TCons (TVar 3) (TCons (TVar 4) TNil))) (TCons (TCB tupR (TCons (TVar 5) TNil)) TNil))))))
def T_Sessions_joined (K : PySem.W.Frag) (a : Ad) : TS3 :=
  (TSeq (TPar 3 4 (TCons (TVar 2) (TCons (TOp addR (TVar 2) (TFld K "gap" (TVar 0))) TNil)))
  (TSeq (TSet (TLstM TNil) 5)
  (TSeq (TFor (ITup (TVar 1)) (GName 6)
  (T_Sessions_joined_57 K a))
  (T_Sessions_joined_r61 K a))))
abbrev N_law_dice : List Str := ["cell"]
@[simp] def T_law_dice_r67 (K : PySem.W.Frag) (a : Ad) : TS3 :=
  (TRet (TLstM (TCons (TVar 0) (TCons (TOp addR (TC (.int 1)) (TOp modR (TCB intR (TCons (TVar 0) TNil)) (TC (.int 1009)))) (TCons (TCB intR (TCons (TOp geR (TVar 0) (TOp powR (TC (.int 10)) (TC (.int 18)))) TNil)) TNil)))))
def T_law_dice (K : PySem.W.Frag) (a : Ad) : TS3 :=
  (TSeq (TIfS (TTest (TChain ltR ltR (TOp subR (TC (.int 0)) (TC (.int 10))) (TVar 0) (TC (.int 10)))) (TRet (TLstM (TCons (TCB absR (TCons (TVar 0) TNil)) (TCons (TC (.int 0)) (TCons (TC (.int 2)) TNil)))))
  TNext)
  (T_law_dice_r67 K a))
abbrev N_law_roll : List Str := ["dice", "many", "found"]
@[simp] def T_law_roll_r76 (K : PySem.W.Frag) (a : Ad) : TS3 :=
  (TSeq (TAsg (TOp modR (TCB intR (TCons (TOp addR (TOp addR (TOp mulR (TOp subC (TVar 0) (TC (.int 0))) (TC (.int 48271))) (TOp mulR (TOp subC (TVar 0) (TC (.int 1))) (TC (.int 69621)))) (TC (.int 11))) TNil)) (TC (.int 2147483647))) (GSubC (TVar 0) (TC (.int 0))))
  (TSeq (TAsg (TOp addR (TOp subC (TVar 0) (TC (.int 1))) (TC (.int 1))) (GSubC (TVar 0) (TC (.int 1))))
  (TRet (TOp modR (TCB intR (TCons (TOp fdivR (TOp subC (TVar 0) (TC (.int 0))) (TC (.int 7))) TNil)) (TVar 1)))))
@[simp] def T_law_roll_r73 (K : PySem.W.Frag) (a : Ad) : TS3 :=
  (TSeq (TAsg (TC (.int 0)) (GSubC (TVar 0) (TC (.int 2))))
  (TSeq (TIfS (TTest (TOp gtR (TVar 1) (TC (.int 100000000)))) TDead
  TNext)
  (T_law_roll_r76 K a)))
def T_law_roll (K : PySem.W.Frag) (a : Ad) : TS3 :=
  (TSeq (TIfS (TOr (TTest (TOp eqC (TOp subC (TVar 0) (TC (.int 2))) (TC (.int 2)))) (TAnd (TTest (TOp eqC (TOp subC (TVar 0) (TC (.int 2))) (TC (.int 1)))) (TTest (TOp gtR (TOp subC (TVar 0) (TC (.int 0))) (TC (.int 0)))))) (TSeq (TSet (TOp modR (TCB intR (TCons (TOp subC (TVar 0) (TC (.int 0))) TNil)) (TVar 1)) 2)
  (TSeq (TAsg (TOp fdivR (TOp subC (TVar 0) (TC (.int 0))) (TVar 1)) (GSubC (TVar 0) (TC (.int 0))))
  (TRet (TVar 2))))
  TNext)
  (T_law_roll_r73 K a))
abbrev N_law_rounds : List Str := ["script", "most", "cells", "cell"]
@[simp] def T_law_rounds_r83 (K : PySem.W.Frag) (a : Ad) : TS3 :=
  (TRet (TLc (ISeq (TVar 2)) (GName 3) TYes (TCall (sp_law_dice K a) [] (TCons (TVar 3) TNil)) [3]))
def T_law_rounds (K : PySem.W.Frag) (a : Ad) : TS3 :=
  (TSeq (TSet (TSl (TVar 0) TNoPart (TPart (TVar 1))) 2)
  (TSeq (TIfS (TTest (TOp eqC (TVar 2) (TLst TNil))) (TSet (TLst (TCons (TC (.int 0)) TNil)) 2)
  TNext)
  (T_law_rounds_r83 K a)))
abbrev N_law_told : List Str := ["what"]
abbrev N_law_spans : List Str := ["times", "gap", "found", "time"]
@[simp] def T_law_spans_91 (K : PySem.W.Frag) (a : Ad) : TS3 :=
  (TIfS (TAnd (TTest (TOp neC (TVar 2) (TLst TNil))) (TTest (TOp ltR (TVar 3) (TOp subC (TOp subC (TVar 2) (TOp subR (TCB lenR (TCons (TVar 2) TNil)) (TC (.int 1)))) (TC (.int 1)))))) (TAsg (TTup (TCons (TOp subC (TOp subC (TVar 2) (TOp subR (TCB lenR (TCons (TVar 2) TNil)) (TC (.int 1)))) (TC (.int 0))) (TCons (TOp addR (TVar 3) (TVar 1)) TNil))) (GSubC (TVar 2) (TOp subR (TCB lenR (TCons (TVar 2) TNil)) (TC (.int 1)))))
  (TDrop (TApp (TVar 2) (TCons (TTup (TCons (TVar 3) (TCons (TOp addR (TVar 3) (TVar 1)) TNil))) TNil))))
@[simp] def T_law_spans_r96 (K : PySem.W.Frag) (a : Ad) : TS3 :=
  (TRet (TVar 2))
def T_law_spans (K : PySem.W.Frag) (a : Ad) : TS3 :=
  (TSeq (TSet (TLstM TNil) 2)
  (TSeq (TFor (ISeq (TCB sortedR (TCons (TVar 0) TNil))) (GName 3)
  (T_law_spans_91 K a))
  (T_law_spans_r96 K a)))
abbrev N_law : List Str := ["script", "dice", "names", "marks", "told", "idle", "now", "step", "name", "found", "time", "rows", "length", "windows", "gap", "times", "spans", "sessions", "k", "before", "span", "taken", "bad", "one", "begin", "f"]
def lams_law (K : PySem.W.Frag) (a : Ad) : List TE3 := [(TMake a.Windows (sp_Windows_init K a) [] (TCons (TC (.int 3)) (TCons (TC (.int 0)) TNil))), (TMake a.Windows (sp_Windows_init K a) [] (TCons (TC (.int 0)) (TCons (TC (.int 0)) TNil))), (TMake a.Sessions (sp_Sessions_init K a) [] (TCons (TC (.int 0)) TNil)), (TMeth a.Marks "tell" (sp_Marks_tell K a) [] (TMake a.Marks (sp_Marks_init K a) [] (TCons (TLst (TCons (TC (.str "a")) TNil)) TNil)) (TCons (TC (.str "b")) (TCons (TC (.int 1)) TNil))), (TMeth a.Marks "rest" (sp_Marks_rest K a) [] (TMake a.Marks (sp_Marks_init K a) [] (TCons (TLst (TCons (TC (.str "a")) TNil)) TNil)) (TCons (TC (.str "b")) TNil))]
def T_law_r110 (K : PySem.W.Frag) (a : Ad) : TS3 :=
  (TSeq (TSet (TLc (ISeq (TVar 2)) (GName 23) (TTest (TOp (inC true) (TVar 23) (TVar 5))) (TOp subC (TVar 4) (TVar 23)) [23]) 11)
  (TSeq (TSet (TIf (TTest (TOp neC (TVar 11) (TLst TNil))) (TCB maxR (TCons (TVar 6) (TCons (TCB minR (TCons (TVar 11) TNil)) TNil))) (TVar 6)) 6)
  (TIfS (TOr (TTest (TOp neC (TVar 9) (TVar 6))) (TOr (TTest (TOp neC (TFld K "now" (TVar 3)) (TVar 6))) (TTest (TOp neC (TMeth a.Marks "time_now" (sp_Marks_time_now K a) [] (TVar 3) TNil) (TVar 6))))) (TRet (TC (.bl false)))
  TNext)))
def T_law_101 (K : PySem.W.Frag) (a : Ad) : TS3 :=
  (TSeq (TSet (TOp subC (TVar 2) (TCall (sp_law_roll K a) [] (TCons (TVar 1) (TCons (TCB lenR (TCons (TVar 2) TNil)) TNil)))) 8)
  (TSeq (TIfS (TTest (TOp eqC (TCall (sp_law_roll K a) [] (TCons (TVar 1) (TCons (TC (.int 4)) TNil))) (TC (.int 0)))) (TSeq (TSet (TOp addR (TVar 5) (TOp mulR (TLst (TCons (TVar 8) TNil)) (TCB intR (TCons (TOp (inC true) (TVar 8) (TVar 5)) TNil)))) 5)
  (TSet (TMeth a.Marks "rest" (sp_Marks_rest K a) [] (TVar 3) (TCons (TVar 8) TNil)) 9))
  (TSeq (TSet (TCall (sp_law_roll K a) [] (TCons (TVar 1) (TCons (TC (.int 40)) TNil))) 10)
  (TSeq (TAsg (TTup (TCons (TLc (ISeq (TVar 5)) (GName 23) (TTest (TOp neC (TVar 23) (TVar 8))) (TVar 23) [23]) (TCons (TCB dictVR (TCons (TLc (ISeq (TVar 2)) (GName 23) TYes (TTup (TCons (TVar 23) (TCons (TIf (TTest (TOp eqC (TVar 23) (TVar 8))) (TCB maxR (TCons (TOp subC (TVar 4) (TVar 23)) (TCons (TVar 10) TNil))) (TOp subC (TVar 4) (TVar 23))) TNil))) [23]) TNil)) TNil))) (GI (GTup 2 (GC2 (GName 5) (GC2 (GName 4) GNil)))))
  (TSet (TMeth a.Marks "tell" (sp_Marks_tell K a) [] (TVar 3) (TCons (TVar 8) (TCons (TVar 10) TNil))) 9))))
  (T_law_r110 K a)))
def T_law_125 (K : PySem.W.Frag) (a : Ad) : TS3 :=
  (TSeq (TSet (TCall (sp_law_roll K a) [] (TCons (TVar 1) (TCons (TC (.int 60)) TNil))) 10)
  (TSeq (TSet (TVar 16) 19)
  (TSeq (TAsg (TMeth a.Sessions "joined" (sp_Sessions_joined K a) [] (TVar 17) (TCons (TVar 16) (TCons (TVar 10) TNil))) (GI (GTup 3 (GC2 (GName 16) (GC2 (GName 20) (GC2 (GName 21) GNil))))))
  (TSeq (TDrop (TApp (TVar 15) (TCons (TVar 10) TNil)))
  (TIfS (TOr (TTest (TOp neC (TCB listR (TCons (TVar 16) TNil)) (TCall (sp_law_spans K a) [] (TCons (TVar 15) (TCons (TVar 14) TNil))))) (TOr (TTest (TOp (inC true) (TVar 20) (TVar 16))) (TOr (TNot (TTest (TChain leR ltR (TOp subC (TVar 20) (TC (.int 0))) (TVar 10) (TOp subC (TVar 20) (TC (.int 1)))))) (TTest (TOp neC (TCB sortedR (TCons (TVar 21) TNil)) (TLc (ITup (TVar 19)) (GName 23) (TOr (TTest (TOp (inC true) (TVar 23) (TVar 16))) (TTest (TOp eqC (TVar 23) (TVar 20)))) (TVar 23) [23])))))) (TRet (TC (.bl false)))
  TNext)))))
def T_law_r123 (K : PySem.W.Frag) (a : Ad) : TS3 :=
  (TSeq (TAsg (TTup (TCons (TOp addR (TC (.int 1)) (TCall (sp_law_roll K a) [] (TCons (TVar 1) (TCons (TC (.int 6)) TNil)))) (TCons (TLstM TNil) (TCons (TTup TNil) TNil)))) (GI (GTup 3 (GC2 (GName 14) (GC2 (GName 15) (GC2 (GName 16) GNil))))))
  (TSeq (TSet (TMake a.Sessions (sp_Sessions_init K a) [] (TCons (TVar 14) TNil)) 17)
  (TFor (IRng1 (TCons (TCall (sp_law_roll K a) [] (TCons (TVar 1) (TCons (TC (.int 21)) TNil))) TNil)) (GName 18)
  (T_law_125 K a))))
def T_law_r114 (K : PySem.W.Frag) (a : Ad) : TS3 :=
  (TSeq (TAsg (TTup (TCons (TOp addR (TC (.int 1)) (TCall (sp_law_roll K a) [] (TCons (TVar 1) (TCons (TC (.int 6)) TNil)))) (TCons (TOp addR (TC (.int 1)) (TCall (sp_law_roll K a) [] (TCons (TVar 1) (TCons (TC (.int 12)) TNil)))) TNil))) (GI (GTup 2 (GC2 (GName 7) (GC2 (GName 12) GNil)))))
  (TSeq (TIfS (TTest (TOp gtR (TVar 7) (TVar 12))) (TIfS (TTest (TOp neC (TTold3 K a.JobError "JobError" (TMake a.Windows (sp_Windows_init K a) [] (TCons (TVar 12) (TCons (TVar 7) TNil)))) (TC (.str "JobError")))) (TRet (TC (.bl false)))
  TNext)
  (TSeq (TAsg (TTup (TCons (TMake a.Windows (sp_Windows_init K a) [] (TCons (TVar 12) (TCons (TVar 7) TNil))) (TCons (TCall (sp_law_roll K a) [] (TCons (TVar 1) (TCons (TC (.int 60)) TNil))) TNil))) (GI (GTup 2 (GC2 (GName 13) (GC2 (GName 10) GNil)))))
  (TIfS (TTest (TOp neC (TCB listR (TCons (TMeth a.Windows "around" (sp_Windows_around K a) [] (TVar 13) (TCons (TVar 10) TNil)) TNil)) (TLc (IRng3 (TCons (TC (.int 0)) (TCons (TOp addR (TVar 10) (TC (.int 1))) (TCons (TVar 7) TNil)))) (GName 24) (TTest (TChain leR ltR (TVar 24) (TVar 10) (TOp addR (TVar 24) (TVar 12)))) (TTup (TCons (TVar 24) (TCons (TOp addR (TVar 24) (TVar 12)) TNil))) [24]))) (TRet (TC (.bl false)))
  TNext)))
  (T_law_r123 K a)))
def T_law_98 (K : PySem.W.Frag) (a : Ad) : TS3 :=
  (TSeq (TSet (TSl (TLst (TCons (TC (.str "a")) (TCons (TC (.str "b")) (TCons (TC (.str "c")) TNil)))) TNoPart (TPart (TOp addR (TC (.int 1)) (TCall (sp_law_roll K a) [] (TCons (TVar 1) (TCons (TC (.int 3)) TNil)))))) 2)
  (TSeq (TAsg (TTup (TCons (TMake a.Marks (sp_Marks_init K a) [] (TCons (TVar 2) TNil)) (TCons (TCB dictVR (TCons (TLc (ISeq (TVar 2)) (GName 8) TYes (TTup (TCons (TVar 8) (TCons (TC (.int 0)) TNil))) [8]) TNil)) (TCons (TLst TNil) (TCons (TC (.int 0)) TNil))))) (GI (GTup 4 (GC2 (GName 3) (GC2 (GName 4) (GC2 (GName 5) (GC2 (GName 6) GNil)))))))
  (TSeq (TFor (IRng1 (TCons (TCall (sp_law_roll K a) [] (TCons (TVar 1) (TCons (TC (.int 31)) TNil))) TNil)) (GName 7)
  (T_law_101 K a))
  (T_law_r114 K a))))
def T_law_r132 (K : PySem.W.Frag) (a : Ad) : TS3 :=
  (TSeq (TSet (TLst (TCons (TClo 0) (TCons (TClo 1) (TCons (TClo 2) (TCons (TClo 3) TNil))))) 22)
  (TSeq (TSet (TOp addR (TVar 22) (TLst (TCons (TClo 4) TNil))) 22)
  (TRet (TAndV (TOp eqC (TLc (ISeq (TVar 22)) (GName 25) (TTest (TOp neC (TToldV K a.JobError "JobError" (TVar 25) (lams_law K a)) (TC (.str "JobError")))) (TC (.int 1)) [25]) (TLst TNil)) (TAndV (TOp eqC (TMeth a.Windows "around" (sp_Windows_around K a) [] (TMake a.Windows (sp_Windows_init K a) [] (TCons (TC (.int 6)) (TCons (TC (.int 3)) TNil))) (TCons (TC (.int 4)) TNil)) (TTup (TCons (TTup (TCons (TC (.int 0)) (TCons (TC (.int 6)) TNil))) (TCons (TTup (TCons (TC (.int 3)) (TCons (TC (.int 9)) TNil))) TNil)))) (TOp eqC (TMeth a.Sessions "joined" (sp_Sessions_joined K a) [] (TMake a.Sessions (sp_Sessions_init K a) [] (TCons (TC (.int 5)) TNil)) (TCons (TTup (TCons (TTup (TCons (TC (.int 0)) (TCons (TC (.int 5)) TNil))) TNil)) (TCons (TC (.int 5)) TNil))) (TTup (TCons (TTup (TCons (TTup (TCons (TC (.int 0)) (TCons (TC (.int 5)) TNil))) (TCons (TTup (TCons (TC (.int 5)) (TCons (TC (.int 10)) TNil))) TNil))) (TCons (TTup (TCons (TC (.int 5)) (TCons (TC (.int 10)) TNil))) (TCons (TTup TNil) TNil))))))))))
def T_law (K : PySem.W.Frag) (a : Ad) : TS3 :=
  (TSeq (TFor (ISeq (TCall (sp_law_rounds K a) [] (TCons (TVar 0) (TCons (TC (.int 1)) TNil)))) (GName 1)
  (T_law_98 K a))
  (T_law_r132 K a))
@[simp] theorem sne_0_1 : (("around" : Str) == "gap") = false := by decide +kernel
@[simp] theorem sne_0_1e : (("around" : Str) = "gap") = False := eq_false (by decide +kernel)
@[simp] theorem sne_0_2 : (("around" : Str) == "idle") = false := by decide +kernel
@[simp] theorem sne_0_2e : (("around" : Str) = "idle") = False := eq_false (by decide +kernel)
@[simp] theorem sne_0_3 : (("around" : Str) == "joined") = false := by decide +kernel
@[simp] theorem sne_0_3e : (("around" : Str) = "joined") = False := eq_false (by decide +kernel)
@[simp] theorem sne_0_4 : (("around" : Str) == "length") = false := by decide +kernel
@[simp] theorem sne_0_4e : (("around" : Str) = "length") = False := eq_false (by decide +kernel)
@[simp] theorem sne_0_5 : (("around" : Str) == "marks") = false := by decide +kernel
@[simp] theorem sne_0_5e : (("around" : Str) = "marks") = False := eq_false (by decide +kernel)
@[simp] theorem sne_0_6 : (("around" : Str) == "now") = false := by decide +kernel
@[simp] theorem sne_0_6e : (("around" : Str) = "now") = False := eq_false (by decide +kernel)
@[simp] theorem sne_0_7 : (("around" : Str) == "rest") = false := by decide +kernel
@[simp] theorem sne_0_7e : (("around" : Str) = "rest") = False := eq_false (by decide +kernel)
@[simp] theorem sne_0_8 : (("around" : Str) == "step") = false := by decide +kernel
@[simp] theorem sne_0_8e : (("around" : Str) = "step") = False := eq_false (by decide +kernel)
@[simp] theorem sne_0_9 : (("around" : Str) == "tell") = false := by decide +kernel
@[simp] theorem sne_0_9e : (("around" : Str) = "tell") = False := eq_false (by decide +kernel)
@[simp] theorem sne_0_10 : (("around" : Str) == "time_now") = false := by decide +kernel
@[simp] theorem sne_0_10e : (("around" : Str) = "time_now") = False := eq_false (by decide +kernel)
@[simp] theorem sne_1_0 : (("gap" : Str) == "around") = false := by decide +kernel
@[simp] theorem sne_1_0e : (("gap" : Str) = "around") = False := eq_false (by decide +kernel)
@[simp] theorem sne_1_2 : (("gap" : Str) == "idle") = false := by decide +kernel
@[simp] theorem sne_1_2e : (("gap" : Str) = "idle") = False := eq_false (by decide +kernel)
@[simp] theorem sne_1_3 : (("gap" : Str) == "joined") = false := by decide +kernel
@[simp] theorem sne_1_3e : (("gap" : Str) = "joined") = False := eq_false (by decide +kernel)
@[simp] theorem sne_1_4 : (("gap" : Str) == "length") = false := by decide +kernel
@[simp] theorem sne_1_4e : (("gap" : Str) = "length") = False := eq_false (by decide +kernel)
@[simp] theorem sne_1_5 : (("gap" : Str) == "marks") = false := by decide +kernel
@[simp] theorem sne_1_5e : (("gap" : Str) = "marks") = False := eq_false (by decide +kernel)
@[simp] theorem sne_1_6 : (("gap" : Str) == "now") = false := by decide +kernel
@[simp] theorem sne_1_6e : (("gap" : Str) = "now") = False := eq_false (by decide +kernel)
@[simp] theorem sne_1_7 : (("gap" : Str) == "rest") = false := by decide +kernel
@[simp] theorem sne_1_7e : (("gap" : Str) = "rest") = False := eq_false (by decide +kernel)
@[simp] theorem sne_1_8 : (("gap" : Str) == "step") = false := by decide +kernel
@[simp] theorem sne_1_8e : (("gap" : Str) = "step") = False := eq_false (by decide +kernel)
@[simp] theorem sne_1_9 : (("gap" : Str) == "tell") = false := by decide +kernel
@[simp] theorem sne_1_9e : (("gap" : Str) = "tell") = False := eq_false (by decide +kernel)
@[simp] theorem sne_1_10 : (("gap" : Str) == "time_now") = false := by decide +kernel
@[simp] theorem sne_1_10e : (("gap" : Str) = "time_now") = False := eq_false (by decide +kernel)
@[simp] theorem sne_2_0 : (("idle" : Str) == "around") = false := by decide +kernel
@[simp] theorem sne_2_0e : (("idle" : Str) = "around") = False := eq_false (by decide +kernel)
@[simp] theorem sne_2_1 : (("idle" : Str) == "gap") = false := by decide +kernel
@[simp] theorem sne_2_1e : (("idle" : Str) = "gap") = False := eq_false (by decide +kernel)
@[simp] theorem sne_2_3 : (("idle" : Str) == "joined") = false := by decide +kernel
@[simp] theorem sne_2_3e : (("idle" : Str) = "joined") = False := eq_false (by decide +kernel)
@[simp] theorem sne_2_4 : (("idle" : Str) == "length") = false := by decide +kernel
@[simp] theorem sne_2_4e : (("idle" : Str) = "length") = False := eq_false (by decide +kernel)
@[simp] theorem sne_2_5 : (("idle" : Str) == "marks") = false := by decide +kernel
@[simp] theorem sne_2_5e : (("idle" : Str) = "marks") = False := eq_false (by decide +kernel)
@[simp] theorem sne_2_6 : (("idle" : Str) == "now") = false := by decide +kernel
@[simp] theorem sne_2_6e : (("idle" : Str) = "now") = False := eq_false (by decide +kernel)
@[simp] theorem sne_2_7 : (("idle" : Str) == "rest") = false := by decide +kernel
@[simp] theorem sne_2_7e : (("idle" : Str) = "rest") = False := eq_false (by decide +kernel)
@[simp] theorem sne_2_8 : (("idle" : Str) == "step") = false := by decide +kernel
@[simp] theorem sne_2_8e : (("idle" : Str) = "step") = False := eq_false (by decide +kernel)
@[simp] theorem sne_2_9 : (("idle" : Str) == "tell") = false := by decide +kernel
@[simp] theorem sne_2_9e : (("idle" : Str) = "tell") = False := eq_false (by decide +kernel)
@[simp] theorem sne_2_10 : (("idle" : Str) == "time_now") = false := by decide +kernel
@[simp] theorem sne_2_10e : (("idle" : Str) = "time_now") = False := eq_false (by decide +kernel)
@[simp] theorem sne_3_0 : (("joined" : Str) == "around") = false := by decide +kernel
@[simp] theorem sne_3_0e : (("joined" : Str) = "around") = False := eq_false (by decide +kernel)
@[simp] theorem sne_3_1 : (("joined" : Str) == "gap") = false := by decide +kernel
@[simp] theorem sne_3_1e : (("joined" : Str) = "gap") = False := eq_false (by decide +kernel)
@[simp] theorem sne_3_2 : (("joined" : Str) == "idle") = false := by decide +kernel
@[simp] theorem sne_3_2e : (("joined" : Str) = "idle") = False := eq_false (by decide +kernel)
@[simp] theorem sne_3_4 : (("joined" : Str) == "length") = false := by decide +kernel
@[simp] theorem sne_3_4e : (("joined" : Str) = "length") = False := eq_false (by decide +kernel)
@[simp] theorem sne_3_5 : (("joined" : Str) == "marks") = false := by decide +kernel
@[simp] theorem sne_3_5e : (("joined" : Str) = "marks") = False := eq_false (by decide +kernel)
@[simp] theorem sne_3_6 : (("joined" : Str) == "now") = false := by decide +kernel
@[simp] theorem sne_3_6e : (("joined" : Str) = "now") = False := eq_false (by decide +kernel)
@[simp] theorem sne_3_7 : (("joined" : Str) == "rest") = false := by decide +kernel
@[simp] theorem sne_3_7e : (("joined" : Str) = "rest") = False := eq_false (by decide +kernel)
@[simp] theorem sne_3_8 : (("joined" : Str) == "step") = false := by decide +kernel
@[simp] theorem sne_3_8e : (("joined" : Str) = "step") = False := eq_false (by decide +kernel)
@[simp] theorem sne_3_9 : (("joined" : Str) == "tell") = false := by decide +kernel
@[simp] theorem sne_3_9e : (("joined" : Str) = "tell") = False := eq_false (by decide +kernel)
@[simp] theorem sne_3_10 : (("joined" : Str) == "time_now") = false := by decide +kernel
@[simp] theorem sne_3_10e : (("joined" : Str) = "time_now") = False := eq_false (by decide +kernel)
@[simp] theorem sne_4_0 : (("length" : Str) == "around") = false := by decide +kernel
@[simp] theorem sne_4_0e : (("length" : Str) = "around") = False := eq_false (by decide +kernel)
@[simp] theorem sne_4_1 : (("length" : Str) == "gap") = false := by decide +kernel
@[simp] theorem sne_4_1e : (("length" : Str) = "gap") = False := eq_false (by decide +kernel)
@[simp] theorem sne_4_2 : (("length" : Str) == "idle") = false := by decide +kernel
@[simp] theorem sne_4_2e : (("length" : Str) = "idle") = False := eq_false (by decide +kernel)
@[simp] theorem sne_4_3 : (("length" : Str) == "joined") = false := by decide +kernel
@[simp] theorem sne_4_3e : (("length" : Str) = "joined") = False := eq_false (by decide +kernel)
@[simp] theorem sne_4_5 : (("length" : Str) == "marks") = false := by decide +kernel
@[simp] theorem sne_4_5e : (("length" : Str) = "marks") = False := eq_false (by decide +kernel)
@[simp] theorem sne_4_6 : (("length" : Str) == "now") = false := by decide +kernel
@[simp] theorem sne_4_6e : (("length" : Str) = "now") = False := eq_false (by decide +kernel)
@[simp] theorem sne_4_7 : (("length" : Str) == "rest") = false := by decide +kernel
@[simp] theorem sne_4_7e : (("length" : Str) = "rest") = False := eq_false (by decide +kernel)
@[simp] theorem sne_4_8 : (("length" : Str) == "step") = false := by decide +kernel
@[simp] theorem sne_4_8e : (("length" : Str) = "step") = False := eq_false (by decide +kernel)
@[simp] theorem sne_4_9 : (("length" : Str) == "tell") = false := by decide +kernel
@[simp] theorem sne_4_9e : (("length" : Str) = "tell") = False := eq_false (by decide +kernel)
@[simp] theorem sne_4_10 : (("length" : Str) == "time_now") = false := by decide +kernel
@[simp] theorem sne_4_10e : (("length" : Str) = "time_now") = False := eq_false (by decide +kernel)
@[simp] theorem sne_5_0 : (("marks" : Str) == "around") = false := by decide +kernel
@[simp] theorem sne_5_0e : (("marks" : Str) = "around") = False := eq_false (by decide +kernel)
@[simp] theorem sne_5_1 : (("marks" : Str) == "gap") = false := by decide +kernel
@[simp] theorem sne_5_1e : (("marks" : Str) = "gap") = False := eq_false (by decide +kernel)
@[simp] theorem sne_5_2 : (("marks" : Str) == "idle") = false := by decide +kernel
@[simp] theorem sne_5_2e : (("marks" : Str) = "idle") = False := eq_false (by decide +kernel)
@[simp] theorem sne_5_3 : (("marks" : Str) == "joined") = false := by decide +kernel
@[simp] theorem sne_5_3e : (("marks" : Str) = "joined") = False := eq_false (by decide +kernel)
@[simp] theorem sne_5_4 : (("marks" : Str) == "length") = false := by decide +kernel
@[simp] theorem sne_5_4e : (("marks" : Str) = "length") = False := eq_false (by decide +kernel)
@[simp] theorem sne_5_6 : (("marks" : Str) == "now") = false := by decide +kernel
@[simp] theorem sne_5_6e : (("marks" : Str) = "now") = False := eq_false (by decide +kernel)
@[simp] theorem sne_5_7 : (("marks" : Str) == "rest") = false := by decide +kernel
@[simp] theorem sne_5_7e : (("marks" : Str) = "rest") = False := eq_false (by decide +kernel)
@[simp] theorem sne_5_8 : (("marks" : Str) == "step") = false := by decide +kernel
@[simp] theorem sne_5_8e : (("marks" : Str) = "step") = False := eq_false (by decide +kernel)
@[simp] theorem sne_5_9 : (("marks" : Str) == "tell") = false := by decide +kernel
@[simp] theorem sne_5_9e : (("marks" : Str) = "tell") = False := eq_false (by decide +kernel)
@[simp] theorem sne_5_10 : (("marks" : Str) == "time_now") = false := by decide +kernel
@[simp] theorem sne_5_10e : (("marks" : Str) = "time_now") = False := eq_false (by decide +kernel)
@[simp] theorem sne_6_0 : (("now" : Str) == "around") = false := by decide +kernel
@[simp] theorem sne_6_0e : (("now" : Str) = "around") = False := eq_false (by decide +kernel)
@[simp] theorem sne_6_1 : (("now" : Str) == "gap") = false := by decide +kernel
@[simp] theorem sne_6_1e : (("now" : Str) = "gap") = False := eq_false (by decide +kernel)
@[simp] theorem sne_6_2 : (("now" : Str) == "idle") = false := by decide +kernel
@[simp] theorem sne_6_2e : (("now" : Str) = "idle") = False := eq_false (by decide +kernel)
@[simp] theorem sne_6_3 : (("now" : Str) == "joined") = false := by decide +kernel
@[simp] theorem sne_6_3e : (("now" : Str) = "joined") = False := eq_false (by decide +kernel)
@[simp] theorem sne_6_4 : (("now" : Str) == "length") = false := by decide +kernel
@[simp] theorem sne_6_4e : (("now" : Str) = "length") = False := eq_false (by decide +kernel)
@[simp] theorem sne_6_5 : (("now" : Str) == "marks") = false := by decide +kernel
@[simp] theorem sne_6_5e : (("now" : Str) = "marks") = False := eq_false (by decide +kernel)
@[simp] theorem sne_6_7 : (("now" : Str) == "rest") = false := by decide +kernel
@[simp] theorem sne_6_7e : (("now" : Str) = "rest") = False := eq_false (by decide +kernel)
@[simp] theorem sne_6_8 : (("now" : Str) == "step") = false := by decide +kernel
@[simp] theorem sne_6_8e : (("now" : Str) = "step") = False := eq_false (by decide +kernel)
@[simp] theorem sne_6_9 : (("now" : Str) == "tell") = false := by decide +kernel
@[simp] theorem sne_6_9e : (("now" : Str) = "tell") = False := eq_false (by decide +kernel)
@[simp] theorem sne_6_10 : (("now" : Str) == "time_now") = false := by decide +kernel
@[simp] theorem sne_6_10e : (("now" : Str) = "time_now") = False := eq_false (by decide +kernel)
@[simp] theorem sne_7_0 : (("rest" : Str) == "around") = false := by decide +kernel
@[simp] theorem sne_7_0e : (("rest" : Str) = "around") = False := eq_false (by decide +kernel)
@[simp] theorem sne_7_1 : (("rest" : Str) == "gap") = false := by decide +kernel
@[simp] theorem sne_7_1e : (("rest" : Str) = "gap") = False := eq_false (by decide +kernel)
@[simp] theorem sne_7_2 : (("rest" : Str) == "idle") = false := by decide +kernel
@[simp] theorem sne_7_2e : (("rest" : Str) = "idle") = False := eq_false (by decide +kernel)
@[simp] theorem sne_7_3 : (("rest" : Str) == "joined") = false := by decide +kernel
@[simp] theorem sne_7_3e : (("rest" : Str) = "joined") = False := eq_false (by decide +kernel)
@[simp] theorem sne_7_4 : (("rest" : Str) == "length") = false := by decide +kernel
@[simp] theorem sne_7_4e : (("rest" : Str) = "length") = False := eq_false (by decide +kernel)
@[simp] theorem sne_7_5 : (("rest" : Str) == "marks") = false := by decide +kernel
@[simp] theorem sne_7_5e : (("rest" : Str) = "marks") = False := eq_false (by decide +kernel)
@[simp] theorem sne_7_6 : (("rest" : Str) == "now") = false := by decide +kernel
@[simp] theorem sne_7_6e : (("rest" : Str) = "now") = False := eq_false (by decide +kernel)
@[simp] theorem sne_7_8 : (("rest" : Str) == "step") = false := by decide +kernel
@[simp] theorem sne_7_8e : (("rest" : Str) = "step") = False := eq_false (by decide +kernel)
@[simp] theorem sne_7_9 : (("rest" : Str) == "tell") = false := by decide +kernel
@[simp] theorem sne_7_9e : (("rest" : Str) = "tell") = False := eq_false (by decide +kernel)
@[simp] theorem sne_7_10 : (("rest" : Str) == "time_now") = false := by decide +kernel
@[simp] theorem sne_7_10e : (("rest" : Str) = "time_now") = False := eq_false (by decide +kernel)
@[simp] theorem sne_8_0 : (("step" : Str) == "around") = false := by decide +kernel
@[simp] theorem sne_8_0e : (("step" : Str) = "around") = False := eq_false (by decide +kernel)
@[simp] theorem sne_8_1 : (("step" : Str) == "gap") = false := by decide +kernel
@[simp] theorem sne_8_1e : (("step" : Str) = "gap") = False := eq_false (by decide +kernel)
@[simp] theorem sne_8_2 : (("step" : Str) == "idle") = false := by decide +kernel
@[simp] theorem sne_8_2e : (("step" : Str) = "idle") = False := eq_false (by decide +kernel)
@[simp] theorem sne_8_3 : (("step" : Str) == "joined") = false := by decide +kernel
@[simp] theorem sne_8_3e : (("step" : Str) = "joined") = False := eq_false (by decide +kernel)
@[simp] theorem sne_8_4 : (("step" : Str) == "length") = false := by decide +kernel
@[simp] theorem sne_8_4e : (("step" : Str) = "length") = False := eq_false (by decide +kernel)
@[simp] theorem sne_8_5 : (("step" : Str) == "marks") = false := by decide +kernel
@[simp] theorem sne_8_5e : (("step" : Str) = "marks") = False := eq_false (by decide +kernel)
@[simp] theorem sne_8_6 : (("step" : Str) == "now") = false := by decide +kernel
@[simp] theorem sne_8_6e : (("step" : Str) = "now") = False := eq_false (by decide +kernel)
@[simp] theorem sne_8_7 : (("step" : Str) == "rest") = false := by decide +kernel
@[simp] theorem sne_8_7e : (("step" : Str) = "rest") = False := eq_false (by decide +kernel)
@[simp] theorem sne_8_9 : (("step" : Str) == "tell") = false := by decide +kernel
@[simp] theorem sne_8_9e : (("step" : Str) = "tell") = False := eq_false (by decide +kernel)
@[simp] theorem sne_8_10 : (("step" : Str) == "time_now") = false := by decide +kernel
@[simp] theorem sne_8_10e : (("step" : Str) = "time_now") = False := eq_false (by decide +kernel)
@[simp] theorem sne_9_0 : (("tell" : Str) == "around") = false := by decide +kernel
@[simp] theorem sne_9_0e : (("tell" : Str) = "around") = False := eq_false (by decide +kernel)
@[simp] theorem sne_9_1 : (("tell" : Str) == "gap") = false := by decide +kernel
@[simp] theorem sne_9_1e : (("tell" : Str) = "gap") = False := eq_false (by decide +kernel)
@[simp] theorem sne_9_2 : (("tell" : Str) == "idle") = false := by decide +kernel
@[simp] theorem sne_9_2e : (("tell" : Str) = "idle") = False := eq_false (by decide +kernel)
@[simp] theorem sne_9_3 : (("tell" : Str) == "joined") = false := by decide +kernel
@[simp] theorem sne_9_3e : (("tell" : Str) = "joined") = False := eq_false (by decide +kernel)
@[simp] theorem sne_9_4 : (("tell" : Str) == "length") = false := by decide +kernel
@[simp] theorem sne_9_4e : (("tell" : Str) = "length") = False := eq_false (by decide +kernel)
@[simp] theorem sne_9_5 : (("tell" : Str) == "marks") = false := by decide +kernel
@[simp] theorem sne_9_5e : (("tell" : Str) = "marks") = False := eq_false (by decide +kernel)
@[simp] theorem sne_9_6 : (("tell" : Str) == "now") = false := by decide +kernel
@[simp] theorem sne_9_6e : (("tell" : Str) = "now") = False := eq_false (by decide +kernel)
@[simp] theorem sne_9_7 : (("tell" : Str) == "rest") = false := by decide +kernel
@[simp] theorem sne_9_7e : (("tell" : Str) = "rest") = False := eq_false (by decide +kernel)
@[simp] theorem sne_9_8 : (("tell" : Str) == "step") = false := by decide +kernel
@[simp] theorem sne_9_8e : (("tell" : Str) = "step") = False := eq_false (by decide +kernel)
@[simp] theorem sne_9_10 : (("tell" : Str) == "time_now") = false := by decide +kernel
@[simp] theorem sne_9_10e : (("tell" : Str) = "time_now") = False := eq_false (by decide +kernel)
@[simp] theorem sne_10_0 : (("time_now" : Str) == "around") = false := by decide +kernel
@[simp] theorem sne_10_0e : (("time_now" : Str) = "around") = False := eq_false (by decide +kernel)
@[simp] theorem sne_10_1 : (("time_now" : Str) == "gap") = false := by decide +kernel
@[simp] theorem sne_10_1e : (("time_now" : Str) = "gap") = False := eq_false (by decide +kernel)
@[simp] theorem sne_10_2 : (("time_now" : Str) == "idle") = false := by decide +kernel
@[simp] theorem sne_10_2e : (("time_now" : Str) = "idle") = False := eq_false (by decide +kernel)
@[simp] theorem sne_10_3 : (("time_now" : Str) == "joined") = false := by decide +kernel
@[simp] theorem sne_10_3e : (("time_now" : Str) = "joined") = False := eq_false (by decide +kernel)
@[simp] theorem sne_10_4 : (("time_now" : Str) == "length") = false := by decide +kernel
@[simp] theorem sne_10_4e : (("time_now" : Str) = "length") = False := eq_false (by decide +kernel)
@[simp] theorem sne_10_5 : (("time_now" : Str) == "marks") = false := by decide +kernel
@[simp] theorem sne_10_5e : (("time_now" : Str) = "marks") = False := eq_false (by decide +kernel)
@[simp] theorem sne_10_6 : (("time_now" : Str) == "now") = false := by decide +kernel
@[simp] theorem sne_10_6e : (("time_now" : Str) = "now") = False := eq_false (by decide +kernel)
@[simp] theorem sne_10_7 : (("time_now" : Str) == "rest") = false := by decide +kernel
@[simp] theorem sne_10_7e : (("time_now" : Str) = "rest") = False := eq_false (by decide +kernel)
@[simp] theorem sne_10_8 : (("time_now" : Str) == "step") = false := by decide +kernel
@[simp] theorem sne_10_8e : (("time_now" : Str) = "step") = False := eq_false (by decide +kernel)
@[simp] theorem sne_10_9 : (("time_now" : Str) == "tell") = false := by decide +kernel
@[simp] theorem sne_10_9e : (("time_now" : Str) = "tell") = False := eq_false (by decide +kernel)
end K08
namespace K08
open PySem PySem.Spec PyProof.Rows L2 L3
def top (i : Nat) : Stmt := PySem.Challenge.pw_streamstack_k08_times_and_windows.main.body.getD i (.Pass ⟨0, 0, 0, 0⟩)
theorem bt_abs : bootBuiltins "abs" = some (.builtin "abs") := by decide +kernel
theorem bt_dict : bootBuiltins "dict" = some (.type "dict") := by decide +kernel
theorem bt_int : bootBuiltins "int" = some (.type "int") := by decide +kernel
theorem bt_len : bootBuiltins "len" = some (.builtin "len") := by decide +kernel
theorem bt_list : bootBuiltins "list" = some (.type "list") := by decide +kernel
theorem bt_max : bootBuiltins "max" = some (.builtin "max") := by decide +kernel
theorem bt_min : bootBuiltins "min" = some (.builtin "min") := by decide +kernel
theorem bt_sorted : bootBuiltins "sorted" = some (.builtin "sorted") := by decide +kernel
theorem bt_tuple : bootBuiltins "tuple" = some (.type "tuple") := by decide +kernel
abbrev s_Marks_time_now : Stmt := inClass (top 4) 3
abbrev s_Marks_init : Stmt := inClass (top 4) 0
abbrev s_Marks_tell : Stmt := inClass (top 4) 1
abbrev s_Marks_rest : Stmt := inClass (top 4) 2
abbrev s_Windows_init : Stmt := inClass (top 5) 0
abbrev s_Windows_around : Stmt := inClass (top 5) 1
abbrev s_Sessions_init : Stmt := inClass (top 6) 0
abbrev s_Sessions_joined : Stmt := inClass (top 6) 1
abbrev s_law_dice : Stmt := top 8
abbrev s_law_roll : Stmt := top 9
abbrev s_law_rounds : Stmt := top 10
abbrev s_law_told : Stmt := top 11
abbrev s_law_spans : Stmt := top 12
abbrev s_law : Stmt := top 13
structure Tx (K : PySem.W.Frag) (mg : Str → Option Value) (a : Ad) : Prop where
  n_abs : mg "abs" = none
  n_dict : mg "dict" = none
  n_int : mg "int" = none
  n_len : mg "len" = none
  n_list : mg "list" = none
  n_max : mg "max" = none
  n_min : mg "min" = none
  n_range : mg "range" = none
  n_sorted : mg "sorted" = none
  n_tuple : mg "tuple" = none
  g_JobError : mg "JobError" = some (.ref a.JobError)
  x_JobError : PySem.W.excIn K a.JobError [.type "ValueError", .type "Exception", .type "BaseException", .type "object"] "ValueError.__new__" = true
  kc_JobError : PySem.W.keepIn K (.ref a.JobError) = true
  xb_JobError : PySem.W.subIn K (.ref a.JobError) (.type "BaseException") = some true
  xt_JobError : PySem.W.typeIn K (.ref a.JobError) = some (.type "type")
  xm_JobError : PySem.W.exmOne K (.ref a.JobError) (.ref a.JobError) = some true
  g_Marks : mg "Marks" = some (.ref a.Marks)
  c_Marks : Cls K a.Marks
  mk_Marks : Mk K a.Marks a.f_Marks_init
  na_Marks_marks : NoAttr K a.Marks "marks"
  na_Marks_idle : NoAttr K a.Marks "idle"
  na_Marks_now : NoAttr K a.Marks "now"
  m_Marks_tell : Meth K a.Marks "tell" a.f_Marks_tell
  m_Marks_rest : Meth K a.Marks "rest" a.f_Marks_rest
  m_Marks_time_now : Meth K a.Marks "time_now" a.f_Marks_time_now
  g_Sessions : mg "Sessions" = some (.ref a.Sessions)
  c_Sessions : Cls K a.Sessions
  mk_Sessions : Mk K a.Sessions a.f_Sessions_init
  na_Sessions_gap : NoAttr K a.Sessions "gap"
  m_Sessions_joined : Meth K a.Sessions "joined" a.f_Sessions_joined
  g_Windows : mg "Windows" = some (.ref a.Windows)
  c_Windows : Cls K a.Windows
  mk_Windows : Mk K a.Windows a.f_Windows_init
  na_Windows_length : NoAttr K a.Windows "length"
  na_Windows_step : NoAttr K a.Windows "step"
  m_Windows_around : Meth K a.Windows "around" a.f_Windows_around
  b_Marks_time_now : Binds K a.d_Marks_time_now ["self"] []
  u_Marks_time_now : Fun K "time_now" "Marks.time_now" s_Marks_time_now a.f_Marks_time_now a.d_Marks_time_now
  b_Marks_init : Binds K a.d_Marks_init ["self", "names"] []
  u_Marks_init : Fun K "__init__" "Marks.__init__" s_Marks_init a.f_Marks_init a.d_Marks_init
  b_Marks_tell : Binds K a.d_Marks_tell ["self", "name", "time"] []
  u_Marks_tell : Fun K "tell" "Marks.tell" s_Marks_tell a.f_Marks_tell a.d_Marks_tell
  b_Marks_rest : Binds K a.d_Marks_rest ["self", "name"] []
  u_Marks_rest : Fun K "rest" "Marks.rest" s_Marks_rest a.f_Marks_rest a.d_Marks_rest
  b_Windows_init : Binds K a.d_Windows_init ["self", "length", "step"] []
  u_Windows_init : Fun K "__init__" "Windows.__init__" s_Windows_init a.f_Windows_init a.d_Windows_init
  b_Windows_around : Binds K a.d_Windows_around ["self", "time"] []
  u_Windows_around : Fun K "around" "Windows.around" s_Windows_around a.f_Windows_around a.d_Windows_around
  b_Sessions_init : Binds K a.d_Sessions_init ["self", "gap"] []
  u_Sessions_init : Fun K "__init__" "Sessions.__init__" s_Sessions_init a.f_Sessions_init a.d_Sessions_init
  b_Sessions_joined : Binds K a.d_Sessions_joined ["self", "spans", "time"] []
  u_Sessions_joined : Fun K "joined" "Sessions.joined" s_Sessions_joined a.f_Sessions_joined a.d_Sessions_joined
  b_law_dice : Binds K a.d_law_dice ["cell"] []
  g_law_dice : mg "_law_dice" = some (.ref a.f_law_dice)
  k_law_dice : PySem.W.keepIn K (.ref a.f_law_dice) = true
  u_law_dice : Fun K "_law_dice" "_law_dice" s_law_dice a.f_law_dice a.d_law_dice
  b_law_roll : Binds K a.d_law_roll ["dice", "many"] []
  g_law_roll : mg "_law_roll" = some (.ref a.f_law_roll)
  k_law_roll : PySem.W.keepIn K (.ref a.f_law_roll) = true
  u_law_roll : Fun K "_law_roll" "_law_roll" s_law_roll a.f_law_roll a.d_law_roll
  b_law_rounds : Binds K a.d_law_rounds ["script", "most"] []
  g_law_rounds : mg "_law_rounds" = some (.ref a.f_law_rounds)
  k_law_rounds : PySem.W.keepIn K (.ref a.f_law_rounds) = true
  u_law_rounds : Fun K "_law_rounds" "_law_rounds" s_law_rounds a.f_law_rounds a.d_law_rounds
  b_law_told : Binds K a.d_law_told ["what"] []
  g_law_told : mg "_law_told" = some (.ref a.f_law_told)
  k_law_told : PySem.W.keepIn K (.ref a.f_law_told) = true
  u_law_told : Fun K "_law_told" "_law_told" s_law_told a.f_law_told a.d_law_told
  b_law_spans : Binds K a.d_law_spans ["times", "gap"] []
  g_law_spans : mg "_law_spans" = some (.ref a.f_law_spans)
  k_law_spans : PySem.W.keepIn K (.ref a.f_law_spans) = true
  u_law_spans : Fun K "_law_spans" "_law_spans" s_law_spans a.f_law_spans a.d_law_spans
  b_law : Binds K a.d_law ["script"] []
  u_law : Fun K "law" "law" s_law a.f_law a.d_law
section
variable {P : Program} {w : World} {K : PySem.W.Frag} {mg : Str → Option Value} {base : Heap} {a : Ad}
theorem sc_law_told : FnScope N_law_told ["what"] (defScope s_law_told) := ⟨rfl, rfl, rfl, by decide +kernel, rfl, by decide +kernel, by decide +kernel⟩
theorem told_ok (T : Tx K mg a) : ToldF K mg "_law_told" a.f_law_told a.d_law_told s_law_told "JobError" a.JobError "JobError" := ⟨T.u_law_told, T.g_law_told, T.b_law_told, sc_law_told, ⟨_, _, _, _, _, _, _, _, _, rfl⟩, rfl, by decide, T.g_JobError, rfl⟩
theorem sc_Marks_time_now : FnScope N_Marks_time_now ["self"] (defScope s_Marks_time_now) := ⟨rfl, rfl, rfl, by decide +kernel, rfl, by decide +kernel, by decide +kernel⟩
theorem w_Marks_time_now (T : Tx K mg a) (Γ : Gm) (cdv : Value) (A : Around) (outer : List Env) (s : Shared) (H : Hp) (E : XK) (hr : Room 0 (A.deeper (envOfC "Marks.time_now" (defScope s_Marks_time_now) s.heap.objs.size a.f_Marks_time_now cdv))) :
    PSs3 (cxOf (L2.CX P w) P w K mg base N_Marks_time_now "Marks.time_now" (defScope s_Marks_time_now) a.f_Marks_time_now cdv A outer s H E) Γ (WE3 E) (defBody s_Marks_time_now) (T_Marks_time_now K a) := by
  have tk : Takes (cxOf (L2.CX P w) P w K mg base N_Marks_time_now "Marks.time_now" (defScope s_Marks_time_now) a.f_Marks_time_now cdv A outer s H E) (WE3 E) := takes_of rfl rfl rfl rfl
  exact (pss3_cons (ps3_lock (p := (pthF 0 "marks")) (ps3_setLc (i := 1) (own := [("name", 2)]) rfl sc_Marks_time_now.nd rfl rfl (sw_true rfl rfl rfl (by decide +kernel)) (pi3_keys (pe3_fld (pe3_var (i := 0)) rfl)) (blkOk_by (own := [("name", 2)]) (N := N_Marks_time_now) (sc := defScope s_Marks_time_now) (by decide +kernel)) (fun _ _ _ _ _ => (pw3_name (i := 2) (by decide) sc_Marks_time_now.nd rfl (by first | exact Or.inl rfl | exact Or.inr rfl))) (fun _ _ _ _ _ => (pts3_one (pt3_cmp (op_notIn4 (hu65 hr)) sound_notInC (pe3_var (i := 2)) (pe3_fld (pe3_var (i := 0)) rfl) (by with_unfolding_all rfl)))) (fun _ _ _ _ _ => (pe3_subC (hu1 hr) (pe3_fld (pe3_var (i := 0)) rfl) (pe3_var (i := 2)) (fun _ _ => rfl)))))
  (pss3_cons (ps3_if (pt3_cmp (op_ne.or (op_neD (hu64 hr))) sound_neC (pe3_var (i := 1)) (pe3_lst pa3_nil) (nomark _)) (pss3_one (ps3_fld (pe3_var (i := 0)) (pe3_callB (cr_max2 rfl) sound_max (by rfl) T.n_max bt_max (pa3_cons (pe3_fld (pe3_var (i := 0)) rfl) (pa3_cons (pe3_callB (cr_min2 rfl) sound_min (by rfl) T.n_min bt_min (pa3_cons (pe3_var (i := 1)) pa3_nil)) pa3_nil))) rfl))
  pss3_nil)
  (pss3_one (ps3_ret (pe3_fld (pe3_var (i := 0)) rfl)))))
theorem ok_Marks_time_now (T : Tx K mg a) (len : ∀ ds G Q E, sp_Marks_time_now K a ds G Q E → ds.length = 1)
    (pl : ∀ ds G Q3 E3, sp_Marks_time_now K a ds G Q3 E3 → T_Marks_time_now K a { nx := fun _ G' => RetC Q3 .non G', rt := RetC Q3, ex := fun cls _ G' => ExC E3 cls G' } (start3 N_Marks_time_now ds) G) :
    Fn3 P w K mg base 1 a.f_Marks_time_now a.d_Marks_time_now ["self"] (sp_Marks_time_now K a) := fn3 T.u_Marks_time_now sc_Marks_time_now len fun Γ cdv A outer s H E hr => ⟨_, w_Marks_time_now T  Γ cdv A outer s H E hr, pl⟩
theorem sc_Marks_init : FnScope N_Marks_init ["self", "names"] (defScope s_Marks_init) := ⟨rfl, rfl, rfl, by decide +kernel, rfl, by decide +kernel, by decide +kernel⟩
theorem w_Marks_init (T : Tx K mg a) (Γ : Gm) (cdv : Value) (A : Around) (outer : List Env) (s : Shared) (H : Hp) (E : XK) (hr : Room 0 (A.deeper (envOfC "Marks.__init__" (defScope s_Marks_init) s.heap.objs.size a.f_Marks_init cdv))) :
    PSs3 (cxOf (L2.CX P w) P w K mg base N_Marks_init "Marks.__init__" (defScope s_Marks_init) a.f_Marks_init cdv A outer s H E) Γ (WE3 E) (defBody s_Marks_init) (T_Marks_init K a) := by
  have tk : Takes (cxOf (L2.CX P w) P w K mg base N_Marks_init "Marks.__init__" (defScope s_Marks_init) a.f_Marks_init cdv A outer s H E) (WE3 E) := takes_of rfl rfl rfl rfl
  exact (pss3_cons (ps3_fld (pe3_var (i := 0)) (pe3_dc (own := [("name", 2)]) rfl sc_Marks_init.nd (pi3_list (pe3_var (i := 1))) (blkOk_by (own := [("name", 2)]) (N := N_Marks_init) (sc := defScope s_Marks_init) (by decide +kernel)) (fun _ _ _ _ _ => (pw3_name (i := 2) (by decide) sc_Marks_init.nd rfl (by first | exact Or.inl rfl | exact Or.inr rfl))) (fun _ _ _ _ _ => pts3_nil) (fun _ _ _ _ _ => (pe3_var (i := 2))) (fun _ _ _ _ _ => pe3_int)) rfl)
  (pss3_cons (ps3_fld (pe3_var (i := 0)) pe3_dnewK rfl)
  (pss3_one (ps3_fld (pe3_var (i := 0)) pe3_int rfl))))
theorem ok_Marks_init (T : Tx K mg a) (len : ∀ ds G Q E, sp_Marks_init K a ds G Q E → ds.length = 2)
    (pl : ∀ ds G Q3 E3, sp_Marks_init K a ds G Q3 E3 → T_Marks_init K a { nx := fun _ G' => RetC Q3 .non G', rt := RetC Q3, ex := fun cls _ G' => ExC E3 cls G' } (start3 N_Marks_init ds) G) :
    Fn3 P w K mg base 1 a.f_Marks_init a.d_Marks_init ["self", "names"] (sp_Marks_init K a) := fn3 T.u_Marks_init sc_Marks_init len fun Γ cdv A outer s H E hr => ⟨_, w_Marks_init T  Γ cdv A outer s H E hr, pl⟩
theorem sc_Marks_tell : FnScope N_Marks_tell ["self", "name", "time"] (defScope s_Marks_tell) := ⟨rfl, rfl, rfl, by decide +kernel, rfl, by decide +kernel, by decide +kernel⟩
theorem w_Marks_tell (T : Tx K mg a) (F_Marks_time_now : Fn3 P w K mg base 1 a.f_Marks_time_now a.d_Marks_time_now ["self"] (sp_Marks_time_now K a)) (Γ : Gm) (cdv : Value) (A : Around) (outer : List Env) (s : Shared) (H : Hp) (E : XK) (hr : Room 1 (A.deeper (envOfC "Marks.tell" (defScope s_Marks_tell) s.heap.objs.size a.f_Marks_tell cdv))) :
    PSs3 (cxOf (L2.CX P w) P w K mg base N_Marks_tell "Marks.tell" (defScope s_Marks_tell) a.f_Marks_tell cdv A outer s H E) Γ (WE3 E) (defBody s_Marks_tell) (T_Marks_tell K a) := by
  have tk : Takes (cxOf (L2.CX P w) P w K mg base N_Marks_tell "Marks.tell" (defScope s_Marks_tell) a.f_Marks_tell cdv A outer s H E) (WE3 E) := takes_of rfl rfl rfl rfl
  exact (pss3_cons (ps3_if (pt3_cmp (op_notIn4 (hu65 hr)) sound_notInC (pe3_var (i := 1)) (pe3_fld (pe3_var (i := 0)) rfl) (by with_unfolding_all rfl)) (pss3_one (ps3_raise rfl tk F.excBase_ValueError T.x_JobError T.g_JobError T.kc_JobError (raises_own T.xb_JobError T.xt_JobError) rfl (pa3_cons pe3_str pa3_nil)))
  pss3_nil)
  (pss3_cons (ps3_expr (pe3_pop2C (pe3_fld (pe3_var (i := 0)) rfl) (pe3_var (i := 1)) pe3_non ⟨rfl, rfl, rfl, rfl⟩))
  (pss3_cons (ps3_asg (pe3_callB (cr_max2 rfl) sound_max (by rfl) T.n_max bt_max (pa3_cons (pe3_subC (hu1 hr) (pe3_fld (pe3_var (i := 0)) rfl) (pe3_var (i := 1)) (fun _ _ => rfl)) (pa3_cons (pe3_var (i := 2)) pa3_nil))) (pg3_subC (hu1 hr) (pe3_fld (pe3_var (i := 0)) rfl) (pe3_var (i := 1))))
  (pss3_one (ps3_ret (pe3_meth0 (pe3_var (i := 0)) T.c_Marks T.m_Marks_time_now F_Marks_time_now (hr.mono (by decide)) T.b_Marks_time_now .nil dflt_nil tk))))))
theorem ok_Marks_tell (T : Tx K mg a) (F_Marks_time_now : Fn3 P w K mg base 1 a.f_Marks_time_now a.d_Marks_time_now ["self"] (sp_Marks_time_now K a)) (len : ∀ ds G Q E, sp_Marks_tell K a ds G Q E → ds.length = 3)
    (pl : ∀ ds G Q3 E3, sp_Marks_tell K a ds G Q3 E3 → T_Marks_tell K a { nx := fun _ G' => RetC Q3 .non G', rt := RetC Q3, ex := fun cls _ G' => ExC E3 cls G' } (start3 N_Marks_tell ds) G) :
    Fn3 P w K mg base 2 a.f_Marks_tell a.d_Marks_tell ["self", "name", "time"] (sp_Marks_tell K a) := fn3 T.u_Marks_tell sc_Marks_tell len fun Γ cdv A outer s H E hr => ⟨_, w_Marks_tell T F_Marks_time_now Γ cdv A outer s H E hr, pl⟩
theorem sc_Marks_rest : FnScope N_Marks_rest ["self", "name"] (defScope s_Marks_rest) := ⟨rfl, rfl, rfl, by decide +kernel, rfl, by decide +kernel, by decide +kernel⟩
theorem w_Marks_rest (T : Tx K mg a) (F_Marks_time_now : Fn3 P w K mg base 1 a.f_Marks_time_now a.d_Marks_time_now ["self"] (sp_Marks_time_now K a)) (Γ : Gm) (cdv : Value) (A : Around) (outer : List Env) (s : Shared) (H : Hp) (E : XK) (hr : Room 1 (A.deeper (envOfC "Marks.rest" (defScope s_Marks_rest) s.heap.objs.size a.f_Marks_rest cdv))) :
    PSs3 (cxOf (L2.CX P w) P w K mg base N_Marks_rest "Marks.rest" (defScope s_Marks_rest) a.f_Marks_rest cdv A outer s H E) Γ (WE3 E) (defBody s_Marks_rest) (T_Marks_rest K a) := by
  have tk : Takes (cxOf (L2.CX P w) P w K mg base N_Marks_rest "Marks.rest" (defScope s_Marks_rest) a.f_Marks_rest cdv A outer s H E) (WE3 E) := takes_of rfl rfl rfl rfl
  exact (pss3_cons (ps3_if (pt3_cmp (op_notIn4 (hu65 hr)) sound_notInC (pe3_var (i := 1)) (pe3_fld (pe3_var (i := 0)) rfl) (by with_unfolding_all rfl)) (pss3_one (ps3_raise rfl tk F.excBase_ValueError T.x_JobError T.g_JobError T.kc_JobError (raises_own T.xb_JobError T.xt_JobError) rfl (pa3_cons pe3_str pa3_nil)))
  pss3_nil)
  (pss3_cons (ps3_asg pe3_bl (pg3_subC (hu1 hr) (pe3_fld (pe3_var (i := 0)) rfl) (pe3_var (i := 1))))
  (pss3_one (ps3_ret (pe3_meth0 (pe3_var (i := 0)) T.c_Marks T.m_Marks_time_now F_Marks_time_now (hr.mono (by decide)) T.b_Marks_time_now .nil dflt_nil tk)))))
theorem ok_Marks_rest (T : Tx K mg a) (F_Marks_time_now : Fn3 P w K mg base 1 a.f_Marks_time_now a.d_Marks_time_now ["self"] (sp_Marks_time_now K a)) (len : ∀ ds G Q E, sp_Marks_rest K a ds G Q E → ds.length = 2)
    (pl : ∀ ds G Q3 E3, sp_Marks_rest K a ds G Q3 E3 → T_Marks_rest K a { nx := fun _ G' => RetC Q3 .non G', rt := RetC Q3, ex := fun cls _ G' => ExC E3 cls G' } (start3 N_Marks_rest ds) G) :
    Fn3 P w K mg base 2 a.f_Marks_rest a.d_Marks_rest ["self", "name"] (sp_Marks_rest K a) := fn3 T.u_Marks_rest sc_Marks_rest len fun Γ cdv A outer s H E hr => ⟨_, w_Marks_rest T F_Marks_time_now Γ cdv A outer s H E hr, pl⟩
theorem sc_Windows_init : FnScope N_Windows_init ["self", "length", "step"] (defScope s_Windows_init) := ⟨rfl, rfl, rfl, by decide +kernel, rfl, by decide +kernel, by decide +kernel⟩
theorem w_Windows_init (T : Tx K mg a) (Γ : Gm) (cdv : Value) (A : Around) (outer : List Env) (s : Shared) (H : Hp) (E : XK) (hr : Room 0 (A.deeper (envOfC "Windows.__init__" (defScope s_Windows_init) s.heap.objs.size a.f_Windows_init cdv))) :
    PSs3 (cxOf (L2.CX P w) P w K mg base N_Windows_init "Windows.__init__" (defScope s_Windows_init) a.f_Windows_init cdv A outer s H E) Γ (WE3 E) (defBody s_Windows_init) (T_Windows_init K a) := by
  have tk : Takes (cxOf (L2.CX P w) P w K mg base N_Windows_init "Windows.__init__" (defScope s_Windows_init) a.f_Windows_init cdv A outer s H E) (WE3 E) := takes_of rfl rfl rfl rfl
  exact (pss3_cons (ps3_if (pt3_not (pt3_chain op_lt2 op_le sound_lt sound_le pe3_int (pe3_var (i := 2)) (pe3_var (i := 1)))) (pss3_one (ps3_raise rfl tk F.excBase_ValueError T.x_JobError T.g_JobError T.kc_JobError (raises_own T.xb_JobError T.xt_JobError) rfl (pa3_cons pe3_str pa3_nil)))
  pss3_nil)
  (pss3_cons (ps3_fld (pe3_var (i := 0)) (pe3_var (i := 1)) rfl)
  (pss3_one (ps3_fld (pe3_var (i := 0)) (pe3_var (i := 2)) rfl))))
theorem ok_Windows_init (T : Tx K mg a) (len : ∀ ds G Q E, sp_Windows_init K a ds G Q E → ds.length = 3)
    (pl : ∀ ds G Q3 E3, sp_Windows_init K a ds G Q3 E3 → T_Windows_init K a { nx := fun _ G' => RetC Q3 .non G', rt := RetC Q3, ex := fun cls _ G' => ExC E3 cls G' } (start3 N_Windows_init ds) G) :
    Fn3 P w K mg base 1 a.f_Windows_init a.d_Windows_init ["self", "length", "step"] (sp_Windows_init K a) := fn3 T.u_Windows_init sc_Windows_init len fun Γ cdv A outer s H E hr => ⟨_, w_Windows_init T  Γ cdv A outer s H E hr, pl⟩
theorem sc_Windows_around : FnScope N_Windows_around ["self", "time"] (defScope s_Windows_around) := ⟨rfl, rfl, rfl, by decide +kernel, rfl, by decide +kernel, by decide +kernel⟩
theorem w_Windows_around (T : Tx K mg a) (Γ : Gm) (cdv : Value) (A : Around) (outer : List Env) (s : Shared) (H : Hp) (E : XK) (hr : Room 0 (A.deeper (envOfC "Windows.around" (defScope s_Windows_around) s.heap.objs.size a.f_Windows_around cdv))) :
    PSs3 (cxOf (L2.CX P w) P w K mg base N_Windows_around "Windows.around" (defScope s_Windows_around) a.f_Windows_around cdv A outer s H E) Γ (WE3 E) (defBody s_Windows_around) (T_Windows_around K a) := by
  have tk : Takes (cxOf (L2.CX P w) P w K mg base N_Windows_around "Windows.around" (defScope s_Windows_around) a.f_Windows_around cdv A outer s H E) (WE3 E) := takes_of rfl rfl rfl rfl
  exact (pss3_cons (ps3_set (i := 2) sc_Windows_around.nd rfl (by first | exact Or.inl rfl | exact Or.inr rfl) (pe3_mul (pe3_fdiv (pe3_var (i := 1)) (pe3_fld (pe3_var (i := 0)) rfl)) (pe3_fld (pe3_var (i := 0)) rfl)))
  (pss3_cons (ps3_set (i := 3) sc_Windows_around.nd rfl (by first | exact Or.inl rfl | exact Or.inr rfl) (pe3_lstM pa3_nil))
  (pss3_cons (ps3_while (passes_of rfl) (pw3_and (pt3_cmp op_gt sound_gt (pe3_var (i := 2)) (pe3_sub (pe3_var (i := 1)) (pe3_fld (pe3_var (i := 0)) rfl)) (nomark _)) (pw3_and1 (pt3_cmp op_ge sound_ge (pe3_var (i := 2)) pe3_int (nomark _)))).pt
  (pss3_cons (ps3_expr (pe3_append (pe3_var (i := 3)) (pa3_cons (pe3_tup (pa3_cons (pe3_var (i := 2)) (pa3_cons (pe3_add (pe3_var (i := 2)) (pe3_fld (pe3_var (i := 0)) rfl)) pa3_nil))) pa3_nil)))
  (pss3_one (ps3_aug (i := 2) sc_Windows_around.nd rfl (by first | exact Or.inl rfl | exact Or.inr rfl) iop_sub sound_isub (pe3_fld (pe3_var (i := 0)) rfl)))))
  (pss3_one (ps3_ret (pe3_callTy call_tuple_of sound_tup (by rfl) T.n_tuple bt_tuple (pa3_cons (pe3_rev (pe3_var (i := 3))) pa3_nil)))))))
theorem ok_Windows_around (T : Tx K mg a) (len : ∀ ds G Q E, sp_Windows_around K a ds G Q E → ds.length = 2)
    (pl : ∀ ds G Q3 E3, sp_Windows_around K a ds G Q3 E3 → T_Windows_around K a { nx := fun _ G' => RetC Q3 .non G', rt := RetC Q3, ex := fun cls _ G' => ExC E3 cls G' } (start3 N_Windows_around ds) G) :
    Fn3 P w K mg base 1 a.f_Windows_around a.d_Windows_around ["self", "time"] (sp_Windows_around K a) := fn3 T.u_Windows_around sc_Windows_around len fun Γ cdv A outer s H E hr => ⟨_, w_Windows_around T  Γ cdv A outer s H E hr, pl⟩
theorem sc_Sessions_init : FnScope N_Sessions_init ["self", "gap"] (defScope s_Sessions_init) := ⟨rfl, rfl, rfl, by decide +kernel, rfl, by decide +kernel, by decide +kernel⟩
theorem w_Sessions_init (T : Tx K mg a) (Γ : Gm) (cdv : Value) (A : Around) (outer : List Env) (s : Shared) (H : Hp) (E : XK) (hr : Room 0 (A.deeper (envOfC "Sessions.__init__" (defScope s_Sessions_init) s.heap.objs.size a.f_Sessions_init cdv))) :
    PSs3 (cxOf (L2.CX P w) P w K mg base N_Sessions_init "Sessions.__init__" (defScope s_Sessions_init) a.f_Sessions_init cdv A outer s H E) Γ (WE3 E) (defBody s_Sessions_init) (T_Sessions_init K a) := by
  have tk : Takes (cxOf (L2.CX P w) P w K mg base N_Sessions_init "Sessions.__init__" (defScope s_Sessions_init) a.f_Sessions_init cdv A outer s H E) (WE3 E) := takes_of rfl rfl rfl rfl
  exact (pss3_cons (ps3_if (pt3_cmp op_lt2 sound_lt (pe3_var (i := 1)) pe3_int (nomark _)) (pss3_one (ps3_raise rfl tk F.excBase_ValueError T.x_JobError T.g_JobError T.kc_JobError (raises_own T.xb_JobError T.xt_JobError) rfl (pa3_cons pe3_str pa3_nil)))
  pss3_nil)
  (pss3_one (ps3_fld (pe3_var (i := 0)) (pe3_var (i := 1)) rfl)))
theorem ok_Sessions_init (T : Tx K mg a) (len : ∀ ds G Q E, sp_Sessions_init K a ds G Q E → ds.length = 2)
    (pl : ∀ ds G Q3 E3, sp_Sessions_init K a ds G Q3 E3 → T_Sessions_init K a { nx := fun _ G' => RetC Q3 .non G', rt := RetC Q3, ex := fun cls _ G' => ExC E3 cls G' } (start3 N_Sessions_init ds) G) :
    Fn3 P w K mg base 1 a.f_Sessions_init a.d_Sessions_init ["self", "gap"] (sp_Sessions_init K a) := fn3 T.u_Sessions_init sc_Sessions_init len fun Γ cdv A outer s H E hr => ⟨_, w_Sessions_init T  Γ cdv A outer s H E hr, pl⟩
theorem sc_Sessions_joined : FnScope N_Sessions_joined ["self", "spans", "time"] (defScope s_Sessions_joined) := ⟨rfl, rfl, rfl, by decide +kernel, rfl, by decide +kernel, by decide +kernel⟩
theorem w_Sessions_joined (T : Tx K mg a) (Γ : Gm) (cdv : Value) (A : Around) (outer : List Env) (s : Shared) (H : Hp) (E : XK) (hr : Room 0 (A.deeper (envOfC "Sessions.joined" (defScope s_Sessions_joined) s.heap.objs.size a.f_Sessions_joined cdv))) :
    PSs3 (cxOf (L2.CX P w) P w K mg base N_Sessions_joined "Sessions.joined" (defScope s_Sessions_joined) a.f_Sessions_joined cdv A outer s H E) Γ (WE3 E) (defBody s_Sessions_joined) (T_Sessions_joined K a) := by
  have tk : Takes (cxOf (L2.CX P w) P w K mg base N_Sessions_joined "Sessions.joined" (defScope s_Sessions_joined) a.f_Sessions_joined cdv A outer s H E) (WE3 E) := takes_of rfl rfl rfl rfl
  exact (pss3_cons (ps3_par (i := 3) (j := 4) rfl sc_Sessions_joined.nd rfl rfl (by decide) rfl rfl (pa3_cons (pe3_var (i := 2)) (pa3_cons (pe3_add (pe3_var (i := 2)) (pe3_fld (pe3_var (i := 0)) rfl)) pa3_nil)) (by rfl))
  (pss3_cons (ps3_set (i := 5) sc_Sessions_joined.nd rfl (by first | exact Or.inl rfl | exact Or.inr rfl) (pe3_lstM pa3_nil))
  (pss3_cons (ps3_for (passes_of rfl) rfl (pi3_tup (pe3_var (i := 1))) (pg3_name (i := 6) sc_Sessions_joined.nd rfl (by first | exact Or.inl rfl | exact Or.inr rfl))
  (pss3_one (ps3_if (pw3_and (pt3_cmp op_lt2 sound_lt (pe3_subC (hu1 hr) (pe3_var (i := 6)) pe3_int (fun _ _ => rfl)) (pe3_var (i := 4)) (nomark _)) (pw3_and1 (pt3_cmp op_lt2 sound_lt (pe3_var (i := 3)) (pe3_subC (hu1 hr) (pe3_var (i := 6)) pe3_int (fun _ _ => rfl)) (nomark _)))).pt (pss3_cons (ps3_par (i := 3) (j := 4) rfl sc_Sessions_joined.nd rfl rfl (by decide) rfl rfl (pa3_cons (pe3_callB (cr_min2 rfl) sound_min (by rfl) T.n_min bt_min (pa3_cons (pe3_var (i := 3)) (pa3_cons (pe3_subC (hu1 hr) (pe3_var (i := 6)) pe3_int (fun _ _ => rfl)) pa3_nil))) (pa3_cons (pe3_callB (cr_max2 rfl) sound_max (by rfl) T.n_max bt_max (pa3_cons (pe3_var (i := 4)) (pa3_cons (pe3_subC (hu1 hr) (pe3_var (i := 6)) pe3_int (fun _ _ => rfl)) pa3_nil))) pa3_nil)) (by rfl))
  (pss3_one (ps3_expr (pe3_append (pe3_var (i := 5)) (pa3_cons (pe3_var (i := 6)) pa3_nil)))))
  pss3_nil)))
  (pss3_cons (ps3_setLc (i := 7) (own := [("span", 6)]) rfl sc_Sessions_joined.nd rfl rfl (sw_true rfl rfl rfl (by decide +kernel)) (pi3_tup (pe3_var (i := 1))) (blkOk_by (own := [("span", 6)]) (N := N_Sessions_joined) (sc := defScope s_Sessions_joined) (by decide +kernel)) (fun _ _ _ _ _ => (pw3_name (i := 6) (by decide) sc_Sessions_joined.nd rfl (by first | exact Or.inl rfl | exact Or.inr rfl))) (fun _ _ _ _ _ => (pts3_one (pt3_cmp (op_notIn4 (hu65 hr)) sound_notInC (pe3_var (i := 6)) (pe3_var (i := 5)) (by with_unfolding_all rfl)))) (fun _ _ _ _ _ => (pe3_var (i := 6))))
  (pss3_one (ps3_ret (pe3_tup (pa3_cons (pe3_callTy call_tuple_of sound_tup (by rfl) T.n_tuple bt_tuple (pa3_cons (pe3_callB cr_sortedT2 sound_sorted (by rfl) T.n_sorted bt_sorted (pa3_cons (pe3_add (pe3_var (i := 7)) (pe3_lst (pa3_cons (pe3_tup (pa3_cons (pe3_var (i := 3)) (pa3_cons (pe3_var (i := 4)) pa3_nil))) pa3_nil))) pa3_nil)) pa3_nil)) (pa3_cons (pe3_tup (pa3_cons (pe3_var (i := 3)) (pa3_cons (pe3_var (i := 4)) pa3_nil))) (pa3_cons (pe3_callTy call_tuple_of sound_tup (by rfl) T.n_tuple bt_tuple (pa3_cons (pe3_var (i := 5)) pa3_nil)) pa3_nil))))))))))
theorem ok_Sessions_joined (T : Tx K mg a) (len : ∀ ds G Q E, sp_Sessions_joined K a ds G Q E → ds.length = 3)
    (pl : ∀ ds G Q3 E3, sp_Sessions_joined K a ds G Q3 E3 → T_Sessions_joined K a { nx := fun _ G' => RetC Q3 .non G', rt := RetC Q3, ex := fun cls _ G' => ExC E3 cls G' } (start3 N_Sessions_joined ds) G) :
    Fn3 P w K mg base 1 a.f_Sessions_joined a.d_Sessions_joined ["self", "spans", "time"] (sp_Sessions_joined K a) := fn3 T.u_Sessions_joined sc_Sessions_joined len fun Γ cdv A outer s H E hr => ⟨_, w_Sessions_joined T  Γ cdv A outer s H E hr, pl⟩
theorem sc_law_dice : FnScope N_law_dice ["cell"] (defScope s_law_dice) := ⟨rfl, rfl, rfl, by decide +kernel, rfl, by decide +kernel, by decide +kernel⟩
theorem w_law_dice (T : Tx K mg a) (Γ : Gm) (cdv : Value) (A : Around) (outer : List Env) (s : Shared) (H : Hp) (E : XK) (hr : Room 0 (A.deeper (envOfC "_law_dice" (defScope s_law_dice) s.heap.objs.size a.f_law_dice cdv))) :
    PSs3 (cxOf (L2.CX P w) P w K mg base N_law_dice "_law_dice" (defScope s_law_dice) a.f_law_dice cdv A outer s H E) Γ (WE3 E) (defBody s_law_dice) (T_law_dice K a) := by
  have tk : Takes (cxOf (L2.CX P w) P w K mg base N_law_dice "_law_dice" (defScope s_law_dice) a.f_law_dice cdv A outer s H E) (WE3 E) := takes_of rfl rfl rfl rfl
  exact (pss3_cons (ps3_if (pt3_chain op_lt2 op_lt2 sound_lt sound_lt (pe3_sub pe3_int pe3_int) (pe3_var (i := 0)) pe3_int) (pss3_one (ps3_ret (pe3_lstM (pa3_cons (pe3_callB call_abs sound_abs (by rfl) T.n_abs bt_abs (pa3_cons (pe3_var (i := 0)) pa3_nil)) (pa3_cons pe3_int (pa3_cons pe3_int pa3_nil))))))
  pss3_nil)
  (pss3_one (ps3_ret (pe3_lstM (pa3_cons (pe3_var (i := 0)) (pa3_cons (pe3_add pe3_int (pe3_mod (pe3_callTy call_int1 sound_int1 (by rfl) T.n_int bt_int (pa3_cons (pe3_var (i := 0)) pa3_nil)) pe3_int)) (pa3_cons (pe3_callTy call_int1 sound_int1 (by rfl) T.n_int bt_int (pa3_cons (pe3_cmp op_ge sound_ge (pe3_var (i := 0)) (pe3_pow pe3_int pe3_int) (nomark _)) pa3_nil)) pa3_nil)))))))
theorem ok_law_dice (T : Tx K mg a) (len : ∀ ds G Q E, sp_law_dice K a ds G Q E → ds.length = 1)
    (pl : ∀ ds G Q3 E3, sp_law_dice K a ds G Q3 E3 → T_law_dice K a { nx := fun _ G' => RetC Q3 .non G', rt := RetC Q3, ex := fun cls _ G' => ExC E3 cls G' } (start3 N_law_dice ds) G) :
    Fn3 P w K mg base 1 a.f_law_dice a.d_law_dice ["cell"] (sp_law_dice K a) := fn3 T.u_law_dice sc_law_dice len fun Γ cdv A outer s H E hr => ⟨_, w_law_dice T  Γ cdv A outer s H E hr, pl⟩
theorem sc_law_roll : FnScope N_law_roll ["dice", "many"] (defScope s_law_roll) := ⟨rfl, rfl, rfl, by decide +kernel, rfl, by decide +kernel, by decide +kernel⟩
theorem w_law_roll (T : Tx K mg a) (Γ : Gm) (cdv : Value) (A : Around) (outer : List Env) (s : Shared) (H : Hp) (E : XK) (hr : Room 0 (A.deeper (envOfC "_law_roll" (defScope s_law_roll) s.heap.objs.size a.f_law_roll cdv))) :
    PSs3 (cxOf (L2.CX P w) P w K mg base N_law_roll "_law_roll" (defScope s_law_roll) a.f_law_roll cdv A outer s H E) Γ (WE3 E) (defBody s_law_roll) (T_law_roll K a) := by
  have tk : Takes (cxOf (L2.CX P w) P w K mg base N_law_roll "_law_roll" (defScope s_law_roll) a.f_law_roll cdv A outer s H E) (WE3 E) := takes_of rfl rfl rfl rfl
  exact (pss3_cons (ps3_if (pw3_or (pt3_cmp (op_eq.or (op_eqD (hu64 hr))) sound_eqC (pe3_subC (hu1 hr) (pe3_var (i := 0)) pe3_int (fun _ _ => rfl)) pe3_int (nomark _)) (pw3_or1 (pw3_and (pt3_cmp (op_eq.or (op_eqD (hu64 hr))) sound_eqC (pe3_subC (hu1 hr) (pe3_var (i := 0)) pe3_int (fun _ _ => rfl)) pe3_int (nomark _)) (pw3_and1 (pt3_cmp op_gt sound_gt (pe3_subC (hu1 hr) (pe3_var (i := 0)) pe3_int (fun _ _ => rfl)) pe3_int (nomark _)))).pt)).pt (pss3_cons (ps3_set (i := 2) sc_law_roll.nd rfl (by first | exact Or.inl rfl | exact Or.inr rfl) (pe3_mod (pe3_callTy call_int1 sound_int1 (by rfl) T.n_int bt_int (pa3_cons (pe3_subC (hu1 hr) (pe3_var (i := 0)) pe3_int (fun _ _ => rfl)) pa3_nil)) (pe3_var (i := 1))))
  (pss3_cons (ps3_asg (pe3_fdiv (pe3_subC (hu1 hr) (pe3_var (i := 0)) pe3_int (fun _ _ => rfl)) (pe3_var (i := 1))) (pg3_subC (hu1 hr) (pe3_var (i := 0)) pe3_int))
  (pss3_one (ps3_ret (pe3_var (i := 2))))))
  pss3_nil)
  (pss3_cons (ps3_asg pe3_int (pg3_subC (hu1 hr) (pe3_var (i := 0)) pe3_int))
  (pss3_cons (ps3_if (pt3_cmp op_gt sound_gt (pe3_var (i := 1)) pe3_int (nomark _)) pss3_never
  pss3_nil)
  (pss3_cons (ps3_asg (pe3_mod (pe3_callTy call_int1 sound_int1 (by rfl) T.n_int bt_int (pa3_cons (pe3_add (pe3_add (pe3_mul (pe3_subC (hu1 hr) (pe3_var (i := 0)) pe3_int (fun _ _ => rfl)) pe3_int) (pe3_mul (pe3_subC (hu1 hr) (pe3_var (i := 0)) pe3_int (fun _ _ => rfl)) pe3_int)) pe3_int) pa3_nil)) pe3_int) (pg3_subC (hu1 hr) (pe3_var (i := 0)) pe3_int))
  (pss3_cons (ps3_asg (pe3_add (pe3_subC (hu1 hr) (pe3_var (i := 0)) pe3_int (fun _ _ => rfl)) pe3_int) (pg3_subC (hu1 hr) (pe3_var (i := 0)) pe3_int))
  (pss3_one (ps3_ret (pe3_mod (pe3_callTy call_int1 sound_int1 (by rfl) T.n_int bt_int (pa3_cons (pe3_fdiv (pe3_subC (hu1 hr) (pe3_var (i := 0)) pe3_int (fun _ _ => rfl)) pe3_int) pa3_nil)) (pe3_var (i := 1))))))))))
theorem ok_law_roll (T : Tx K mg a) (len : ∀ ds G Q E, sp_law_roll K a ds G Q E → ds.length = 2)
    (pl : ∀ ds G Q3 E3, sp_law_roll K a ds G Q3 E3 → T_law_roll K a { nx := fun _ G' => RetC Q3 .non G', rt := RetC Q3, ex := fun cls _ G' => ExC E3 cls G' } (start3 N_law_roll ds) G) :
    Fn3 P w K mg base 1 a.f_law_roll a.d_law_roll ["dice", "many"] (sp_law_roll K a) := fn3 T.u_law_roll sc_law_roll len fun Γ cdv A outer s H E hr => ⟨_, w_law_roll T  Γ cdv A outer s H E hr, pl⟩
theorem sc_law_rounds : FnScope N_law_rounds ["script", "most"] (defScope s_law_rounds) := ⟨rfl, rfl, rfl, by decide +kernel, rfl, by decide +kernel, by decide +kernel⟩
theorem w_law_rounds (T : Tx K mg a) (F_law_dice : Fn3 P w K mg base 1 a.f_law_dice a.d_law_dice ["cell"] (sp_law_dice K a)) (Γ : Gm) (cdv : Value) (A : Around) (outer : List Env) (s : Shared) (H : Hp) (E : XK) (hr : Room 1 (A.deeper (envOfC "_law_rounds" (defScope s_law_rounds) s.heap.objs.size a.f_law_rounds cdv))) :
    PSs3 (cxOf (L2.CX P w) P w K mg base N_law_rounds "_law_rounds" (defScope s_law_rounds) a.f_law_rounds cdv A outer s H E) Γ (WE3 E) (defBody s_law_rounds) (T_law_rounds K a) := by
  have tk : Takes (cxOf (L2.CX P w) P w K mg base N_law_rounds "_law_rounds" (defScope s_law_rounds) a.f_law_rounds cdv A outer s H E) (WE3 E) := takes_of rfl rfl rfl rfl
  exact (pss3_cons (ps3_set (i := 2) sc_law_rounds.nd rfl (by first | exact Or.inl rfl | exact Or.inr rfl) (pe3_slice (pe3_var (i := 0)) po3_none (po3_some (pe3_var (i := 1)))))
  (pss3_cons (ps3_if (pt3_cmp (op_eq.or (op_eqD (hu64 hr))) sound_eqC (pe3_var (i := 2)) (pe3_lst pa3_nil) (nomark _)) (pss3_one (ps3_set (i := 2) sc_law_rounds.nd rfl (by first | exact Or.inl rfl | exact Or.inr rfl) (pe3_lst (pa3_cons pe3_int pa3_nil))))
  pss3_nil)
  (pss3_one (ps3_ret (pe3_lc (own := [("cell", 3)]) rfl sc_law_rounds.nd (pi3_list (pe3_var (i := 2))) (blkOk_by (own := [("cell", 3)]) (N := N_law_rounds) (sc := defScope s_law_rounds) (by decide +kernel)) (fun _ _ _ _ _ => (pw3_name (i := 3) (by decide) sc_law_rounds.nd rfl (by first | exact Or.inl rfl | exact Or.inr rfl))) (fun _ _ _ _ _ => pts3_nil) (fun _ _ _ _ _ => (pe3_call F_law_dice (hr.mono (by decide)) (by rfl) T.g_law_dice T.k_law_dice T.b_law_dice .nil dflt_nil takes0 (pa3_cons (pe3_var (i := 3)) pa3_nil))))))))
theorem ok_law_rounds (T : Tx K mg a) (F_law_dice : Fn3 P w K mg base 1 a.f_law_dice a.d_law_dice ["cell"] (sp_law_dice K a)) (len : ∀ ds G Q E, sp_law_rounds K a ds G Q E → ds.length = 2)
    (pl : ∀ ds G Q3 E3, sp_law_rounds K a ds G Q3 E3 → T_law_rounds K a { nx := fun _ G' => RetC Q3 .non G', rt := RetC Q3, ex := fun cls _ G' => ExC E3 cls G' } (start3 N_law_rounds ds) G) :
    Fn3 P w K mg base 2 a.f_law_rounds a.d_law_rounds ["script", "most"] (sp_law_rounds K a) := fn3 T.u_law_rounds sc_law_rounds len fun Γ cdv A outer s H E hr => ⟨_, w_law_rounds T F_law_dice Γ cdv A outer s H E hr, pl⟩
theorem sc_law_spans : FnScope N_law_spans ["times", "gap"] (defScope s_law_spans) := ⟨rfl, rfl, rfl, by decide +kernel, rfl, by decide +kernel, by decide +kernel⟩
theorem w_law_spans (T : Tx K mg a) (Γ : Gm) (cdv : Value) (A : Around) (outer : List Env) (s : Shared) (H : Hp) (E : XK) (hr : Room 0 (A.deeper (envOfC "_law_spans" (defScope s_law_spans) s.heap.objs.size a.f_law_spans cdv))) :
    PSs3 (cxOf (L2.CX P w) P w K mg base N_law_spans "_law_spans" (defScope s_law_spans) a.f_law_spans cdv A outer s H E) Γ (WE3 E) (defBody s_law_spans) (T_law_spans K a) := by
  have tk : Takes (cxOf (L2.CX P w) P w K mg base N_law_spans "_law_spans" (defScope s_law_spans) a.f_law_spans cdv A outer s H E) (WE3 E) := takes_of rfl rfl rfl rfl
  exact (pss3_cons (ps3_set (i := 2) sc_law_spans.nd rfl (by first | exact Or.inl rfl | exact Or.inr rfl) (pe3_lstM pa3_nil))
  (pss3_cons (ps3_for (passes_of rfl) rfl (pi3_list (pe3_callB cr_sortedT2 sound_sorted (by rfl) T.n_sorted bt_sorted (pa3_cons (pe3_var (i := 0)) pa3_nil))) (pg3_name (i := 3) sc_law_spans.nd rfl (by first | exact Or.inl rfl | exact Or.inr rfl))
  (pss3_one (ps3_if (pw3_and (pt3_cmp (op_ne.or (op_neD (hu64 hr))) sound_neC (pe3_var (i := 2)) (pe3_lst pa3_nil) (nomark _)) (pw3_and1 (pt3_cmp op_lt2 sound_lt (pe3_var (i := 3)) (pe3_subC (hu1 hr) (pe3_subC (hu1 hr) (pe3_var (i := 2)) (pe3_sub (pe3_callB cr_len3 sound_len (by rfl) T.n_len bt_len (pa3_cons (pe3_var (i := 2)) pa3_nil)) pe3_int) (fun _ _ => rfl)) pe3_int (fun _ _ => rfl)) (nomark _)))).pt (pss3_one (ps3_asg (pe3_tup (pa3_cons (pe3_subC (hu1 hr) (pe3_subC (hu1 hr) (pe3_var (i := 2)) (pe3_sub (pe3_callB cr_len3 sound_len (by rfl) T.n_len bt_len (pa3_cons (pe3_var (i := 2)) pa3_nil)) pe3_int) (fun _ _ => rfl)) pe3_int (fun _ _ => rfl)) (pa3_cons (pe3_add (pe3_var (i := 3)) (pe3_var (i := 1))) pa3_nil))) (pg3_subC (hu1 hr) (pe3_var (i := 2)) (pe3_sub (pe3_callB cr_len3 sound_len (by rfl) T.n_len bt_len (pa3_cons (pe3_var (i := 2)) pa3_nil)) pe3_int))))
  (pss3_one (ps3_expr (pe3_append (pe3_var (i := 2)) (pa3_cons (pe3_tup (pa3_cons (pe3_var (i := 3)) (pa3_cons (pe3_add (pe3_var (i := 3)) (pe3_var (i := 1))) pa3_nil))) pa3_nil)))))))
  (pss3_one (ps3_ret (pe3_var (i := 2))))))
theorem ok_law_spans (T : Tx K mg a) (len : ∀ ds G Q E, sp_law_spans K a ds G Q E → ds.length = 2)
    (pl : ∀ ds G Q3 E3, sp_law_spans K a ds G Q3 E3 → T_law_spans K a { nx := fun _ G' => RetC Q3 .non G', rt := RetC Q3, ex := fun cls _ G' => ExC E3 cls G' } (start3 N_law_spans ds) G) :
    Fn3 P w K mg base 1 a.f_law_spans a.d_law_spans ["times", "gap"] (sp_law_spans K a) := fn3 T.u_law_spans sc_law_spans len fun Γ cdv A outer s H E hr => ⟨_, w_law_spans T  Γ cdv A outer s H E hr, pl⟩
theorem sc_law : FnScope N_law ["script"] (defScope s_law) := ⟨rfl, rfl, rfl, by decide +kernel, rfl, by decide +kernel, by decide +kernel⟩
def lam_law_0 : LamI := lamI (eltAt (stV ((defBody s_law).getD 1 (.Pass ⟨0, 0, 0, 0⟩))) 0)
def lam_law_1 : LamI := lamI (eltAt (stV ((defBody s_law).getD 1 (.Pass ⟨0, 0, 0, 0⟩))) 1)
def lam_law_2 : LamI := lamI (eltAt (stV ((defBody s_law).getD 1 (.Pass ⟨0, 0, 0, 0⟩))) 2)
def lam_law_3 : LamI := lamI (eltAt (stV ((defBody s_law).getD 1 (.Pass ⟨0, 0, 0, 0⟩))) 3)
def lam_law_4 : LamI := lamI (eltAt (binR (stV ((defBody s_law).getD 2 (.Pass ⟨0, 0, 0, 0⟩)))) 0)
def lq_law : Str := (envOfC "law" (defScope s_law) 0 0 .none).qual ++ "<lambda>"
def Gam_law (P : Addr) : Gm := { T := [(P, lq_law)], cq := fun _ => lq_law, clo := fun i f c => match i with
  | 0 => LamO lq_law lam_law_0.params lam_law_0.body lam_law_0.scope f c
  | 1 => LamO lq_law lam_law_1.params lam_law_1.body lam_law_1.scope f c
  | 2 => LamO lq_law lam_law_2.params lam_law_2.body lam_law_2.scope f c
  | 3 => LamO lq_law lam_law_3.params lam_law_3.body lam_law_3.scope f c
  | 4 => LamO lq_law lam_law_4.params lam_law_4.body lam_law_4.scope f c
  | _ => LamO lq_law lam_law_0.params lam_law_0.body lam_law_0.scope f c }
theorem w_law (T : Tx K mg a) (F_law_rounds : Fn3 P w K mg base 2 a.f_law_rounds a.d_law_rounds ["script", "most"] (sp_law_rounds K a)) (F_law_roll : Fn3 P w K mg base 1 a.f_law_roll a.d_law_roll ["dice", "many"] (sp_law_roll K a)) (F_Marks_init : Fn3 P w K mg base 1 a.f_Marks_init a.d_Marks_init ["self", "names"] (sp_Marks_init K a)) (F_Marks_rest : Fn3 P w K mg base 2 a.f_Marks_rest a.d_Marks_rest ["self", "name"] (sp_Marks_rest K a)) (F_Marks_tell : Fn3 P w K mg base 2 a.f_Marks_tell a.d_Marks_tell ["self", "name", "time"] (sp_Marks_tell K a)) (F_Marks_time_now : Fn3 P w K mg base 1 a.f_Marks_time_now a.d_Marks_time_now ["self"] (sp_Marks_time_now K a)) (F_Windows_init : Fn3 P w K mg base 1 a.f_Windows_init a.d_Windows_init ["self", "length", "step"] (sp_Windows_init K a)) (F_Windows_around : Fn3 P w K mg base 1 a.f_Windows_around a.d_Windows_around ["self", "time"] (sp_Windows_around K a)) (F_Sessions_init : Fn3 P w K mg base 1 a.f_Sessions_init a.d_Sessions_init ["self", "gap"] (sp_Sessions_init K a)) (F_Sessions_joined : Fn3 P w K mg base 1 a.f_Sessions_joined a.d_Sessions_joined ["self", "spans", "time"] (sp_Sessions_joined K a)) (F_law_spans : Fn3 P w K mg base 1 a.f_law_spans a.d_law_spans ["times", "gap"] (sp_law_spans K a)) {P0 c0 : Addr} (TB : LamX.TabB base mg c0 P0) (cdv : Value) (hcode : cdv = .ref c0) (A : Around) (outer : List Env) (s : Shared) (H : Hp) (E : XK) (hr : Room 7 (A.deeper (envOfC "law" (defScope s_law) s.heap.objs.size a.f_law cdv))) :
    PSs3 (cxOf (L2.CX P w) P w K mg base N_law "law" (defScope s_law) a.f_law cdv A outer s H E) (Gam_law P0) (WE3 E) (defBody s_law) (T_law K a) := by
  have tk : Takes (cxOf (L2.CX P w) P w K mg base N_law "law" (defScope s_law) a.f_law cdv A outer s H E) (WE3 E) := takes_of rfl rfl rfl rfl
  exact (pss3_cons (ps3_for (passes_of rfl) rfl (pi3_list (pe3_call F_law_rounds (hr.mono (by decide)) (by rfl) T.g_law_rounds T.k_law_rounds T.b_law_rounds .nil dflt_nil tk (pa3_cons (pe3_var (i := 0)) (pa3_cons pe3_int pa3_nil)))) (pg3_name (i := 1) sc_law.nd rfl (by first | exact Or.inl rfl | exact Or.inr rfl))
  (pss3_cons (ps3_set (i := 2) sc_law.nd rfl (by first | exact Or.inl rfl | exact Or.inr rfl) (pe3_slice (pe3_lst (pa3_cons pe3_str (pa3_cons pe3_str (pa3_cons pe3_str pa3_nil)))) po3_none (po3_some (pe3_add pe3_int (pe3_call F_law_roll (hr.mono (by decide)) (by rfl) T.g_law_roll T.k_law_roll T.b_law_roll .nil dflt_nil tk (pa3_cons (pe3_var (i := 1)) (pa3_cons pe3_int pa3_nil)))))))
  (pss3_cons (ps3_asg (pe3_tup (pa3_cons (pe3_make T.mk_Marks F_Marks_init (hr.mono (by decide)) (by rfl) T.g_Marks T.b_Marks_init .nil dflt_nil tk (pa3_cons (pe3_var (i := 2)) pa3_nil)) (pa3_cons (pe3_callTy (call_dictP rfl) sound_dictV (by rfl) T.n_dict bt_dict (pa3_cons (pe3_lc (own := [("name", 8)]) rfl sc_law.nd (pi3_list (pe3_var (i := 2))) (blkOk_by (own := [("name", 8)]) (N := N_law) (sc := defScope s_law) (by decide +kernel)) (fun _ _ _ _ _ => (pw3_name (i := 8) (by decide) sc_law.nd rfl (by first | exact Or.inl rfl | exact Or.inr rfl))) (fun _ _ _ _ _ => pts3_nil) (fun _ _ _ _ _ => (pe3_tup (pa3_cons (pe3_var (i := 8)) (pa3_cons pe3_int pa3_nil))))) pa3_nil)) (pa3_cons (pe3_lst pa3_nil) (pa3_cons pe3_int pa3_nil))))) (pg3_imp (pg3_tup (n := 4) rfl (pgs3_cons (pg3_name (i := 3) sc_law.nd rfl (by first | exact Or.inl rfl | exact Or.inr rfl)) (pgs3_cons (pg3_name (i := 4) sc_law.nd rfl (by first | exact Or.inl rfl | exact Or.inr rfl)) (pgs3_cons (pg3_name (i := 5) sc_law.nd rfl (by first | exact Or.inl rfl | exact Or.inr rfl)) (pgs3_cons (pg3_name (i := 6) sc_law.nd rfl (by first | exact Or.inl rfl | exact Or.inr rfl)) pgs3_nil)))))))
  (pss3_cons (ps3_for (passes_of rfl) rfl (pi3_range1 (by rfl) T.n_range (pa3_cons (pe3_call F_law_roll (hr.mono (by decide)) (by rfl) T.g_law_roll T.k_law_roll T.b_law_roll .nil dflt_nil tk (pa3_cons (pe3_var (i := 1)) (pa3_cons pe3_int pa3_nil))) pa3_nil)) (pg3_name (i := 7) sc_law.nd rfl (by first | exact Or.inl rfl | exact Or.inr rfl))
  (pss3_cons (ps3_set (i := 8) sc_law.nd rfl (by first | exact Or.inl rfl | exact Or.inr rfl) (pe3_subC (hu1 hr) (pe3_var (i := 2)) (pe3_call F_law_roll (hr.mono (by decide)) (by rfl) T.g_law_roll T.k_law_roll T.b_law_roll .nil dflt_nil tk (pa3_cons (pe3_var (i := 1)) (pa3_cons (pe3_callB cr_len3 sound_len (by rfl) T.n_len bt_len (pa3_cons (pe3_var (i := 2)) pa3_nil)) pa3_nil))) (fun _ _ => rfl)))
  (pss3_cons (ps3_if (pt3_cmp (op_eq.or (op_eqD (hu64 hr))) sound_eqC (pe3_call F_law_roll (hr.mono (by decide)) (by rfl) T.g_law_roll T.k_law_roll T.b_law_roll .nil dflt_nil tk (pa3_cons (pe3_var (i := 1)) (pa3_cons pe3_int pa3_nil))) pe3_int (nomark _)) (pss3_cons (ps3_set (i := 5) sc_law.nd rfl (by first | exact Or.inl rfl | exact Or.inr rfl) (pe3_add (pe3_var (i := 5)) (pe3_mul (pe3_lst (pa3_cons (pe3_var (i := 8)) pa3_nil)) (pe3_callTy call_int1 sound_int1 (by rfl) T.n_int bt_int (pa3_cons (pe3_cmp (op_notIn4 (hu65 hr)) sound_notInC (pe3_var (i := 8)) (pe3_var (i := 5)) (by with_unfolding_all rfl)) pa3_nil)))))
  (pss3_one (ps3_set (i := 9) sc_law.nd rfl (by first | exact Or.inl rfl | exact Or.inr rfl) (pe3_meth (pe3_var (i := 3)) T.c_Marks T.m_Marks_rest F_Marks_rest (hr.mono (by decide)) T.b_Marks_rest .nil dflt_nil tk (pa3_cons (pe3_var (i := 8)) pa3_nil)))))
  (pss3_cons (ps3_set (i := 10) sc_law.nd rfl (by first | exact Or.inl rfl | exact Or.inr rfl) (pe3_call F_law_roll (hr.mono (by decide)) (by rfl) T.g_law_roll T.k_law_roll T.b_law_roll .nil dflt_nil tk (pa3_cons (pe3_var (i := 1)) (pa3_cons pe3_int pa3_nil))))
  (pss3_cons (ps3_asg (pe3_tup (pa3_cons (pe3_lc (own := [("one", 23)]) rfl sc_law.nd (pi3_list (pe3_var (i := 5))) (blkOk_by (own := [("one", 23)]) (N := N_law) (sc := defScope s_law) (by decide +kernel)) (fun _ _ _ _ _ => (pw3_name (i := 23) (by decide) sc_law.nd rfl (by first | exact Or.inl rfl | exact Or.inr rfl))) (fun _ _ _ _ _ => (pts3_one (pt3_cmp (op_ne.or (op_neD (hu64 hr))) sound_neC (pe3_var (i := 23)) (pe3_var (i := 8)) (nomark _)))) (fun _ _ _ _ _ => (pe3_var (i := 23)))) (pa3_cons (pe3_callTy (call_dictP rfl) sound_dictV (by rfl) T.n_dict bt_dict (pa3_cons (pe3_lc (own := [("one", 23)]) rfl sc_law.nd (pi3_list (pe3_var (i := 2))) (blkOk_by (own := [("one", 23)]) (N := N_law) (sc := defScope s_law) (by decide +kernel)) (fun _ _ _ _ _ => (pw3_name (i := 23) (by decide) sc_law.nd rfl (by first | exact Or.inl rfl | exact Or.inr rfl))) (fun _ _ _ _ _ => pts3_nil) (fun _ _ _ _ _ => (pe3_tup (pa3_cons (pe3_var (i := 23)) (pa3_cons (pe3_ifExp (pt3_cmp (op_eq.or (op_eqD (hu64 hr))) sound_eqC (pe3_var (i := 23)) (pe3_var (i := 8)) (nomark _)) (pe3_callB (cr_max2 rfl) sound_max (by rfl) T.n_max bt_max (pa3_cons (pe3_subC (hu1 hr) (pe3_var (i := 4)) (pe3_var (i := 23)) (fun _ _ => rfl)) (pa3_cons (pe3_var (i := 10)) pa3_nil))) (pe3_subC (hu1 hr) (pe3_var (i := 4)) (pe3_var (i := 23)) (fun _ _ => rfl))) pa3_nil))))) pa3_nil)) pa3_nil))) (pg3_imp (pg3_tup (n := 2) rfl (pgs3_cons (pg3_name (i := 5) sc_law.nd rfl (by first | exact Or.inl rfl | exact Or.inr rfl)) (pgs3_cons (pg3_name (i := 4) sc_law.nd rfl (by first | exact Or.inl rfl | exact Or.inr rfl)) pgs3_nil)))))
  (pss3_one (ps3_set (i := 9) sc_law.nd rfl (by first | exact Or.inl rfl | exact Or.inr rfl) (pe3_meth (pe3_var (i := 3)) T.c_Marks T.m_Marks_tell F_Marks_tell (hr.mono (by decide)) T.b_Marks_tell .nil dflt_nil tk (pa3_cons (pe3_var (i := 8)) (pa3_cons (pe3_var (i := 10)) pa3_nil))))))))
  (pss3_cons (ps3_setLc (i := 11) (own := [("one", 23)]) rfl sc_law.nd rfl rfl (sw_true rfl rfl rfl (by decide +kernel)) (pi3_list (pe3_var (i := 2))) (blkOk_by (own := [("one", 23)]) (N := N_law) (sc := defScope s_law) (by decide +kernel)) (fun _ _ _ _ _ => (pw3_name (i := 23) (by decide) sc_law.nd rfl (by first | exact Or.inl rfl | exact Or.inr rfl))) (fun _ _ _ _ _ => (pts3_one (pt3_cmp (op_notIn4 (hu65 hr)) sound_notInC (pe3_var (i := 23)) (pe3_var (i := 5)) (by with_unfolding_all rfl)))) (fun _ _ _ _ _ => (pe3_subC (hu1 hr) (pe3_var (i := 4)) (pe3_var (i := 23)) (fun _ _ => rfl))))
  (pss3_cons (ps3_set (i := 6) sc_law.nd rfl (by first | exact Or.inl rfl | exact Or.inr rfl) (pe3_ifExp (pt3_cmp (op_ne.or (op_neD (hu64 hr))) sound_neC (pe3_var (i := 11)) (pe3_lst pa3_nil) (nomark _)) (pe3_callB (cr_max2 rfl) sound_max (by rfl) T.n_max bt_max (pa3_cons (pe3_var (i := 6)) (pa3_cons (pe3_callB (cr_min2 rfl) sound_min (by rfl) T.n_min bt_min (pa3_cons (pe3_var (i := 11)) pa3_nil)) pa3_nil))) (pe3_var (i := 6))))
  (pss3_one (ps3_if (pw3_or (pt3_cmp (op_ne.or (op_neD (hu64 hr))) sound_neC (pe3_var (i := 9)) (pe3_var (i := 6)) (nomark _)) (pw3_or (pt3_cmp (op_ne.or (op_neD (hu64 hr))) sound_neC (pe3_fld (pe3_var (i := 3)) rfl) (pe3_var (i := 6)) (nomark _)) (pw3_or1 (pt3_cmp (op_ne.or (op_neD (hu64 hr))) sound_neC (pe3_meth0 (pe3_var (i := 3)) T.c_Marks T.m_Marks_time_now F_Marks_time_now (hr.mono (by decide)) T.b_Marks_time_now .nil dflt_nil tk) (pe3_var (i := 6)) (nomark _))))).pt (pss3_one (ps3_ret pe3_bl))
  pss3_nil)))))))
  (pss3_cons (ps3_asg (pe3_tup (pa3_cons (pe3_add pe3_int (pe3_call F_law_roll (hr.mono (by decide)) (by rfl) T.g_law_roll T.k_law_roll T.b_law_roll .nil dflt_nil tk (pa3_cons (pe3_var (i := 1)) (pa3_cons pe3_int pa3_nil)))) (pa3_cons (pe3_add pe3_int (pe3_call F_law_roll (hr.mono (by decide)) (by rfl) T.g_law_roll T.k_law_roll T.b_law_roll .nil dflt_nil tk (pa3_cons (pe3_var (i := 1)) (pa3_cons pe3_int pa3_nil)))) pa3_nil))) (pg3_imp (pg3_tup (n := 2) rfl (pgs3_cons (pg3_name (i := 7) sc_law.nd rfl (by first | exact Or.inl rfl | exact Or.inr rfl)) (pgs3_cons (pg3_name (i := 12) sc_law.nd rfl (by first | exact Or.inl rfl | exact Or.inr rfl)) pgs3_nil)))))
  (pss3_cons (ps3_if (pt3_cmp op_gt sound_gt (pe3_var (i := 7)) (pe3_var (i := 12)) (nomark _)) (pss3_one (ps3_if (pt3_cmp (op_ne.or (op_neD (hu64 hr))) sound_neC ((told_ok T).told (k := 2) (by rfl) (by decide) TB hcode (List.mem_singleton.mpr rfl) (fun p hp _ => congrArg Prod.snd (List.mem_singleton.mp hp)) (hr.mono (by decide)) (LamX.lamS_by (sc := defScope s_law) (by decide +kernel)) rfl (fun _ _ _ _ _ => rfl) (fun A outer s H E f c hrl => (pe3_make T.mk_Windows F_Windows_init (hrl.mono (by decide)) (by rfl) T.g_Windows T.b_Windows_init .nil dflt_nil (takes_of rfl rfl rfl rfl) (pa3_cons (pe3_var (i := 12)) (pa3_cons (pe3_var (i := 7)) pa3_nil))))) pe3_str (nomark _)) (pss3_one (ps3_ret pe3_bl))
  pss3_nil))
  (pss3_cons (ps3_asg (pe3_tup (pa3_cons (pe3_make T.mk_Windows F_Windows_init (hr.mono (by decide)) (by rfl) T.g_Windows T.b_Windows_init .nil dflt_nil tk (pa3_cons (pe3_var (i := 12)) (pa3_cons (pe3_var (i := 7)) pa3_nil))) (pa3_cons (pe3_call F_law_roll (hr.mono (by decide)) (by rfl) T.g_law_roll T.k_law_roll T.b_law_roll .nil dflt_nil tk (pa3_cons (pe3_var (i := 1)) (pa3_cons pe3_int pa3_nil))) pa3_nil))) (pg3_imp (pg3_tup (n := 2) rfl (pgs3_cons (pg3_name (i := 13) sc_law.nd rfl (by first | exact Or.inl rfl | exact Or.inr rfl)) (pgs3_cons (pg3_name (i := 10) sc_law.nd rfl (by first | exact Or.inl rfl | exact Or.inr rfl)) pgs3_nil)))))
  (pss3_one (ps3_if (pt3_cmp (op_ne.or (op_neD (hu64 hr))) sound_neC (pe3_callTy (cr_list3 rfl) sound_list (by rfl) T.n_list bt_list (pa3_cons (pe3_meth (pe3_var (i := 13)) T.c_Windows T.m_Windows_around F_Windows_around (hr.mono (by decide)) T.b_Windows_around .nil dflt_nil tk (pa3_cons (pe3_var (i := 10)) pa3_nil)) pa3_nil)) (pe3_lc (own := [("begin", 24)]) rfl sc_law.nd (pi3_range3 (by rfl) T.n_range (pa3_cons pe3_int (pa3_cons (pe3_add (pe3_var (i := 10)) pe3_int) (pa3_cons (pe3_var (i := 7)) pa3_nil)))) (blkOk_by (own := [("begin", 24)]) (N := N_law) (sc := defScope s_law) (by decide +kernel)) (fun _ _ _ _ _ => (pw3_name (i := 24) (by decide) sc_law.nd rfl (by first | exact Or.inl rfl | exact Or.inr rfl))) (fun _ _ _ _ _ => (pts3_one (pt3_chain op_le op_lt2 sound_le sound_lt (pe3_var (i := 24)) (pe3_var (i := 10)) (pe3_add (pe3_var (i := 24)) (pe3_var (i := 12)))))) (fun _ _ _ _ _ => (pe3_tup (pa3_cons (pe3_var (i := 24)) (pa3_cons (pe3_add (pe3_var (i := 24)) (pe3_var (i := 12))) pa3_nil))))) (nomark _)) (pss3_one (ps3_ret pe3_bl))
  pss3_nil))))
  (pss3_cons (ps3_asg (pe3_tup (pa3_cons (pe3_add pe3_int (pe3_call F_law_roll (hr.mono (by decide)) (by rfl) T.g_law_roll T.k_law_roll T.b_law_roll .nil dflt_nil tk (pa3_cons (pe3_var (i := 1)) (pa3_cons pe3_int pa3_nil)))) (pa3_cons (pe3_lstM pa3_nil) (pa3_cons (pe3_tup pa3_nil) pa3_nil)))) (pg3_imp (pg3_tup (n := 3) rfl (pgs3_cons (pg3_name (i := 14) sc_law.nd rfl (by first | exact Or.inl rfl | exact Or.inr rfl)) (pgs3_cons (pg3_name (i := 15) sc_law.nd rfl (by first | exact Or.inl rfl | exact Or.inr rfl)) (pgs3_cons (pg3_name (i := 16) sc_law.nd rfl (by first | exact Or.inl rfl | exact Or.inr rfl)) pgs3_nil))))))
  (pss3_cons (ps3_set (i := 17) sc_law.nd rfl (by first | exact Or.inl rfl | exact Or.inr rfl) (pe3_make T.mk_Sessions F_Sessions_init (hr.mono (by decide)) (by rfl) T.g_Sessions T.b_Sessions_init .nil dflt_nil tk (pa3_cons (pe3_var (i := 14)) pa3_nil)))
  (pss3_one (ps3_for (passes_of rfl) rfl (pi3_range1 (by rfl) T.n_range (pa3_cons (pe3_call F_law_roll (hr.mono (by decide)) (by rfl) T.g_law_roll T.k_law_roll T.b_law_roll .nil dflt_nil tk (pa3_cons (pe3_var (i := 1)) (pa3_cons pe3_int pa3_nil))) pa3_nil)) (pg3_name (i := 18) sc_law.nd rfl (by first | exact Or.inl rfl | exact Or.inr rfl))
  (pss3_cons (ps3_set (i := 10) sc_law.nd rfl (by first | exact Or.inl rfl | exact Or.inr rfl) (pe3_call F_law_roll (hr.mono (by decide)) (by rfl) T.g_law_roll T.k_law_roll T.b_law_roll .nil dflt_nil tk (pa3_cons (pe3_var (i := 1)) (pa3_cons pe3_int pa3_nil))))
  (pss3_cons (ps3_set (i := 19) sc_law.nd rfl (by first | exact Or.inl rfl | exact Or.inr rfl) (pe3_var (i := 16)))
  (pss3_cons (ps3_asg (pe3_meth (pe3_var (i := 17)) T.c_Sessions T.m_Sessions_joined F_Sessions_joined (hr.mono (by decide)) T.b_Sessions_joined .nil dflt_nil tk (pa3_cons (pe3_var (i := 16)) (pa3_cons (pe3_var (i := 10)) pa3_nil))) (pg3_imp (pg3_tup (n := 3) rfl (pgs3_cons (pg3_name (i := 16) sc_law.nd rfl (by first | exact Or.inl rfl | exact Or.inr rfl)) (pgs3_cons (pg3_name (i := 20) sc_law.nd rfl (by first | exact Or.inl rfl | exact Or.inr rfl)) (pgs3_cons (pg3_name (i := 21) sc_law.nd rfl (by first | exact Or.inl rfl | exact Or.inr rfl)) pgs3_nil))))))
  (pss3_cons (ps3_expr (pe3_append (pe3_var (i := 15)) (pa3_cons (pe3_var (i := 10)) pa3_nil)))
  (pss3_one (ps3_if (pw3_or (pt3_cmp (op_ne.or (op_neD (hu64 hr))) sound_neC (pe3_callTy (cr_list3 rfl) sound_list (by rfl) T.n_list bt_list (pa3_cons (pe3_var (i := 16)) pa3_nil)) (pe3_call F_law_spans (hr.mono (by decide)) (by rfl) T.g_law_spans T.k_law_spans T.b_law_spans .nil dflt_nil tk (pa3_cons (pe3_var (i := 15)) (pa3_cons (pe3_var (i := 14)) pa3_nil))) (nomark _)) (pw3_or (pt3_cmp (op_notIn4 (hu65 hr)) sound_notInC (pe3_var (i := 20)) (pe3_var (i := 16)) (by with_unfolding_all rfl)) (pw3_or (pt3_not (pt3_chain op_le op_lt2 sound_le sound_lt (pe3_subC (hu1 hr) (pe3_var (i := 20)) pe3_int (fun _ _ => rfl)) (pe3_var (i := 10)) (pe3_subC (hu1 hr) (pe3_var (i := 20)) pe3_int (fun _ _ => rfl)))) (pw3_or1 (pt3_cmp (op_ne.or (op_neD (hu64 hr))) sound_neC (pe3_callB cr_sortedT2 sound_sorted (by rfl) T.n_sorted bt_sorted (pa3_cons (pe3_var (i := 21)) pa3_nil)) (pe3_lc (own := [("one", 23)]) rfl sc_law.nd (pi3_tup (pe3_var (i := 19))) (blkOk_by (own := [("one", 23)]) (N := N_law) (sc := defScope s_law) (by decide +kernel)) (fun _ _ _ _ _ => (pw3_name (i := 23) (by decide) sc_law.nd rfl (by first | exact Or.inl rfl | exact Or.inr rfl))) (fun _ _ _ _ _ => (pts3_one (pw3_or (pt3_cmp (op_notIn4 (hu65 hr)) sound_notInC (pe3_var (i := 23)) (pe3_var (i := 16)) (by with_unfolding_all rfl)) (pw3_or1 (pt3_cmp (op_eq.or (op_eqD (hu64 hr))) sound_eqC (pe3_var (i := 23)) (pe3_var (i := 20)) (nomark _)))).pt)) (fun _ _ _ _ _ => (pe3_var (i := 23)))) (nomark _)))))).pt (pss3_one (ps3_ret pe3_bl))
  pss3_nil))))))))))))))))
  (pss3_cons (ps3_set (i := 22) sc_law.nd rfl (by first | exact Or.inl rfl | exact Or.inr rfl) (pe3_lst (pa3_cons (pe3_clo (i := 0) (l := lam_law_0) (fun _ _ => rfl) TB hcode rfl (List.mem_singleton.mpr rfl) (fun p hp _ => congrArg Prod.snd (List.mem_singleton.mp hp)) rfl ⟨rfl, rfl, rfl, by decide +kernel, fun _ => rfl⟩) (pa3_cons (pe3_clo (i := 1) (l := lam_law_1) (fun _ _ => rfl) TB hcode rfl (List.mem_singleton.mpr rfl) (fun p hp _ => congrArg Prod.snd (List.mem_singleton.mp hp)) rfl ⟨rfl, rfl, rfl, by decide +kernel, fun _ => rfl⟩) (pa3_cons (pe3_clo (i := 2) (l := lam_law_2) (fun _ _ => rfl) TB hcode rfl (List.mem_singleton.mpr rfl) (fun p hp _ => congrArg Prod.snd (List.mem_singleton.mp hp)) rfl ⟨rfl, rfl, rfl, by decide +kernel, fun _ => rfl⟩) (pa3_cons (pe3_clo (i := 3) (l := lam_law_3) (fun _ _ => rfl) TB hcode rfl (List.mem_singleton.mpr rfl) (fun p hp _ => congrArg Prod.snd (List.mem_singleton.mp hp)) rfl ⟨rfl, rfl, rfl, by decide +kernel, fun _ => rfl⟩) pa3_nil))))))
  (pss3_cons (ps3_set (i := 22) sc_law.nd rfl (by first | exact Or.inl rfl | exact Or.inr rfl) (pe3_add (pe3_var (i := 22)) (pe3_lst (pa3_cons (pe3_clo (i := 4) (l := lam_law_4) (fun _ _ => rfl) TB hcode rfl (List.mem_singleton.mpr rfl) (fun p hp _ => congrArg Prod.snd (List.mem_singleton.mp hp)) rfl ⟨rfl, rfl, rfl, by decide +kernel, fun _ => rfl⟩) pa3_nil))))
  (pss3_one (ps3_ret (pe3_and (pe3_cmp (op_eq.or (op_eqD (hu64 hr))) sound_eqC (pe3_lc (own := [("f", 25)]) rfl sc_law.nd (pi3_list (pe3_var (i := 22))) (blkOk_by (own := [("f", 25)]) (N := N_law) (sc := defScope s_law) (by decide +kernel)) (fun _ _ _ _ _ => (pw3_name (i := 25) (by decide) sc_law.nd rfl (by first | exact Or.inl rfl | exact Or.inr rfl))) (fun _ _ _ _ _ => (pts3_one (pt3_cmp (op_ne.or (op_neD (hu64 hr))) sound_neC ((told_ok T).toldV (k := 2) (by rfl) (by decide) (hr.mono (by decide)) (pe3_var (i := 25)) (fun i t h => match i, t, h with
  | 0, t, h => by
    cases h
    exact ⟨lam_law_0, fun _ _ => rfl, ⟨rfl, rfl, rfl, by decide +kernel, fun _ => rfl⟩, fun _ _ _ => rfl, fun A outer s H E f c hrl => (pe3_make T.mk_Windows F_Windows_init (hrl.mono (by decide)) (by rfl) T.g_Windows T.b_Windows_init .nil dflt_nil (takes_of rfl rfl rfl rfl) (pa3_cons pe3_int (pa3_cons pe3_int pa3_nil)))⟩
  | 1, t, h => by
    cases h
    exact ⟨lam_law_1, fun _ _ => rfl, ⟨rfl, rfl, rfl, by decide +kernel, fun _ => rfl⟩, fun _ _ _ => rfl, fun A outer s H E f c hrl => (pe3_make T.mk_Windows F_Windows_init (hrl.mono (by decide)) (by rfl) T.g_Windows T.b_Windows_init .nil dflt_nil (takes_of rfl rfl rfl rfl) (pa3_cons pe3_int (pa3_cons pe3_int pa3_nil)))⟩
  | 2, t, h => by
    cases h
    exact ⟨lam_law_2, fun _ _ => rfl, ⟨rfl, rfl, rfl, by decide +kernel, fun _ => rfl⟩, fun _ _ _ => rfl, fun A outer s H E f c hrl => (pe3_make T.mk_Sessions F_Sessions_init (hrl.mono (by decide)) (by rfl) T.g_Sessions T.b_Sessions_init .nil dflt_nil (takes_of rfl rfl rfl rfl) (pa3_cons pe3_int pa3_nil))⟩
  | 3, t, h => by
    cases h
    exact ⟨lam_law_3, fun _ _ => rfl, ⟨rfl, rfl, rfl, by decide +kernel, fun _ => rfl⟩, fun _ _ _ => rfl, fun A outer s H E f c hrl => (pe3_meth (pe3_make T.mk_Marks F_Marks_init (hrl.mono (by decide)) (by rfl) T.g_Marks T.b_Marks_init .nil dflt_nil (takes_of rfl rfl rfl rfl) (pa3_cons (pe3_lst (pa3_cons pe3_str pa3_nil)) pa3_nil)) T.c_Marks T.m_Marks_tell F_Marks_tell (hrl.mono (by decide)) T.b_Marks_tell .nil dflt_nil (takes_of rfl rfl rfl rfl) (pa3_cons pe3_str (pa3_cons pe3_int pa3_nil)))⟩
  | 4, t, h => by
    cases h
    exact ⟨lam_law_4, fun _ _ => rfl, ⟨rfl, rfl, rfl, by decide +kernel, fun _ => rfl⟩, fun _ _ _ => rfl, fun A outer s H E f c hrl => (pe3_meth (pe3_make T.mk_Marks F_Marks_init (hrl.mono (by decide)) (by rfl) T.g_Marks T.b_Marks_init .nil dflt_nil (takes_of rfl rfl rfl rfl) (pa3_cons (pe3_lst (pa3_cons pe3_str pa3_nil)) pa3_nil)) T.c_Marks T.m_Marks_rest F_Marks_rest (hrl.mono (by decide)) T.b_Marks_rest .nil dflt_nil (takes_of rfl rfl rfl rfl) (pa3_cons pe3_str pa3_nil))⟩
  | n + 5, t, h => by simp [lams_law] at h)) pe3_str (nomark _)))) (fun _ _ _ _ _ => pe3_int)) (pe3_lst pa3_nil) (nomark _)) (pe3_and (pe3_cmp (op_eq.or (op_eqD (hu64 hr))) sound_eqC (pe3_meth (pe3_make T.mk_Windows F_Windows_init (hr.mono (by decide)) (by rfl) T.g_Windows T.b_Windows_init .nil dflt_nil tk (pa3_cons pe3_int (pa3_cons pe3_int pa3_nil))) T.c_Windows T.m_Windows_around F_Windows_around (hr.mono (by decide)) T.b_Windows_around .nil dflt_nil tk (pa3_cons pe3_int pa3_nil)) (pe3_tup (pa3_cons (pe3_tup (pa3_cons pe3_int (pa3_cons pe3_int pa3_nil))) (pa3_cons (pe3_tup (pa3_cons pe3_int (pa3_cons pe3_int pa3_nil))) pa3_nil))) (nomark _)) (pe3_one (pe3_cmp (op_eq.or (op_eqD (hu64 hr))) sound_eqC (pe3_meth (pe3_make T.mk_Sessions F_Sessions_init (hr.mono (by decide)) (by rfl) T.g_Sessions T.b_Sessions_init .nil dflt_nil tk (pa3_cons pe3_int pa3_nil)) T.c_Sessions T.m_Sessions_joined F_Sessions_joined (hr.mono (by decide)) T.b_Sessions_joined .nil dflt_nil tk (pa3_cons (pe3_tup (pa3_cons (pe3_tup (pa3_cons pe3_int (pa3_cons pe3_int pa3_nil))) pa3_nil)) (pa3_cons pe3_int pa3_nil))) (pe3_tup (pa3_cons (pe3_tup (pa3_cons (pe3_tup (pa3_cons pe3_int (pa3_cons pe3_int pa3_nil))) (pa3_cons (pe3_tup (pa3_cons pe3_int (pa3_cons pe3_int pa3_nil))) pa3_nil))) (pa3_cons (pe3_tup (pa3_cons pe3_int (pa3_cons pe3_int pa3_nil))) (pa3_cons (pe3_tup pa3_nil) pa3_nil)))) (nomark _))))))))))
end
end K08
namespace K08
open PySem PySem.Spec PyProof.Rows L2 L3
variable {K : PySem.W.Frag} {a : Ad}
abbrev endsOf (Q3 : K3) (E3 : X3) : Ends3 := { nx := fun _ G' => RetC Q3 .non G', rt := RetC Q3, ex := fun cls _ G' => ExC E3 cls G' }
theorem spanS_nil {g t : Int} : spanS g [] t = [(t, t + g)] := rfl
theorem spanS_snoc {g t : Int} {i : List (Int × Int)} {l : Int × Int} : spanS g (i ++ [l]) t = if t < l.2 then i ++ [(l.1, t + g)] else i ++ [l] ++ [(t, t + g)] := by
  unfold spanS
  simp
theorem spansOf_snoc {g t : Int} {ts : List Int} : spansOf g (ts ++ [t]) = spanS g (spansOf g ts) t := by simp [spansOf]
theorem spanS_len {g t : Int} {acc : List (Int × Int)} : (spanS g acc t).length ≤ acc.length + 1 := by
  rcases List.eq_nil_or_concat acc with rfl | ⟨i, l, rfl⟩
  · simp [spanS]
  · rw [List.concat_eq_append, spanS_snoc]
    split <;> simp
theorem spansOf_len {g : Int} (ts : List Int) : (spansOf g ts).length ≤ ts.length := by
  have : ∀ (ts : List Int) acc, (ts.foldl (spanS g) acc).length ≤ acc.length + ts.length := fun ts => by
    induction ts with
    | nil => intro acc; simp
    | cons t ts ih =>
      intro acc
      have h1 := ih (spanS g acc t)
      have h2 := spanS_len (g := g) (t := t) (acc := acc)
      simp only [List.foldl_cons, List.length_cons]
      omega
  simpa [spansOf] using this ts []
theorem pl_spans : ∀ ds G Q3 E3, sp_law_spans K a ds G Q3 E3 → T_law_spans K a (endsOf Q3 E3) (start3 N_law_spans ds) G := by
  rintro ds G Q3 E3 ⟨p, ts, g, rfl, hp, hl, k⟩
  simp [T_law_spans]
  intro f hf
  have npf : p ≠ f := gp_new hp hf
  refine .inl ⟨ts, by simp [gset_ne npf, hp], fun srt hperm hsrt => ?_⟩
  have hsl : srt.length ≤ 1000 := by rw [hperm.length_eq]; exact hl
  refine forRun (fun ds δ G' => ∃ done r v, srt = done ++ r ∧ ds = r.map .int ∧ δ = [some (.ref p), some (.int g), some (.ref f), v] ∧ G' f = some (.lst ((spansOf g done).map iiD)) ∧ Kp [] G G') _ _ _ ⟨[], srt, none, rfl, rfl, rfl, by simp [spansOf], Kp.new hf⟩ ?_ ?_
  · rintro x r δ G' ⟨done, r', v, e1, e2, rfl, hG, kp⟩ Nx hN
    cases r' with
    | nil => cases e2
    | cons t r' =>
      simp only [List.map_cons, List.cons.injEq] at e2
      obtain ⟨rfl, rfl⟩ := e2
      have nx : ∀ (G2 : Gp), G2 f = some (.lst ((spanS g (spansOf g done) t).map iiD)) → Kp [] G G2 → Nx [some (.ref p), some (.int g), some (.ref f), some (.int t)] G2 := fun G2 h1 h2 => hN _ _ ⟨done ++ [t], r', _, by simp [e1], rfl, rfl, by rw [spansOf_snoc]; exact h1, h2⟩
      have hb : (spansOf g done).length < sizeLine := by
        have h1 := spansOf_len (g := g) done
        have h2 : done.length ≤ srt.length := by rw [e1]; simp
        exact sizeLt (m := 1000) (by omega) (by decide)
      rcases List.eq_nil_or_concat (spansOf g done) with h | ⟨i, l, h⟩
      · rw [h] at hG nx hb
        simp [neC, hG, TApp]
        exact ⟨by simpa using hb, nx _ (by simp [spanS_nil, iiD]) (kp.put hf)⟩
      · rw [List.concat_eq_append] at h
        rw [h, spanS_snoc] at nx
        rw [h] at hG hb
        obtain ⟨l1, l2⟩ := l
        have hG' : G' f = some (.lst (i.map iiD ++ [.tup [.int l1, .int l2]])) := by rw [hG]; simp [iiD]
        have e5 : eq3 (.lst (i.map iiD ++ [.tup [.int l1, .int l2]])) (.lst []) = false := by
          have := eq3_pairs0 (i ++ [(l1, l2)])
          simpa [iiD] using this
        have g5 : gd 60 (.lst (i.map iiD ++ [.tup [.int l1, .int l2]])) = true := by
          have := gd_pairs (i ++ [(l1, l2)])
          simpa [iiD] using this
        by_cases ht : t < l2
        · rw [if_pos ht] at nx
          simp [neC, hG', e5, g5, subC, itemsC, lenR, ht, setC]
          exact nx _ (by simp [iiD, List.set_append]) (kp.put hf)
        · rw [if_neg ht] at nx
          simp [neC, hG', e5, g5, subC, itemsC, lenR, ht, TApp]
          exact ⟨by simpa using hb, nx _ (by simp [iiD]) (kp.put hf)⟩
  · rintro δ G' ⟨done, r, v, e1, e2, rfl, hG, kp⟩
    cases r with
    | cons t r => cases e2
    | nil =>
      simp only [List.append_nil] at e1
      subst e1
      simp
      exact RetC.lst hG (k srt _ hperm hsrt (kp.del hf))
end K08
namespace K08
open PySem PySem.Spec PyProof.Rows L2 L3
/-! ### joining as the law's own spans -/
/-- the group that ends at q so far, and what comes behind -/
def grp (g : Int) : Int → List Int → Int × List (Int × Int)
  | q, [] => (q, [])
  | q, b :: B => if b < q then grp g (b + g) B else (q, (b, (grp g (b + g) B).1) :: (grp g (b + g) B).2)
theorem fold_grp (g : Int) : ∀ (B : List Int) (i : List (Int × Int)) (p q : Int), B.foldl (spanS g) (i ++ [(p, q)]) = i ++ (p, (grp g q B).1) :: (grp g q B).2
  | [], i, p, q => by simp [grp]
  | b :: B, i, p, q => by
    rw [List.foldl_cons, spanS_snoc]
    by_cases h : b < q
    · rw [if_pos h, fold_grp g B, grp, if_pos h]
    · rw [if_neg h, fold_grp g B, grp, if_neg h]
      simp
theorem spansOf_cons (g a : Int) (A : List Int) : spansOf g (a :: A) = (a, (grp g (a + g) A).1) :: (grp g (a + g) A).2 := by
  have := fold_grp g A [] a (a + g)
  simpa [spansOf, spanS] using this
def ins (t : Int) : List Int → List Int
  | [] => [t]
  | b :: B => if t ≤ b then t :: b :: B else b :: ins t B
/-- the joining, in order -/
def J (F : Int × Int) : List (Int × Int) → List (Int × Int)
  | [] => [F]
  | x :: xs => if x.2 ≤ F.1 then x :: J F xs else if x.1 < F.2 then J (min F.1 x.1, max F.2 x.2) xs else F :: x :: xs
def Kt (F : Int × Int) : List (Int × Int) → (Int × Int) × List (Int × Int)
  | [] => (F, [])
  | x :: xs => if x.1 < F.2 ∧ F.1 < x.2 then ((Kt (min F.1 x.1, max F.2 x.2) xs).1, x :: (Kt (min F.1 x.1, max F.2 x.2) xs).2) else Kt F xs
def Rt (F : Int × Int) : List (Int × Int) → List (Int × Int)
  | [] => []
  | x :: xs => if x.1 < F.2 ∧ F.1 < x.2 then Rt (min F.1 x.1, max F.2 x.2) xs else x :: Rt F xs
theorem fold_Kt : ∀ (xs : List (Int × Int)) (F : Int × Int) (acc : List (Int × Int)), xs.foldl joinT (F, acc) = ((Kt F xs).1, acc ++ (Kt F xs).2)
  | [], F, acc => by simp [Kt]
  | x :: xs, F, acc => by
    rw [List.foldl_cons, Kt]
    by_cases h : x.1 < F.2 ∧ F.1 < x.2
    · rw [if_pos h, show joinT (F, acc) x = ((min F.1 x.1, max F.2 x.2), acc ++ [x]) from if_pos h, fold_Kt xs]
      simp
    · rw [if_neg h, show joinT (F, acc) x = (F, acc) from if_neg h, fold_Kt xs]
theorem joinR_Kt (g t : Int) (xs : List (Int × Int)) : joinR g t xs = Kt (t, t + g) xs := by
  have := fold_Kt xs (t, t + g) []
  simpa [joinR] using this
theorem Kt_sub : ∀ (xs : List (Int × Int)) (F : Int × Int), ∀ x ∈ (Kt F xs).2, x ∈ xs
  | [], F, x, h => by simp [Kt] at h
  | y :: xs, F, x, h => by
    rw [Kt] at h
    split at h
    · rcases List.mem_cons.mp h with rfl | h
      · exact List.mem_cons_self ..
      · exact List.mem_cons_of_mem _ (Kt_sub xs _ x h)
    · exact List.mem_cons_of_mem _ (Kt_sub xs _ x h)
theorem rest_Rt : ∀ (xs : List (Int × Int)) (F : Int × Int), xs.Nodup → xs.filter (fun x => decide (x ∉ (Kt F xs).2)) = Rt F xs ∧ xs.filter (fun x => decide (x ∈ (Kt F xs).2)) = (Kt F xs).2
  | [], F, _ => by simp [Kt, Rt]
  | y :: xs, F, h => by
    rw [List.nodup_cons] at h
    rw [Kt, Rt]
    by_cases c : y.1 < F.2 ∧ F.1 < y.2
    · rw [if_pos c, if_pos c]
      obtain ⟨i1, i2⟩ := rest_Rt xs (min F.1 y.1, max F.2 y.2) h.2
      have e : ∀ x ∈ xs, (x ∈ y :: (Kt (min F.1 y.1, max F.2 y.2) xs).2 ↔ x ∈ (Kt (min F.1 y.1, max F.2 y.2) xs).2) := fun x hx => by
        constructor
        · intro z
          rcases List.mem_cons.mp z with rfl | z
          · exact absurd hx h.1
          · exact z
        · exact fun z => List.mem_cons_of_mem _ z
      refine ⟨?_, ?_⟩
      · rw [List.filter_cons_of_neg (by simp)]
        rw [← i1]
        exact List.filter_congr fun x hx => by simp only [e x hx]
      · rw [List.filter_cons_of_pos (by simp)]
        congr 1
        refine (List.filter_congr (q := fun x => decide (x ∈ (Kt (min F.1 y.1, max F.2 y.2) xs).2)) fun x hx => ?_).trans i2
        simp only [e x hx]
    · rw [if_neg c, if_neg c]
      obtain ⟨i1, i2⟩ := rest_Rt xs F h.2
      have n : y ∉ (Kt F xs).2 := fun z => h.1 (Kt_sub xs F y z)
      exact ⟨by rw [List.filter_cons_of_pos (by simp [n]), i1], by rw [List.filter_cons_of_neg (by simp [n]), i2]⟩
/-- apart, in order -/
structure Sep (xs : List (Int × Int)) : Prop where
  pw : xs.Pairwise fun x y => x.2 ≤ y.1
  lt : ∀ x ∈ xs, x.1 < x.2
theorem Sep.tail {x : Int × Int} {xs : List (Int × Int)} (h : Sep (x :: xs)) : Sep xs := ⟨(List.pairwise_cons.mp h.pw).2, fun y hy => h.lt y (List.mem_cons_of_mem _ hy)⟩
theorem Rt_far : ∀ (xs : List (Int × Int)) (F : Int × Int), (∀ x ∈ xs, F.2 ≤ x.1) → Rt F xs = xs ∧ Kt F xs = (F, [])
  | [], F, _ => ⟨rfl, rfl⟩
  | x :: xs, F, h => by
    have c : ¬ (x.1 < F.2 ∧ F.1 < x.2) := fun z => by have := h x (List.mem_cons_self ..); omega
    obtain ⟨i1, i2⟩ := Rt_far xs F fun y hy => h y (List.mem_cons_of_mem _ hy)
    exact ⟨by rw [Rt, if_neg c, i1], by rw [Kt, if_neg c, i2]⟩
theorem J_perm : ∀ (xs : List (Int × Int)) (F : Int × Int), Sep xs → F.1 < F.2 → (Rt F xs ++ [(Kt F xs).1]).Perm (J F xs)
  | [], F, _, _ => by simp [Rt, Kt, J]
  | x :: xs, F, h, hF => by
    rw [Rt, Kt, J]
    by_cases c1 : x.2 ≤ F.1
    · rw [if_neg (by omega), if_neg (by omega), if_pos c1]
      exact (J_perm xs F h.tail hF).cons x
    · rw [if_neg c1]
      by_cases c2 : x.1 < F.2
      · rw [if_pos ⟨c2, by omega⟩, if_pos ⟨c2, by omega⟩, if_pos c2]
        exact J_perm xs _ h.tail (by have := h.lt x (List.mem_cons_self ..); show min F.1 x.1 < max F.2 x.2; omega)
      · rw [if_neg (by omega), if_neg (by omega), if_neg c2]
        obtain ⟨e1, e2⟩ := Rt_far xs F fun y hy => by
          have h1 := (List.pairwise_cons.mp h.pw).1 y hy
          have h2 := h.lt x (List.mem_cons_self ..)
          omega
        rw [e1, e2]
        exact (List.perm_append_comm (l₁ := x :: xs) (l₂ := [F]))
theorem J_stop {F : Int × Int} {xs : List (Int × Int)} (h : ∀ x ∈ xs, F.2 ≤ x.1 ∧ F.1 < x.2) : J F xs = F :: xs := by
  cases xs with
  | nil => rfl
  | cons x xs =>
    have := h x (List.mem_cons_self ..)
    rw [J, if_neg (by omega), if_neg (by omega)]
theorem grp_sep {g : Int} (hg : 1 ≤ g) : ∀ (B : List Int) (p q : Int), p < q → B.Pairwise (· ≤ ·) → (∀ b ∈ B, q - g ≤ b) → q ≤ (grp g q B).1 ∧ Sep ((p, (grp g q B).1) :: (grp g q B).2)
  | [], p, q, hp, _, _ => ⟨Int.le_refl _, ⟨List.pairwise_singleton _ _, fun x hx => by rw [List.mem_singleton.mp hx]; exact hp⟩⟩
  | b :: B, p, q, hp, hs, hb => by
    obtain ⟨h1, h2⟩ := List.pairwise_cons.mp hs
    have hb0 := hb b (List.mem_cons_self ..)
    by_cases c : b < q
    · rw [grp, if_pos c]
      obtain ⟨i1, i2⟩ := grp_sep hg B p (b + g) (by omega) h2 (fun x hx => by have := h1 x hx; omega)
      exact ⟨by omega, i2⟩
    · rw [grp, if_neg c]
      obtain ⟨i1, i2⟩ := grp_sep hg B b (b + g) (by omega) h2 (fun x hx => by have := h1 x hx; omega)
      refine ⟨Int.le_refl _, List.pairwise_cons.mpr ⟨fun y hy => ?_, i2.pw⟩, fun x hx => ?_⟩
      · rcases List.mem_cons.mp hy with rfl | hy
        · show q ≤ b
          omega
        · have := (List.pairwise_cons.mp i2.pw).1 y hy
          show q ≤ y.1
          have h3 : (grp g (b + g) B).1 ≤ y.1 := this
          omega
      · rcases List.mem_cons.mp hx with rfl | hx
        · exact hp
        · exact i2.lt x hx
theorem spansOf_sep {g : Int} (hg : 1 ≤ g) {A : List Int} (hs : A.Pairwise (· ≤ ·)) : Sep (spansOf g A) := by
  cases A with
  | nil => exact ⟨List.Pairwise.nil, fun x hx => by simp [spansOf] at hx⟩
  | cons a A =>
    rw [spansOf_cons]
    obtain ⟨h1, h2⟩ := List.pairwise_cons.mp hs
    exact (grp_sep hg A a (a + g) (by omega) h2 fun b hb => by have := h1 b hb; omega).2
theorem stop_of {p e p' : Int} {r : List (Int × Int)} (h : Sep ((p, e) :: r)) (hp : p' < e) : J (p', e) r = (p', e) :: r := J_stop fun x hx => by
  have h1 : e ≤ x.1 := (List.pairwise_cons.mp h.pw).1 x hx
  have h2 := h.lt x (List.mem_cons_of_mem _ hx)
  exact ⟨h1, by show p' < x.2; omega⟩
theorem J_grp {g t : Int} (hg : 1 ≤ g) : ∀ (B : List Int) (p q : Int), p ≤ q - g → q - g ≤ t → B.Pairwise (· ≤ ·) → (∀ b ∈ B, q - g ≤ b) →
    J (t, t + g) ((p, (grp g q B).1) :: (grp g q B).2) = (p, (grp g q (ins t B)).1) :: (grp g q (ins t B)).2
  | [], p, q, hp, ht, _, _ => by
    by_cases c : q ≤ t
    · simp [grp, ins, J, c, show ¬ t < q by omega]
    · simp [grp, ins, J, c, show t < q by omega, show p < t + g by omega]
      omega
  | b :: B, p, q, hp, ht, hs, hb => by
    obtain ⟨h1, h2⟩ := List.pairwise_cons.mp hs
    have hb0 := hb b (List.mem_cons_self ..)
    obtain ⟨i1, i2⟩ := grp_sep hg B b (b + g) (by omega) h2 (fun x hx => by have := h1 x hx; omega)
    by_cases c : t ≤ b
    · rw [ins, if_pos c]
      generalize hE : (grp g (b + g) B).1 = e at i1 i2
      generalize hR : (grp g (b + g) B).2 = r at i2
      have G1 : grp g q (b :: B) = if b < q then (e, r) else (q, (b, e) :: r) := by
        rw [grp, ← hE, ← hR]
      have G2 : grp g (t + g) (b :: B) = if b < t + g then (e, r) else (t + g, (b, e) :: r) := by
        rw [grp, ← hE, ← hR]
      have G3 : grp g q (t :: b :: B) = if t < q then grp g (t + g) (b :: B) else (q, (t, (grp g (t + g) (b :: B)).1) :: (grp g (t + g) (b :: B)).2) := by
        rw [grp]
      rw [G3, G2, G1]
      have s1 : J (p, e) r = (p, e) :: r := stop_of i2 (by omega)
      have s2 : J (t, e) r = (t, e) :: r := stop_of i2 (by omega)
      have m1 : max (t + g) e = e := by omega
      have m2 : min t p = p := by omega
      have m3 : min t b = t := by omega
      have m4 : min p b = p := by omega
      by_cases c1 : t < q
      · by_cases c2 : b < q
        · have c3 : b < t + g := by omega
          simp only [c1, c2, c3, if_true]
          rw [J, if_neg (by show ¬ e ≤ t; omega), if_pos (by show p < t + g; omega)]
          show J (min t p, max (t + g) e) r = _
          rw [m1, m2, s1]
        · have m5 : max (t + g) q = t + g := by omega
          by_cases c3 : b < t + g
          · simp only [c1, c2, c3, if_true, if_false]
            rw [J, if_neg (by show ¬ q ≤ t; omega), if_pos (by show p < t + g; omega)]
            show J (min t p, max (t + g) q) ((b, e) :: r) = _
            rw [m2, m5, J, if_neg (by show ¬ e ≤ p; omega), if_pos (by show b < t + g; omega)]
            show J (min p b, max (t + g) e) r = _
            rw [m4, m1, s1]
          · simp only [c1, c2, c3, if_true, if_false]
            rw [J, if_neg (by show ¬ q ≤ t; omega), if_pos (by show p < t + g; omega)]
            show J (min t p, max (t + g) q) ((b, e) :: r) = _
            rw [m2, m5, J, if_neg (by show ¬ e ≤ p; omega), if_neg (by show ¬ b < t + g; omega)]
      · have c2 : ¬ b < q := by omega
        by_cases c3 : b < t + g
        · simp only [c1, c2, c3, if_true, if_false]
          rw [J, if_pos (by show q ≤ t; omega), J, if_neg (by show ¬ e ≤ t; omega), if_pos (by show b < t + g; omega)]
          show (p, q) :: J (min t b, max (t + g) e) r = _
          rw [m3, m1, s2]
        · simp only [c1, c2, c3, if_true, if_false]
          rw [J, if_pos (by show q ≤ t; omega), J, if_neg (by show ¬ e ≤ t; omega), if_neg (by show ¬ b < t + g; omega)]
    · rw [ins, if_neg c]
      by_cases c1 : b < q
      · have := J_grp (t := t) hg B p (b + g) (by omega) (by omega) h2 (fun x hx => by have := h1 x hx; omega)
        rw [grp, if_pos c1, grp, if_pos c1]
        exact this
      · have := J_grp (t := t) hg B b (b + g) (by omega) (by omega) h2 (fun x hx => by have := h1 x hx; omega)
        rw [grp, if_neg c1, grp, if_neg c1]
        show J (t, t + g) ((p, q) :: (b, _) :: _) = (p, q) :: (b, _) :: _
        rw [J, if_pos (by show q ≤ t; omega), this]
theorem J_spans {g t : Int} (hg : 1 ≤ g) {A : List Int} (hs : A.Pairwise (· ≤ ·)) : J (t, t + g) (spansOf g A) = spansOf g (ins t A) := by
  cases A with
  | nil => simp [ins, spansOf, spanS, J]
  | cons a A =>
    obtain ⟨h1, h2⟩ := List.pairwise_cons.mp hs
    obtain ⟨i1, i2⟩ := grp_sep hg A a (a + g) (by omega) h2 fun b hb => by have := h1 b hb; omega
    rw [spansOf_cons]
    by_cases c : t ≤ a
    · rw [ins, if_pos c, spansOf_cons, grp]
      generalize hE : (grp g (a + g) A).1 = e at i1 i2
      generalize hR : (grp g (a + g) A).2 = r at i2
      by_cases c3 : a < t + g
      · rw [if_pos c3, J, if_neg (by show ¬ e ≤ t; omega), if_pos (by show a < t + g; omega)]
        show J (min t a, max (t + g) e) r = _
        rw [show min t a = t by omega, show max (t + g) e = e by omega, stop_of i2 (by omega), hE, hR]
      · rw [if_neg c3, J, if_neg (by show ¬ e ≤ t; omega), if_neg (by show ¬ a < t + g; omega)]
    · rw [ins, if_neg c, spansOf_cons]
      exact J_grp hg A a (a + g) (by omega) (by omega) h2 fun b hb => by have := h1 b hb; omega
theorem ins_perm (t : Int) : ∀ A : List Int, (ins t A).Perm (A ++ [t])
  | [] => List.Perm.refl _
  | b :: B => by
    rw [ins]
    split
    · exact (List.perm_append_comm (l₁ := b :: B) (l₂ := [t])).symm
    · exact (ins_perm t B).cons b
theorem ins_sorted (t : Int) : ∀ A : List Int, A.Pairwise (· ≤ ·) → (ins t A).Pairwise (· ≤ ·)
  | [], _ => List.pairwise_singleton _ _
  | b :: B, h => by
    obtain ⟨h1, h2⟩ := List.pairwise_cons.mp h
    rw [ins]
    split
    · rename_i c
      exact List.pairwise_cons.mpr ⟨fun x hx => by
        rcases List.mem_cons.mp hx with rfl | hx
        · exact c
        · have := h1 x hx; omega, h⟩
    · rename_i c
      exact List.pairwise_cons.mpr ⟨fun x hx => by
        have := (ins_perm t B).mem_iff.mp hx
        rcases List.mem_append.mp this with hx | hx
        · exact h1 x hx
        · rw [List.mem_singleton.mp hx]; omega, ins_sorted t B h2⟩
theorem sorted_uniq {α : Type} {r : α → α → Prop} (ha : ∀ x y, r x y → r y x → x = y) : ∀ {l m : List α}, l.Perm m → l.Pairwise r → m.Pairwise r → l = m
  | [], m, hp, _, _ => (List.Perm.eq_nil hp.symm).symm
  | x :: l, [], hp, _, _ => absurd hp.length_eq (by simp)
  | x :: l, y :: m, hp, h1, h2 => by
    obtain ⟨a1, a2⟩ := List.pairwise_cons.mp h1
    obtain ⟨b1, b2⟩ := List.pairwise_cons.mp h2
    have e : x = y := by
      rcases List.mem_cons.mp (hp.mem_iff.mp (List.mem_cons_self ..)) with e | hx
      · exact e
      · rcases List.mem_cons.mp (hp.mem_iff.mpr (List.mem_cons_self ..)) with e | hy
        · exact e.symm
        · exact ha x y (a1 y hy) (b1 x hx)
    subst e
    rw [sorted_uniq ha hp.cons_inv a2 b2]
theorem int_uniq {l m : List Int} (hp : l.Perm m) (h1 : l.Pairwise (· ≤ ·)) (h2 : m.Pairwise (· ≤ ·)) : l = m := sorted_uniq (fun _ _ => Int.le_antisymm) hp h1 h2
theorem lexI_anti (x y : Int × Int) (h1 : lexI x y) (h2 : lexI y x) : x = y := by
  unfold lexI at h1 h2
  obtain ⟨a, b⟩ := x
  obtain ⟨c, d⟩ := y
  simp only [Prod.mk.injEq] at h1 h2 ⊢
  omega
theorem Sep.lex {xs : List (Int × Int)} (h : Sep xs) : xs.Pairwise lexI := h.pw.imp_of_mem fun {x y} hx hy e => .inl (by have := h.lt x hx; omega)
theorem Sep.nodup {xs : List (Int × Int)} (h : Sep xs) : xs.Nodup := h.pw.imp_of_mem fun {x y} hx hy e z => by
  subst z
  have := h.lt x hx
  omega
/-- the spans behind a time that is told -/
theorem joined_spans {g t : Int} (hg : 1 ≤ g) {A : List Int} (hs : A.Pairwise (· ≤ ·)) {ys : List (Int × Int)} (hp : ys.Perm (restOf (spansOf g A) (joinR g t (spansOf g A)).2 ++ [(joinR g t (spansOf g A)).1])) (hy : ys.Pairwise lexI) : ys = spansOf g (ins t A) := by
  have sep := spansOf_sep hg hs
  have e := (rest_Rt (spansOf g A) (t, t + g) sep.nodup).1
  unfold restOf at hp
  rw [joinR_Kt, e] at hp
  have p2 := hp.trans (J_perm (spansOf g A) (t, t + g) sep (by show t < t + g; omega))
  rw [J_spans hg hs] at p2
  exact sorted_uniq lexI_anti p2 hy (spansOf_sep hg (ins_sorted t A hs)).lex
theorem Kt_fst : ∀ (xs : List (Int × Int)) (F : Int × Int), (Kt F xs).1.1 ≤ F.1 ∧ F.2 ≤ (Kt F xs).1.2
  | [], F => ⟨Int.le_refl _, Int.le_refl _⟩
  | x :: xs, F => by
    rw [Kt]
    split
    · obtain ⟨h1, h2⟩ := Kt_fst xs (min F.1 x.1, max F.2 x.2)
      have h1 : (Kt (min F.1 x.1, max F.2 x.2) xs).1.1 ≤ min F.1 x.1 := h1
      have h2 : max F.2 x.2 ≤ (Kt (min F.1 x.1, max F.2 x.2) xs).1.2 := h2
      exact ⟨by show (Kt (min F.1 x.1, max F.2 x.2) xs).1.1 ≤ F.1; omega, by show F.2 ≤ (Kt (min F.1 x.1, max F.2 x.2) xs).1.2; omega⟩
    · exact Kt_fst xs F
/-- a span that t is in is taken -/
theorem Kt_has : ∀ (xs : List (Int × Int)) (F x : Int × Int) (t : Int), F.1 ≤ t → t < F.2 → x ∈ xs → x.1 ≤ t → t < x.2 → x ∈ (Kt F xs).2
  | [], _, _, _, _, _, h, _, _ => by cases h
  | y :: xs, F, x, t, h1, h2, h, h3, h4 => by
    rw [Kt]
    rcases List.mem_cons.mp h with rfl | h
    · rw [if_pos ⟨by omega, by omega⟩]
      exact List.mem_cons_self ..
    · split
      · refine List.mem_cons_of_mem _ (Kt_has xs _ x t ?_ ?_ h h3 h4)
        · show min F.1 y.1 ≤ t
          omega
        · show t < max F.2 y.2
          omega
      · exact Kt_has xs F x t h1 h2 h h3 h4
/-- what is taken, as the law tells it -/
theorem taken_is {g t : Int} (hg : 1 ≤ g) {A : List Int} (hs : A.Pairwise (· ≤ ·)) {ys : List (Int × Int)} (hp : ys.Perm (restOf (spansOf g A) (joinR g t (spansOf g A)).2 ++ [(joinR g t (spansOf g A)).1])) :
    (spansOf g A).filter (fun x => decide (x ∉ ys ∨ x = (joinR g t (spansOf g A)).1)) = (joinR g t (spansOf g A)).2 := by
  have sep := spansOf_sep hg hs
  have e := (rest_Rt (spansOf g A) (t, t + g) sep.nodup).2
  unfold restOf at hp
  rw [joinR_Kt] at hp ⊢
  refine Eq.trans (List.filter_congr fun x hx => ?_) e
  rw [decide_eq_decide]
  have hm := hp.mem_iff (a := x)
  rw [List.mem_append, List.mem_singleton, List.mem_filter, decide_eq_true_eq] at hm
  rw [hm]
  constructor
  · rintro (h | h)
    · by_cases c : x ∈ (Kt (t, t + g) (spansOf g A)).2
      · exact c
      · exact absurd (.inl ⟨hx, c⟩) h
    · obtain ⟨f1, f2⟩ := Kt_fst (spansOf g A) (t, t + g)
      refine Kt_has _ _ x t (Int.le_refl _) (by show t < t + g; omega) hx ?_ ?_
      · rw [h]; exact f1
      · rw [h]; have f2 : t + g ≤ _ := f2; omega
  · intro h
    by_cases c : x = (Kt (t, t + g) (spansOf g A)).1
    · exact .inr c
    · refine .inl fun z => ?_
      rcases z with z | z
      · exact z.2 h
      · exact c z
theorem taken_sorted {g t : Int} (hg : 1 ≤ g) {A : List Int} (hs : A.Pairwise (· ≤ ·)) : (joinR g t (spansOf g A)).2.Pairwise lexI := by
  have sep := spansOf_sep hg hs
  rw [joinR_Kt, ← (rest_Rt (spansOf g A) (t, t + g) sep.nodup).2]
  exact sep.lex.filter _
end K08
namespace K08
open PySem PySem.Spec PyProof.Rows L2 L3
variable {K : PySem.W.Frag} {a : Ad} {mg : Str → Option Value}
theorem ExC.now {E3 : X3} {cls : Value} {G : Gp} (h : E3 cls G) : ExC E3 cls G := ⟨G, Sub.refl, h⟩
theorem pl_winit (T : Tx K mg a) : ∀ ds G Q3 E3, sp_Windows_init K a ds G Q3 E3 → T_Windows_init K a (endsOf Q3 E3) (start3 N_Windows_init ds) G := by
  rintro ds G Q3 E3 ⟨w, l, s, rfl, hw, k1, k2⟩
  by_cases h1 : 0 < s <;> by_cases h2 : s ≤ l <;> simp [T_Windows_init, h1, h2, hw, T.c_Windows, T.na_Windows_length, T.na_Windows_step, putD] <;>
    first | exact RetC.now (k1 ⟨h1, h2⟩) | exact ExC.now (k2 fun h => h1 h.1) | exact ExC.now (k2 fun h => h2 h.2)
theorem pl_sinit (T : Tx K mg a) : ∀ ds G Q3 E3, sp_Sessions_init K a ds G Q3 E3 → T_Sessions_init K a (endsOf Q3 E3) (start3 N_Sessions_init ds) G := by
  rintro ds G Q3 E3 ⟨w, g, rfl, hw, k1, k2⟩
  by_cases h1 : g < 1 <;> simp [T_Sessions_init, h1, hw, T.c_Sessions, T.na_Sessions_gap, putD]
  · exact ExC.now (k2 (by omega))
  · exact RetC.now (k1 (by omega))
theorem pl_around (T : Tx K mg a) : ∀ ds G Q3 E3, sp_Windows_around K a ds G Q3 E3 → T_Windows_around K a (endsOf Q3 E3) (start3 N_Windows_around ds) G := by
  rintro ds G Q3 E3 ⟨w, l, s, t, rfl, hw, h0, h1, h2, h3, h4, k⟩
  have hc : CDiv t s := ⟨h0, by omega⟩
  have hm : CMul (t / s) s := .inr ⟨by omega, by omega⟩
  simp [T_Windows_around, List.lookup, hw, T.c_Windows, T.na_Windows_length, T.na_Windows_step, hc, hm]
  intro f hf
  have nwf : w ≠ f := gp_new hw hf
  -- the windows from the i-th on are taken
  have hq : 0 ≤ t / s := Int.ediv_nonneg h3 (by omega)
  have hq2 : t / s * s ≤ t := Int.ediv_mul_le t (by omega)
  have hq3 : t < t / s * s + s := by
    have := Int.lt_ediv_add_one_mul_self t h0
    rw [Int.add_mul] at this
    omega
  let down : Nat → List (Int × Int) := fun n => (List.range n).map fun (i : Nat) => (t / s * s - (i : Int) * s, t / s * s - (i : Int) * s + l)
  have down_s : ∀ n : Nat, down (n + 1) = down n ++ [(t / s * s - (n : Int) * s, t / s * s - (n : Int) * s + l)] := fun n => by simp [down, List.range_succ]
  have fin : ∀ n : Nat, n ≤ (t / s).toNat + 1 → (∀ i : Nat, i < n → t - l < t / s * s - (i : Int) * s) → (n = (t / s).toNat + 1 ∨ t / s * s - (n : Int) * s ≤ t - l) → (down n).reverse = winsOf l s t := fun n hn h1 h2 => by
    obtain ⟨q, eq⟩ : ∃ q : Nat, t / s = (q : Int) := ⟨(t / s).toNat, by omega⟩
    simp only [winsOf, down, eq, Int.toNat_natCast, reverse_range_map, List.filter_map, List.map_map] at hn h1 h2 ⊢
    obtain ⟨c, hc'⟩ : ∃ c, q + 1 = c + n := ⟨q + 1 - n, by omega⟩
    rw [hc']
    have ep : (List.range (c + n)).filter ((fun b : Int => decide (t < b + l)) ∘ fun (i : Nat) => (i : Int) * s) = (List.range (c + n)).filter fun j => decide (c ≤ j) := by
      refine List.filter_congr fun j hj => ?_
      rw [List.mem_range] at hj
      simp only [Function.comp_apply, decide_eq_decide]
      have e : ∀ i : Nat, i ≤ q → (q : Int) * s - (i : Int) * s = ((q - i : Nat) : Int) * s := fun i hi => by
        rw [← Int.sub_mul]
        congr 1
        omega
      constructor
      · intro hlt
        rcases Nat.lt_or_ge j c with h | h
        · exfalso
          rcases h2 with h2 | h2
          · omega
          · have hle : (j : Int) * s ≤ ((q - n : Nat) : Int) * s := Int.mul_le_mul_of_nonneg_right (by omega) (by omega)
            rw [e n (by omega)] at h2
            omega
        · exact h
      · intro hge
        have hi := h1 (q - j) (by omega)
        rw [e (q - j) (by omega), show q - (q - j) = j by omega] at hi
        omega
    rw [ep, filter_range_ge, List.map_map]
    refine List.map_congr_left fun k hk => ?_
    rw [List.mem_range] at hk
    have e2 : (q : Int) * s - ((n - 1 - k : Nat) : Int) * s = ((c + k : Nat) : Int) * s := by
      rw [← Int.sub_mul]
      congr 1
      omega
    simp only [Function.comp_apply, e2]
  refine whileRun2 (fun m δ G' => ∃ n : Nat, m + n = (t / s).toNat + 1 ∧ δ = [some (.ref w), some (.int t), some (.int (t / s * s - (n : Int) * s)), some (.ref f)] ∧ G' f = some (.lst ((down n).map iiD)) ∧ Kp [] G G' ∧ ∀ i : Nat, i < n → t - l < t / s * s - (i : Int) * s) (m := (t / s).toNat + 1)
    ⟨0, by omega, by simp, by simp [down], Kp.new hf, fun i h => absurd h (by omega)⟩ ?_
  rintro m δ G' ⟨n, hm', rfl, hG, kp, hin⟩ Nx hN
  have hw' := kp.at0 hw
  have out : (n = (t / s).toNat + 1 ∨ t / s * s - (n : Int) * s ≤ t - l) → RetC Q3 (.tup ((down n).map iiD).reverse) G' := fun h => RetC.now (by
    have := k G' kp
    rw [← fin n (by omega) hin h, List.map_reverse] at this
    exact this)
  have hlen : ((down n).map iiD).length < sizeLine := by
    have : (t / s).toNat ≤ 1000 := by
      have : t / s ≤ t := Int.ediv_le_self _ h3
      omega
    exact sizeLt (m := 1002) (by simp [down]; omega) (by decide)
  obtain ⟨F, hF⟩ : ∃ F, F = t / s * s - (n : Int) * s := ⟨_, rfl⟩
  rw [← hF] at out ⊢
  by_cases c1 : t - l < F
  · by_cases c2 : 0 ≤ F
    · have hn : n ≤ (t / s).toNat := by
        rcases Nat.lt_or_ge (t / s).toNat n with h | h
        · exfalso
          have : t / s * s < (n : Int) * s := Int.mul_lt_mul_of_pos_right (by omega) h0
          omega
        · exact h
      simp [TApp, List.lookup, hw', hG, T.c_Windows, T.na_Windows_length, T.na_Windows_step, c1, c2, gset_ne nwf]
      refine ⟨by simpa using hlen, hN (m - 1) _ _ (by omega) ⟨n + 1, by omega, ?_, ?_, kp.put hf, fun i hi => ?_⟩⟩
      · have : F - s = t / s * s - ((n + 1 : Nat) : Int) * s := by
          rw [hF, Int.natCast_add, Int.add_mul]
          omega
        rw [this]
      · rw [down_s, ← hF]
        simp [iiD]
      · rcases Nat.lt_or_ge i n with h | h
        · exact hin i h
        · rw [show i = n by omega, ← hF]
          exact c1
    · have hn : n = (t / s).toNat + 1 := by
        rcases Nat.lt_or_ge n ((t / s).toNat + 1) with h | h
        · exfalso
          have : (n : Int) * s ≤ t / s * s := Int.mul_le_mul_of_nonneg_right (by omega) (by omega)
          omega
        · omega
      have := out (.inl hn)
      simp [TApp, List.lookup, hw', hG, T.c_Windows, T.na_Windows_length, T.na_Windows_step, c1, c2, tupR, TRev]
      simpa using this
  · have := out (.inr (by omega))
    simp [TApp, List.lookup, hw', hG, T.c_Windows, T.na_Windows_length, T.na_Windows_step, c1, tupR, TRev]
    simpa using this
end K08
namespace K08
open PySem PySem.Spec PyProof.Rows L2 L3
variable {K : PySem.W.Frag} {a : Ad} {mg : Str → Option Value}
theorem look_mkM {ms : List (Str × Int)} (hn : (ms.map (·.1)).Nodup) {n : Str} {t : Int} (h : (n, t) ∈ ms) : look (mkM ms) (.inr n) = some (.int t) := by
  induction ms with
  | nil => cases h
  | cons q ms ih =>
    obtain ⟨n', t'⟩ := q
    rw [List.map_cons, List.nodup_cons] at hn
    by_cases e : n' = n
    · subst e
      rcases List.mem_cons.mp h with h | h
      · cases h
        simp [look, mkM]
      · exact absurd (List.mem_map.mpr ⟨_, h, rfl⟩) hn.1
    · have h' : (n, t) ∈ ms := (List.mem_cons.mp h).resolve_left fun z => e (by cases z; rfl)
      have := ih hn.2 h'
      simpa [look, mkM, e] using this
theorem look_mkM_none {ms : List (Str × Int)} {n : Str} (h : n ∉ ms.map (·.1)) : look (mkM ms) (.inr n) = none := by
  unfold look
  have : (mkM ms).find? (fun kv => decide (kv.1 = .inr n)) = none := by
    rw [List.find?_eq_none]
    rintro ⟨k, d⟩ hm
    obtain ⟨q, hq, e⟩ := List.mem_map.mp hm
    cases e
    simp only [decide_eq_true_eq]
    intro e
    exact h (List.mem_map.mpr ⟨q, hq, Sum.inr.inj e⟩)
  rw [this] <;> rfl
theorem look_mkI (is : List Str) (n : Str) : look (mkI is) (.inr n) = if n ∈ is then some (.bl true) else none := by
  induction is with
  | nil => rfl
  | cons m is ih =>
    by_cases e : m = n
    · subst e
      simp [look, mkI]
    · have e' : ¬ n = m := fun z => e z.symm
      simpa [look, mkI, e, e'] using ih
theorem rowsOf_cons {ms : List (Str × Int)} {n : Str} {t : Int} {is : List Str} : rowsOf ((n, t) :: ms) is = if n ∈ is then rowsOf ms is else t :: rowsOf ms is := by
  by_cases h : n ∈ is <;> simp [rowsOf, h]
theorem run_told (T : Tx K mg a) {G : Gp} {m p q : Addr} {ms : List (Str × Int)} {idle : List Str} {now : Int} (hm : G m = some (.ins a.Marks [("marks", .ref p), ("idle", .ref q), ("now", .int now)])) (hp : G p = some (.lkK (mkM ms))) (hq : G q = some (.dK (mkI idle))) (hn : (ms.map (·.1)).Nodup) {k : List D → Gp → Prop} :
    ∀ (r : List (Str × Int)) (acc : List Int), (∀ x ∈ r, x ∈ ms) → acc.length + r.length ≤ 1000 → k ((acc ++ rowsOf r idle).map .int) G →
      LcRun [some (.ref m), none, none] (GName 2) (TTest (TOp (inC true) (TVar 2) (TFld K "idle" (TVar 0)))) (TOp subC (TFld K "marks" (TVar 0)) (TVar 2)) (r.map fun x => .str x.1) (acc.map .int) G k
  | [], acc, _, _, hk => by simpa [LcRun, rowsOf] using hk
  | (n, t) :: r, acc, hr, hl, hk => by
    have e1 := look_mkM hn (hr (n, t) (List.mem_cons_self ..))
    have e2 := look_mkI idle n
    have hl' : acc.length < sizeLine := sizeLt (m := 1000) (by simp only [List.length_cons] at hl; omega) (by decide)
    rw [rowsOf_cons] at hk
    simp only [List.map_cons, LcRun]
    by_cases h : n ∈ idle
    · rw [if_pos h] at hk e2
      have := run_told T hm hp hq hn (k := k) r acc (fun x hx => hr x (List.mem_cons_of_mem _ hx)) (by simp only [List.length_cons] at hl; omega) hk
      simp [List.lookup, hm, hp, hq, T.c_Marks, T.na_Marks_idle, T.na_Marks_marks, inC, itemsC, tabC, e1, e2, subC]
      simpa using this
    · rw [if_neg h] at hk e2
      have := run_told T hm hp hq hn (k := k) r (acc ++ [t]) (fun x hx => hr x (List.mem_cons_of_mem _ hx)) (by simp only [List.length_cons] at hl; simp; omega) (by simpa using hk)
      simp [List.lookup, hm, hp, hq, T.c_Marks, T.na_Marks_idle, T.na_Marks_marks, inC, itemsC, tabC, e1, e2, subC]
      exact ⟨by simpa using hl', by simpa using this⟩
theorem pl_now (T : Tx K mg a) : ∀ ds G Q3 E3, sp_Marks_time_now K a ds G Q3 E3 → T_Marks_time_now K a (endsOf Q3 E3) (start3 N_Marks_time_now ds) G := by
  rintro ds G Q3 E3 ⟨m, p, q, ms, idle, now, rfl, ⟨hm, hp, hq, npq⟩, hn, hl, k⟩
  have nmp : m ≠ p := gp_ne hm hp nofun
  have nmq : m ≠ q := gp_ne hm hq nofun
  simp [T_Marks_time_now, TLkS, pthF, List.lookup, hm, hp, gset_ne nmp, IKeys, T.c_Marks, T.na_Marks_marks]
  have eK : (mkM ms).map (fun kv => keyD kv.1) = ms.map fun x => .str x.1 := by simp [mkM, keyD]
  rw [eK]
  refine run_told (k := fun ys G2 => (backTo3 p (.dK (mkM ms)) _).nx [some (.ref m), some (.lst ys), none] G2) T (p := p) (q := q) (now := now) (by rw [gset_ne nmp]; exact hm) gset_same (by rw [gset_ne npq.symm]; exact hq) hn ms [] (fun _ h => h) (by simp; omega) ?_
  have back : gset (gset G p (.lkK (mkM ms))) p (.dK (mkM ms)) = G := by rw [gset_gset, gset_self hp]
  simp only [backTo3, List.nil_append, back]
  by_cases h : rowsOf ms idle = []
  · have := k G Kp.refl ⟨by simp [nextNow, h, hm], hp, hq, npq⟩
    simp [h, nextNow] at this
    simp [h, List.lookup, hm, T.c_Marks, T.na_Marks_now]
    exact RetC.now this
  · have := k (gset G m (.ins a.Marks [("marks", .ref p), ("idle", .ref q), ("now", .int (max now (minI (rowsOf ms idle))))])) (Kp.set (by simp)) ⟨by simp [nextNow, h], by rw [gset_ne nmp.symm]; exact hp, by rw [gset_ne nmq.symm]; exact hq, npq⟩
    simp [h, nextNow] at this
    simp [h, List.lookup, hm, T.c_Marks, T.na_Marks_now]
    refine minR_l h ?_
    simp [List.lookup, hm, T.c_Marks, T.na_Marks_now, putD]
    exact RetC.now this
theorem put_new {ms : List (Str × Int)} {n : Str} {t : Int} (h : n ∉ ms.map (·.1)) : put (mkM ms) (.inr n) (.int t) = mkM (ms ++ [(n, t)]) := by
  have : ((mkM ms).any fun kv => decide (kv.1 = .inr n)) = false := by
    rw [List.any_eq_false]
    rintro ⟨k, d⟩ hm
    obtain ⟨q, hq, e⟩ := List.mem_map.mp hm
    cases e
    simp only [decide_eq_true_eq]
    exact fun e => h (List.mem_map.mpr ⟨q, hq, Sum.inr.inj e⟩)
  unfold put
  rw [this]
  simp [mkM]
theorem put_old {ms : List (Str × Int)} {n : Str} {t : Int} (h : n ∈ ms.map (·.1)) : put (mkM ms) (.inr n) (.int t) = mkM (ms.map fun p => if p.1 = n then (p.1, t) else p) := by
  have : ((mkM ms).any fun kv => decide (kv.1 = .inr n)) = true := by
    rw [List.any_eq_true]
    obtain ⟨q, hq, e⟩ := List.mem_map.mp h
    exact ⟨(.inr q.1, .int q.2), List.mem_map.mpr ⟨q, hq, rfl⟩, by simp [e]⟩
  unfold put
  rw [this]
  simp only [mkM, List.map_map, if_true]
  refine List.map_congr_left fun q _ => ?_
  by_cases e : q.1 = n <;> simp [e]
theorem run_mk {δ0 : St3} {G : Gp} {k : List (Key × D) → Gp → Prop} (h0 : ∃ x y, δ0 = [x, y, none]) : ∀ (names : List Str) (acc : List (Str × Int)), (acc.map (·.1) ++ names).Nodup → acc.length + names.length ≤ 1000 → k (mkM (acc ++ names.map fun n => (n, 0))) G →
    DcRun δ0 (GName 2) TYes (TVar 2) (TC (.int 0)) (names.map .str) (mkM acc) G k
  | [], acc, _, _, hk => by simpa [DcRun] using hk
  | n :: names, acc, hn, hl, hk => by
    obtain ⟨x, y, rfl⟩ := h0
    have nn : n ∉ acc.map (·.1) := fun h => (List.nodup_append.mp hn).2.2 n h n (List.mem_cons_self ..) rfl
    have hl' : (mkM acc).length < sizeLine := sizeLt (m := 1000) (by simp only [mkM, List.length_map]; simp only [List.length_cons] at hl; omega) (by decide)
    have := run_mk (k := k) (G := G) ⟨x, y, rfl⟩ names (acc ++ [(n, 0)]) (by simpa using hn) (by simp only [List.length_cons] at hl; simp; omega) (by simpa using hk)
    rw [← put_new nn] at this
    simp only [List.map_cons, DcRun]
    simp
    exact ⟨.inr n, rfl, hl', this⟩
theorem pl_minit (T : Tx K mg a) : ∀ ds G Q3 E3, sp_Marks_init K a ds G Q3 E3 → T_Marks_init K a (endsOf Q3 E3) (start3 N_Marks_init ds) G := by
  rintro ds G Q3 E3 ⟨m, names, rfl, hm, hn, hl, k⟩
  simp [T_Marks_init]
  refine run_mk (k := _) ⟨_, _, rfl⟩ names [] (by simpa using hn) (by simp; omega) ?_
  intro p hp
  have nmp : m ≠ p := gp_new hm hp
  simp [gset_ne nmp, hm, T.c_Marks, T.na_Marks_marks, T.na_Marks_idle, T.na_Marks_now, putD, TDNewK]
  intro q hq
  have nqm : q ≠ m := fun z => by rw [z, gset_same] at hq; cases hq
  have nqp : q ≠ p := fun z => by rw [z, gset_ne nmp.symm, gset_same] at hq; cases hq
  rw [gset_ne nqm, gset_ne nqp] at hq
  simp [gset_ne nqm.symm, T.c_Marks, T.na_Marks_marks, T.na_Marks_idle, T.na_Marks_now, putD]
  refine RetC.now (k _ p q ⟨gset_same, ?_, ?_, nqp.symm⟩ hp hq ?_)
  · rw [gset_ne nmp.symm, gset_ne nqp.symm, gset_ne nmp.symm, gset_same]
  · rw [gset_ne nqm, gset_same]
    rfl
  · exact (((Kp.new (as := [m]) hp).puts (f := m) (by simp)).put hq).puts (f := m) (by simp)
theorem mkM_setM {ms : List (Str × Int)} (hn : (ms.map (·.1)).Nodup) {n : Str} {s t : Int} (h : (n, s) ∈ ms) : (ms.map fun p => if p.1 = n then (p.1, max s t) else p) = setM ms n t := by
  unfold setM
  refine List.map_congr_left fun q hq => ?_
  by_cases e : q.1 = n
  · rw [if_pos e, if_pos e]
    have : q = (n, s) := by
      obtain ⟨q1, q2⟩ := q
      have e : q1 = n := e
      subst e
      have h1 := look_mkM hn hq
      have h2 := look_mkM hn h
      rw [h1] at h2
      cases h2
      rfl
    rw [this]
  · rw [if_neg e, if_neg e]
theorem drop_mkI (is : List Str) (n : Str) : drop (mkI is) (.inr n) = mkI (delI is n) := by
  unfold drop mkI delI
  rw [List.filter_map]
  congr 1
  refine List.filter_congr fun x _ => ?_
  simp
theorem put_mkI (is : List Str) (n : Str) : put (mkI is) (.inr n) (.bl true) = mkI (addI is n) := by
  unfold addI
  by_cases h : n ∈ is
  · have : ((mkI is).any fun kv => decide (kv.1 = .inr n)) = true := by
      rw [List.any_eq_true]
      exact ⟨(.inr n, .bl true), List.mem_map.mpr ⟨n, h, rfl⟩, by simp⟩
    unfold put
    rw [this, if_pos h]
    simp only [mkI, List.map_map, if_true]
    refine List.map_congr_left fun q _ => ?_
    by_cases e : q = n <;> simp [e]
  · have : ((mkI is).any fun kv => decide (kv.1 = .inr n)) = false := by
      rw [List.any_eq_false]
      rintro ⟨k, d⟩ hm
      obtain ⟨q, hq, e⟩ := List.mem_map.mp hm
      cases e
      simp only [decide_eq_true_eq]
      exact fun e => h (Sum.inr.inj e ▸ hq)
    unfold put
    rw [this, if_neg h]
    simp [mkI]
theorem setM_fst (ms : List (Str × Int)) (n : Str) (t : Int) : (setM ms n t).map (·.1) = ms.map (·.1) := by
  unfold setM
  rw [List.map_map]
  refine List.map_congr_left fun q _ => ?_
  by_cases e : q.1 = n <;> simp [e]
theorem pl_rest (T : Tx K mg a) : ∀ ds G Q3 E3, sp_Marks_rest K a ds G Q3 E3 → T_Marks_rest K a (endsOf Q3 E3) (start3 N_Marks_rest ds) G := by
  rintro ds G Q3 E3 ⟨m, p, q, ms, idle, now, n, rfl, ⟨hm, hp, hq, npq⟩, hn, hl, hi, k1, k2⟩
  have nmp : m ≠ p := gp_ne hm hp nofun
  have nmq : m ≠ q := gp_ne hm hq nofun
  have hi' : (mkI idle).length < sizeLine := sizeLt (m := 3) (by simpa [mkI] using hi) (by decide)
  by_cases h : n ∈ ms.map (·.1)
  · obtain ⟨⟨n', t⟩, hmem, rfl⟩ := List.mem_map.mp h
    have e1 := look_mkM hn hmem
    simp [T_Marks_rest, List.lookup, hm, hp, hq, T.c_Marks, T.na_Marks_marks, T.na_Marks_idle, inC, itemsC, tabC, e1, setC, hi', gset_ne nmq, put_mkI]
    refine ⟨m, p, q, ms, addI idle n', now, rfl, ⟨by rw [gset_ne nmq]; exact hm, by rw [gset_ne npq]; exact hp, gset_same, npq⟩, hn, hl, fun G' kp h' => RetC.now (k1 h G' ?_ h')⟩
    exact ((Kp.set (as := [m, p, q]) (by simp)).trans kp fun _ z => z)
  · have e1 := look_mkM_none h
    simp [T_Marks_rest, List.lookup, hm, hp, hq, T.c_Marks, T.na_Marks_marks, T.na_Marks_idle, inC, itemsC, tabC, e1]
    exact ExC.now (k2 h)
theorem pl_tell (T : Tx K mg a) : ∀ ds G Q3 E3, sp_Marks_tell K a ds G Q3 E3 → T_Marks_tell K a (endsOf Q3 E3) (start3 N_Marks_tell ds) G := by
  rintro ds G Q3 E3 ⟨m, p, q, ms, idle, now, n, t, rfl, ⟨hm, hp, hq, npq⟩, hn, hl, hi, k1, k2⟩
  have nmp : m ≠ p := gp_ne hm hp nofun
  have nmq : m ≠ q := gp_ne hm hq nofun
  by_cases h : n ∈ ms.map (·.1)
  · obtain ⟨⟨n', s⟩, hmem, rfl⟩ := List.mem_map.mp h
    have e1 := look_mkM hn hmem
    have e2 := look_mkI idle n'
    have hp3 : (mkM ms).length < sizeLine := sizeLt (m := 3) (by simpa [mkM] using hl) (by decide)
    have e3 : put (mkM ms) (.inr n') (.int (max s t)) = mkM (setM ms n' t) := by rw [put_old h, mkM_setM hn hmem]
    have hdel : n' ∉ idle → delI idle n' = idle := fun h => by
      unfold delI
      rw [List.filter_eq_self]
      intro x hx
      simp only [decide_eq_true_eq]
      exact fun z => h (z ▸ hx)
    have fin : ∀ G1, Kp [m, p, q] G G1 → G1 m = G m → G1 p = some (.dK (mkM (setM ms n' t))) → G1 q = some (.dK (mkI (delI idle n'))) → sp_Marks_time_now K a [.ref m] G1 (RetC Q3) (fun cls G => ExC E3 cls G) := fun G1 kp h1 h2 h3 =>
      ⟨m, p, q, setM ms n' t, delI idle n', now, rfl, ⟨h1.trans hm, h2, h3, npq⟩, by rw [setM_fst]; exact hn, by simpa [setM] using hl, fun G' kp' h' => RetC.now (k1 h G' (kp.trans kp' fun _ z => z) h')⟩
    by_cases hin : n' ∈ idle
    · rw [if_pos hin] at e2
      simp [T_Marks_tell, List.lookup, hm, hp, hq, T.c_Marks, T.na_Marks_marks, T.na_Marks_idle, inC, itemsC, tabC, e1, e2, setC, subC, popC, isDC, gset_ne nmq, gset_ne npq, drop_mkI, hp3, e3, gset_ne nmp]
      exact fin _ ((Kp.set (p := q) (by simp)).puts (f := p) (by simp)) (by rw [gset_ne nmp, gset_ne nmq]) gset_same (by rw [gset_ne npq.symm, gset_same])
    · rw [if_neg hin] at e2
      simp [T_Marks_tell, List.lookup, hm, hp, hq, T.c_Marks, T.na_Marks_marks, T.na_Marks_idle, inC, itemsC, tabC, e1, e2, setC, subC, popC, isDC, hp3, e3, gset_ne nmp]
      exact fin _ (Kp.set (by simp)) (by rw [gset_ne nmp]) gset_same (by rw [gset_ne npq.symm, hq, hdel hin])
  · have e1 := look_mkM_none h
    simp [T_Marks_tell, List.lookup, hm, hp, hq, T.c_Marks, T.na_Marks_marks, T.na_Marks_idle, inC, itemsC, tabC, e1]
    exact ExC.now (k2 h)
end K08
namespace K08
open PySem PySem.Spec PyProof.Rows L2 L3
variable {K : PySem.W.Frag} {a : Ad} {mg : Str → Option Value}
theorem joinR_snoc (g t : Int) (xs : List (Int × Int)) (x : Int × Int) : joinR g t (xs ++ [x]) = joinT (joinR g t xs) x := by simp [joinR]
theorem joinT_len (s : (Int × Int) × List (Int × Int)) (x : Int × Int) : (joinT s x).2.length ≤ s.2.length + 1 := by
  unfold joinT
  split <;> simp
theorem joinR_len (g t : Int) (xs : List (Int × Int)) : (joinR g t xs).2.length ≤ xs.length := by
  have : ∀ (xs : List (Int × Int)) s, (xs.foldl joinT s).2.length ≤ s.2.length + xs.length := fun xs => by
    induction xs with
    | nil => intro s; simp
    | cons x xs ih =>
      intro s
      have h1 := ih (joinT s x)
      have h2 := joinT_len s x
      simp only [List.foldl_cons, List.length_cons]
      omega
  simpa [joinR] using this xs ((t, t + g), [])
theorem pl_joined (T : Tx K mg a) : ∀ ds G Q3 E3, sp_Sessions_joined K a ds G Q3 E3 → T_Sessions_joined K a (endsOf Q3 E3) (start3 N_Sessions_joined ds) G := by
  rintro ds G Q3 E3 ⟨w, g, t, xs, rfl, hw, hl, k⟩
  simp [T_Sessions_joined, List.lookup, hw, T.c_Sessions, T.na_Sessions_gap]
  intro f hf
  refine forRun (fun ds δ G' => ∃ done r v, xs = done ++ r ∧ ds = r.map iiD ∧ δ = [some (.ref w), some (.tup (xs.map iiD)), some (.int t), some (.int (joinR g t done).1.1), some (.int (joinR g t done).1.2), some (.ref f), v, none] ∧ G' f = some (.lst ((joinR g t done).2.map iiD)) ∧ Kp [] G G') _ _ _
    ⟨[], xs, none, rfl, rfl, rfl, by simp [joinR], Kp.new hf⟩ ?_ ?_
  · rintro x r δ G' ⟨done, r', v, e1, e2, rfl, hG, kp⟩ Nx hN
    cases r' with
    | nil => cases e2
    | cons y r' =>
      simp only [List.map_cons, List.cons.injEq] at e2
      obtain ⟨rfl, rfl⟩ := e2
      have nx : ∀ (F1 F2 : Int) (tk : List (Int × Int)) (G2 : Gp), joinT (joinR g t done) y = ((F1, F2), tk) → G2 f = some (.lst (tk.map iiD)) → Kp [] G G2 → Nx [some (.ref w), some (.tup (xs.map iiD)), some (.int t), some (.int F1), some (.int F2), some (.ref f), some (iiD y), none] G2 := fun F1 F2 tk G2 h0 h1 h2 =>
        hN _ _ ⟨done ++ [y], r', some (iiD y), by simp [e1], rfl, by rw [joinR_snoc, h0], by rw [joinR_snoc, h0]; exact h1, h2⟩
      have hb : (joinR g t done).2.length < sizeLine := by
        have h1 := joinR_len g t done
        have h2 : done.length ≤ xs.length := by rw [e1]; simp
        exact sizeLt (m := 1000) (by omega) (by decide)
      generalize joinR g t done = J at hb hG nx ⊢
      obtain ⟨⟨F1, F2⟩, tk⟩ := J
      obtain ⟨y1, y2⟩ := y
      by_cases h1 : y1 < F2 <;> by_cases h2 : F1 < y2
      · have := nx (min F1 y1) (max F2 y2) (tk ++ [(y1, y2)]) (gset G' f (.lst (tk.map iiD ++ [iiD (y1, y2)]))) (by simp [joinT, h1, h2]) (by simp) (kp.put hf)
        simp [iiD, subC, itemsC, h1, h2, TApp, hG]
        exact ⟨hb, by simpa [iiD] using this⟩
      · have := nx F1 F2 tk G' (by simp [joinT, h1, h2]) hG kp
        simp [iiD, subC, itemsC, h1, h2]
        simpa [iiD] using this
      · have := nx F1 F2 tk G' (by simp [joinT, h1]) hG kp
        simp [iiD, subC, itemsC, h1, h2]
        simpa [iiD] using this
      · have := nx F1 F2 tk G' (by simp [joinT, h1]) hG kp
        simp [iiD, subC, itemsC, h1, h2]
        simpa [iiD] using this
  · rintro δ G' ⟨done, r, v, e1, e2, rfl, hG, kp⟩
    cases r with
    | cons t r => cases e2
    | nil =>
      simp only [List.append_nil] at e1
      subst e1
      have hlj := joinR_len g t xs
      have k' := fun ys => k ys
      generalize hJ : joinR g t xs = J at hG k' hlj
      obtain ⟨⟨F1, F2⟩, tk⟩ := J
      simp
      refine lcRunM iiD (fun x => decide (x ∉ tk)) iiD xs [] (fun x _ K1 K2 h1 h2 => ?_) (sizeLe (m := 1000) (by simpa using hl) (by decide)) ?_
      · have e := cod_iiD.inB x tk
        have ga : (tk.map iiD).all (gd 59) = true := cod_iiD.all (by decide) tk
        simp only [decide_eq_true_eq, decide_eq_false_iff_not] at h1 h2
        by_cases hx : x ∈ tk
        · simp [wipe3, inC, itemsC, hG, ga, e, hx]
          exact h2 (by simpa using hx)
        · simp [wipe3, inC, itemsC, hG, ga, e, hx]
          exact h1 hx
      · refine ⟨?_, .inr ⟨restOf xs tk ++ [(F1, F2)], by simp [restOf, iiD], fun ys hp hs => ?_⟩⟩
        · have : (xs.filter fun x => decide (x ∉ tk)).length ≤ xs.length := List.length_filter_le _ _
          exact sizeLe (m := 1001) (by simp only [List.nil_append, List.length_map]; omega) (by decide)
        · simp [tupR, hG]
          refine RetC.now ?_
          have := k' ys G' hp hs kp
          simpa [iiD] using this
end K08
namespace K08
open PySem PySem.Spec PyProof.Rows L2 L3
variable {K : PySem.W.Frag} {a : Ad}
theorem pl_dice : ∀ ds G Q3 E3, sp_law_dice K a ds G Q3 E3 → T_law_dice K a (endsOf Q3 E3) (start3 N_law_dice ds) G := by
  rintro ds G Q3 E3 ⟨c, rfl, k⟩
  have fin : ∀ (l : Addr) (x y z : Int), G l = none → RetC Q3 (.ref l) (gset G l (.lst [.int x, .int y, .int z])) := fun l x y z h => RetC.now (k l _ ⟨x, y, z, gset_same⟩ h (Kp.new h))
  have e18 : CPow 10 18 := ⟨by decide, by decide, by decide⟩
  by_cases h1 : -10 < c <;> by_cases h2 : c < 10 <;> simp [T_law_dice, h1, h2, e18] <;> intro l hl <;> exact fin _ _ _ _ hl
theorem pl_roll : ∀ ds G Q3 E3, sp_law_roll K a ds G Q3 E3 → T_law_roll K a (endsOf Q3 E3) (start3 N_law_roll ds) G := by
  rintro ds G Q3 E3 ⟨p, many, rfl, ⟨x, y, z, hd⟩, h0, h1, k⟩
  have hc : ∀ x, CDiv x many := fun x => ⟨h0, by omega⟩
  have hc7 : ∀ x, CDiv x 7 := fun x => ⟨by decide, by decide⟩
  have hm : ∀ x : Int, CMul x 48271 ∧ CMul x 69621 := fun x => ⟨.inr ⟨by decide, by decide⟩, .inr ⟨by decide, by decide⟩⟩
  have hf : ∀ n : Int, 0 ≤ n % many ∧ n % many < many := fun n => ⟨Int.emod_nonneg _ (by omega), Int.emod_lt_of_pos _ h0⟩
  have h2 : ¬ 100000000 < many := by omega
  have fin : ∀ (n x y z : Int), RetC Q3 (.int (n % many)) (gset G p (.lst [.int x, .int y, .int z])) := fun n x y z => RetC.now (k _ _ (hf n).1 (hf n).2 ⟨x, y, z, gset_same⟩ (Kp.set (List.mem_singleton.mpr rfl)))
  by_cases z2 : z = 2 <;> by_cases z1 : z = 1 <;> by_cases x0 : 0 < x <;> simp [T_law_roll, subC, itemsC, hd, atI, ixN, setC, eqC, z2, z1, x0, h0, hc, hc7, hm, h2, fin]
theorem run_rounds {δ0 : St3} {k : List D → Gp → Prop} {G0 : Gp} (h0 : ∃ x y z, δ0 = [x, y, z, none]) : ∀ (cs : List Int) (acc : List Addr) (G : Gp), acc.length + cs.length ≤ 64 → acc.Nodup → (∀ p ∈ acc, DiceAt G p ∧ G0 p = none) → Kp [] G0 G →
    (∀ (ps : List Addr) G', ps.Nodup → (∀ p ∈ ps, DiceAt G' p ∧ G0 p = none) → Kp [] G0 G' → k (ps.map .ref) G') → LcRun δ0 (GName 3) TYes (TCall (sp_law_dice K a) [] (TCons (TVar 3) TNil)) (cs.map .int) (acc.map .ref) G k
  | [], acc, G, _, hn, hd, kp, hk => by simpa [LcRun] using hk acc G hn hd kp
  | c :: cs, acc, G, hl, hn, hd, kp, hk => by
    obtain ⟨x, y, z, rfl⟩ := h0
    simp only [List.map_cons, LcRun]
    simp [sp_law_dice]
    refine ⟨c, rfl, fun p G' dp np kp' => ⟨?_, ?_⟩⟩
    · simp only [List.length_cons] at hl
      exact sizeLt (m := 64) (by omega) (by decide)
    · have np' : p ∉ acc := fun z => by
        obtain ⟨⟨_, _, _, e⟩, _⟩ := hd p z
        rw [np] at e
        cases e
      have n0 : G0 p = none := by
        cases e : G0 p with
        | none => rfl
        | some g => rw [kp.at0 e] at np; cases np
      have := run_rounds (k := k) (G0 := G0) ⟨x, y, z, rfl⟩ cs (acc ++ [p]) G' (by simp at hl ⊢; omega) (List.nodup_append.mpr ⟨hn, List.nodup_cons.mpr ⟨by simp, List.nodup_nil⟩, fun x hx y hy => by
        rw [List.mem_singleton.mp hy]; exact fun z => np' (z ▸ hx)⟩) (fun q hq => ?_) (kp.trans kp' fun _ z => z) hk
      · simpa [sp_law_dice] using this
      · rcases List.mem_append.mp hq with hq | hq
        · exact ⟨(hd q hq).1.kp kp' (by simp), (hd q hq).2⟩
        · rw [List.mem_singleton.mp hq]
          exact ⟨dp, n0⟩
theorem pl_rounds : ∀ ds G Q3 E3, sp_law_rounds K a ds G Q3 E3 → T_law_rounds K a (endsOf Q3 E3) (start3 N_law_rounds ds) G := by
  rintro ds G Q3 E3 ⟨ns, m, rfl, hl, k⟩
  obtain ⟨cs, e, hc⟩ := cut3_map D.int ns none (some m)
  have fin : ∀ (xs : List D) (cs : List Int), xs = cs.map .int → cs.length ≤ 63 → ∀ δ0 : St3, (∃ x y z, δ0 = [x, y, z, none]) → LcRun δ0 (GName 3) TYes (TCall (sp_law_dice K a) [] (TCons (TVar 3) TNil)) xs [] G fun ys G2 => RetC Q3 (.lst ys) G2 := by
    rintro xs cs rfl hcs δ0 h0
    exact run_rounds (G0 := G) h0 cs [] G (by simp; omega) List.nodup_nil (by simp) Kp.refl fun ps G' h1 h2 h3 => RetC.now (k ps G' h1 h2 h3)
  simp [T_law_rounds, e]
  by_cases h : cs = []
  · simp only [h, if_true]
    exact fin _ [0] rfl (by simp) _ ⟨_, _, _, rfl⟩
  · simp only [h, if_false]
    exact fin _ cs rfl (by omega) _ ⟨_, _, _, rfl⟩
end K08
namespace K08
open PySem PySem.Spec PyProof.Rows L2 L3
variable {K : PySem.W.Frag} {a : Ad} {mg : Str → Option Value}
theorem roll_go {d : Addr} {many : Int} {G : Gp} {Q : K3} {E : X3} (hd : DiceAt G d) (h0 : 0 < many) (h1 : many ≤ 100000000) (k : ∀ r G', 0 ≤ r → r < many → DiceAt G' d → Kp [d] G G' → Q (.int r) G') : sp_law_roll K a [.ref d, .int many] G Q E := ⟨d, many, rfl, hd, h0, h1, k⟩
theorem atI_of {α : Type} {xs : List α} {r : Int} (h0 : 0 ≤ r) (h1 : r < xs.length) : ∃ x ∈ xs, atI xs r = some x := by
  obtain ⟨n, rfl⟩ : ∃ n : Nat, r = (n : Int) := ⟨r.toNat, by omega⟩
  have hn : n < xs.length := by omega
  exact ⟨xs[n], List.getElem_mem hn, by rw [atI_at hn, List.getElem?_eq_getElem hn]⟩
theorem nodup_len {α : Type} [DecidableEq α] : ∀ {l m : List α}, l.Nodup → (∀ x ∈ l, x ∈ m) → l.length ≤ m.length
  | [], _, _, _ => Nat.zero_le _
  | x :: l, m, hn, hs => by
    rw [List.nodup_cons] at hn
    have hx := hs x (List.mem_cons_self ..)
    have : l.length ≤ (m.erase x).length := nodup_len hn.2 fun y hy => by
      have : y ≠ x := fun z => hn.1 (z ▸ hy)
      exact (List.mem_erase_of_ne this).mpr (hs y (List.mem_cons_of_mem _ hy))
    rw [List.length_erase_of_mem hx] at this
    have h0 : 0 < m.length := List.length_pos_of_mem hx
    simp only [List.length_cons]
    omega
/-- what holds of names, times and the idle ones -/
structure Good (names : List Str) (ms : List (Str × Int)) (idle : List Str) : Prop where
  fst : ms.map (·.1) = names
  nd : names.Nodup
  len : names.length ≤ 3
  pos : 0 < names.length
  ok : ∀ n ∈ names, PyData.strOk n = true
  ind : idle.Nodup
  isub : ∀ n ∈ idle, n ∈ names
theorem Good.nd' {names ms idle} (g : Good names ms idle) : (ms.map (·.1)).Nodup := by rw [g.fst]; exact g.nd
theorem Good.len' {names ms idle} (g : Good names ms idle) : ms.length ≤ 3 := by
  have := congrArg List.length g.fst
  rw [List.length_map] at this
  rw [this]
  exact g.len
theorem Good.ilen {names ms idle} (g : Good names ms idle) : idle.length ≤ 3 := Nat.le_trans (nodup_len g.ind g.isub) g.len
theorem Good.iok {names ms idle} (g : Good names ms idle) : (idle.map D.str).all (gd 59) = true := by
  simp only [List.all_map, List.all_eq_true]
  intro n hn
  simp [g.ok n (g.isub n hn)]
theorem Good.add {names ms idle} (g : Good names ms idle) {n : Str} (hn : n ∈ names) : Good names ms (addI idle n) := ⟨g.fst, g.nd, g.len, g.pos, g.ok, by
  unfold addI
  split
  · exact g.ind
  · rename_i h
    exact List.nodup_append.mpr ⟨g.ind, by simp, fun x hx y hy => by rw [List.mem_singleton.mp hy]; exact fun z => h (z ▸ hx)⟩, fun x hx => by
  unfold addI at hx
  split at hx
  · exact g.isub x hx
  · rcases List.mem_append.mp hx with hx | hx
    · exact g.isub x hx
    · rw [List.mem_singleton.mp hx]; exact hn⟩
theorem Good.del {names ms idle} (g : Good names ms idle) (n : Str) (t : Int) : Good names (setM ms n t) (delI idle n) := ⟨by rw [setM_fst]; exact g.fst, g.nd, g.len, g.pos, g.ok, g.ind.filter _, fun x hx => g.isub x (List.mem_filter.mp hx).1⟩
theorem nextNow_again (ms : List (Str × Int)) (idle : List Str) (now : Int) : nextNow ms idle (nextNow ms idle now) = nextNow ms idle now := by
  unfold nextNow
  split
  · rfl
  · omega
/-- the law's rows and checks, behind a deed -/
theorem pl_r110 (T : Tx K mg a) {D3 : Ends3} {v0 v1 v7 v8 v10 v11 : Option D} {vs : List (Option D)} {G : Gp} {m p q : Addr} {names : List Str} {ms : List (Str × Int)} {idle : List Str} {now : Int} (hvs : vs.length = 14) (g : Good names ms idle)
    (hM : MarksAt a.Marks G m p q ms idle (nextNow ms idle now))
    (k : ∀ v11 vs' G', vs'.length = 14 → MarksAt a.Marks G' m p q ms idle (nextNow ms idle now) → Kp [m, p, q] G G' → D3.nx (v0 :: v1 :: some (.lst (names.map .str)) :: some (.ref m) :: some (.dK (mkM ms)) :: some (.lst (idle.map .str)) :: some (.int (nextNow ms idle now)) :: v7 :: v8 :: some (.int (nextNow ms idle now)) :: v10 :: v11 :: vs') G') :
    T_law_r110 K a D3 (v0 :: v1 :: some (.lst (names.map .str)) :: some (.ref m) :: some (.dK (mkM ms)) :: some (.lst (idle.map .str)) :: some (.int now) :: v7 :: v8 :: some (.int (nextNow ms idle now)) :: v10 :: v11 :: vs) G := by
  obtain ⟨w12, w13, w14, w15, w16, w17, w18, w19, w20, w21, w22, w23, w24, w25, rfl⟩ : ∃ w12 w13 w14 w15 w16 w17 w18 w19 w20 w21 w22 w23 w24 w25, vs = [w12, w13, w14, w15, w16, w17, w18, w19, w20, w21, w22, w23, w24, w25] := by
    match vs, hvs with
    | [w12, w13, w14, w15, w16, w17, w18, w19, w20, w21, w22, w23, w24, w25], _ => exact ⟨_, _, _, _, _, _, _, _, _, _, _, _, _, _, rfl⟩
  obtain ⟨hm, hp, hq, npq⟩ := id hM
  simp [T_law_r110]
  rw [← g.fst, List.map_map]
  refine lcRunM (fun x : Str × Int => .str x.1) (fun x => decide (x.1 ∉ idle)) (fun x => .int x.2) ms [] (fun x hx K1 K2 h1 h2 => ?_) (sizeLe (m := 3) (by simpa using g.len') (by decide)) ?_
  · have e1 := look_mkM g.nd' hx
    have e2 := inB_strs x.1 idle
    have e3 := g.ok x.1 (by rw [← g.fst]; exact List.mem_map.mpr ⟨x, hx, rfl⟩)
    simp only [decide_eq_true_eq, decide_eq_false_iff_not] at h1 h2
    by_cases h : x.1 ∈ idle
    · simp [wipe3, inC, itemsC, e2, e3, g.iok, h]
      exact h2 (by simpa using h)
    · simp [wipe3, inC, itemsC, e2, e3, g.iok, h, subC, tabC, e1]
      exact h1 h
  · have eR : ([] ++ ((ms.filter fun x => decide (x.1 ∉ idle)).map fun x => D.int x.2)) = (rowsOf ms idle).map .int := by simp [rowsOf]
    have eN : ms.map (D.str ∘ fun x => x.1) = names.map D.str := by rw [← List.map_map, g.fst]
    have fin : ∀ (Q : K3) E, (∀ G', MarksAt a.Marks G' m p q ms idle (nextNow ms idle now) → Kp [m, p, q] G G' → Q (.int (nextNow ms idle now)) G') → sp_Marks_time_now K a [.ref m] G Q E := fun Q E h =>
      ⟨m, p, q, ms, idle, nextNow ms idle now, rfl, hM, g.nd', g.len', fun G' kp h' => by
        rw [nextNow_again] at h' ⊢
        exact h G' h' kp⟩
    rw [eR, eN]
    by_cases h : rowsOf ms idle = []
    · have en : nextNow ms idle now = now := by simp [nextNow, h]
      rw [en] at hm k fin ⊢
      simp [h, List.lookup, hm, T.c_Marks, T.na_Marks_now]
      exact fin _ _ fun G' h1 h2 => by simpa [h] using k _ [w12, w13, w14, w15, w16, w17, w18, w19, w20, w21, w22, w23, w24, w25] G' rfl h1 h2
    · have en : nextNow ms idle now = max now (minI (rowsOf ms idle)) := by simp [nextNow, h]
      simp [h]
      refine minR_l h ?_
      rw [en] at hm k fin ⊢
      simp [List.lookup, hm, T.c_Marks, T.na_Marks_now]
      exact fin _ _ fun G' h1 h2 => by simpa using k _ [w12, w13, w14, w15, w16, w17, w18, w19, w20, w21, w22, w23, w24, w25] G' rfl h1 h2
theorem merge_mkM : ∀ (ls acc : List (Str × Int)), (acc.map (·.1) ++ ls.map (·.1)).Nodup → merge (mkM acc) (mkM ls) = mkM (acc ++ ls)
  | [], acc, _ => by simp [mkM, merge]
  | (n, t) :: ls, acc, h => by
    have hn : n ∉ acc.map (·.1) := fun z => (List.nodup_append.mp h).2.2 n z n (by simp) rfl
    have := merge_mkM ls (acc ++ [(n, t)]) (by simpa using h)
    rw [← put_new hn] at this
    show merge (put (mkM acc) (.inr n) (.int t)) (mkM ls) = _
    rw [this]
    simp
/-- one deed -/
theorem pl_101 (T : Tx K mg a) {D3 : Ends3} {v0 v7 v8 v9 v10 v11 : Option D} {vs : List (Option D)} {G : Gp} {d m p q : Addr} {names : List Str} {ms : List (Str × Int)} {idle : List Str} {now : Int} (hvs : vs.length = 14) (g : Good names ms idle)
    (hd : DiceAt G d) (hM : MarksAt a.Marks G m p q ms idle now)
    (k : ∀ v8 v9 v10 v11 vs' G' ms' idle' now', vs'.length = 14 → Good names ms' idle' → DiceAt G' d → MarksAt a.Marks G' m p q ms' idle' now' → Kp [d, m, p, q] G G' → D3.nx (v0 :: some (.ref d) :: some (.lst (names.map .str)) :: some (.ref m) :: some (.dK (mkM ms')) :: some (.lst (idle'.map .str)) :: some (.int now') :: v7 :: v8 :: v9 :: v10 :: v11 :: vs') G') :
    T_law_101 K a D3 (v0 :: some (.ref d) :: some (.lst (names.map .str)) :: some (.ref m) :: some (.dK (mkM ms)) :: some (.lst (idle.map .str)) :: some (.int now) :: v7 :: v8 :: v9 :: v10 :: v11 :: vs) G := by
  have dm : ∀ {G : Gp} {ms idle now}, DiceAt G d → MarksAt a.Marks G m p q ms idle now → d ≠ m ∧ d ≠ p ∧ d ≠ q := fun {G ms idle now} hd hM => by
    obtain ⟨x, y, z, e⟩ := hd
    exact ⟨gp_ne e hM.om nofun, gp_ne e hM.op nofun, gp_ne e hM.oq nofun⟩
  have kM : ∀ {G G' : Gp} {ms idle now}, DiceAt G d → MarksAt a.Marks G m p q ms idle now → Kp [d] G G' → MarksAt a.Marks G' m p q ms idle now := fun {G G' ms idle now} hd hM kp => by
    obtain ⟨h1, h2, h3⟩ := dm hd hM
    exact ⟨kp _ _ hM.om (by simpa using h1.symm), kp _ _ hM.op (by simpa using h2.symm), kp _ _ hM.oq (by simpa using h3.symm), hM.ne⟩
  have hl0 : (0 : Int) < ((names.length : Nat) : Int) := by have := g.pos; omega
  have hl3 : ((names.length : Nat) : Int) ≤ 100000000 := by have := g.len; omega
  obtain ⟨w12, w13, w14, w15, w16, w17, w18, w19, w20, w21, w22, w23, w24, w25, rfl⟩ : ∃ w12 w13 w14 w15 w16 w17 w18 w19 w20 w21 w22 w23 w24 w25, vs = [w12, w13, w14, w15, w16, w17, w18, w19, w20, w21, w22, w23, w24, w25] := by
    match vs, hvs with
    | [w12, w13, w14, w15, w16, w17, w18, w19, w20, w21, w22, w23, w24, w25], _ => exact ⟨_, _, _, _, _, _, _, _, _, _, _, _, _, _, rfl⟩
  simp [T_law_101, lenR]
  refine roll_go hd hl0 hl3 fun r G1 r0 r1 hd1 kp1 => ?_
  obtain ⟨n, hn, en⟩ := atI_of (xs := names) r0 (by omega)
  have en' : atI (names.map D.str) r = some (.str n) := by
    unfold atI at en ⊢
    rw [List.length_map]
    obtain ⟨j, e1, e2⟩ := Option.bind_eq_some_iff.mp en
    rw [e1]
    simp [e2]
  have hM1 := kM hd hM kp1
  have okn := g.ok n hn
  have nms : n ∈ ms.map (·.1) := by rw [g.fst]; exact hn
  simp [subC, itemsC, en']
  refine roll_go hd1 (by decide) (by decide) fun r2 G2 r20 r21 hd2 kp2 => ?_
  have hM2 := kM hd1 hM1 kp2
  have kp12 : Kp [d, m, p, q] G G2 := (kp1.trans kp2 fun _ z => z).weak (by simp)
  obtain ⟨dnm, dnp, dnq⟩ := dm hd2 hM2
  by_cases hr : r2 = 0
  · have e2 := inB_strs n idle
    have fin : ∀ ls : List D, ls = (addI idle n).map .str → ∀ (Q : K3) E, (∀ now' G', now' = nextNow ms (addI idle n) now → MarksAt a.Marks G' m p q ms (addI idle n) now' → Kp [d, m, p, q] G G' → DiceAt G' d → Q (.int now') G') → sp_Marks_rest K a [.ref m, .str n] G2 Q E := fun ls hls Q E h =>
      ⟨m, p, q, ms, idle, now, n, rfl, hM2, g.nd', g.len', g.ilen, fun _ G' kp h' => h _ G' rfl h' (kp12.trans (kp.weak (bs := [d, m, p, q]) (by simp)) fun _ z => z) (hd2.kp kp (by simp [dnm, dnp, dnq])), fun z => absurd nms z⟩
    have done : ∀ (ls : List D) (now' : Int) G', ls = (addI idle n).map .str → now' = nextNow ms (addI idle n) now → MarksAt a.Marks G' m p q ms (addI idle n) now' → Kp [d, m, p, q] G G' → DiceAt G' d →
        T_law_r110 K a D3 [v0, some (.ref d), some (.lst (names.map .str)), some (.ref m), some (.dK (mkM ms)), some (.lst ls), some (.int now), v7, some (.str n), some (.int now'), v10, v11, w12, w13, w14, w15, w16, w17, w18, w19, w20, w21, w22, w23, w24, w25] G' := fun ls now' G' hls hnow h1 h2 h3 => by
      subst hls hnow
      refine pl_r110 T rfl (g.add hn) h1 fun v11 vs' G3 hv h4 kp4 => ?_
      obtain ⟨dnm', dnp', dnq'⟩ := dm h3 h1
      exact k _ _ _ _ vs' G3 ms _ _ hv (g.add hn) (h3.kp kp4 (by simp [dnm', dnp', dnq'])) h4 (h2.trans (kp4.weak (bs := [d, m, p, q]) (by simp)) fun _ z => z)
    have hz : ∀ c : Nat, c ≤ 1 → idle.length + c ≤ sizeLine := fun c hc => sizeLe (m := 4) (by have := g.ilen; omega) (by decide)
    have hz0 : idle.length ≤ sizeLine := hz 0 (by decide)
    have hz1 : idle.length + 1 ≤ sizeLine := hz 1 (by decide)
    have hs1 : (1 : Int) ≤ (sizeLine : Int) := by rw [sizeLine_eq]; decide
    by_cases hi : n ∈ idle
    · simp [hr, inC, itemsC, e2, okn, g.iok, hi, hM2.om, List.lookup, hz0, hs1]
      exact fin _ rfl _ _ fun now' G' h0 h1 h2 h3 => by simpa using done _ now' G' (by simp [addI, hi]) h0 h1 h2 h3
    · simp [hr, inC, itemsC, e2, okn, g.iok, hi, hM2.om, List.lookup, hz1, hs1]
      exact fin _ rfl _ _ fun now' G' h0 h1 h2 h3 => by simpa using done _ now' G' (by simp [addI, hi]) h0 h1 h2 h3
  · simp [hr]
    refine roll_go hd2 (by decide) (by decide) fun t G3 t0 t1 hd3 kp3 => ?_
    have hM3 := kM hd2 hM2 kp3
    have kp13 : Kp [d, m, p, q] G G3 := kp12.trans (kp3.weak (bs := [d, m, p, q]) (by simp)) fun _ z => z
    obtain ⟨dnm3, dnp3, dnq3⟩ := dm hd3 hM3
    refine lcRunM D.str (fun x => decide (x ≠ n)) D.str idle [] (fun x hx K1 K2 h1 h2 => ?_) (sizeLe (m := 3) (by simpa using g.ilen) (by decide)) ?_
    · simp only [decide_eq_true_eq, decide_eq_false_iff_not] at h1 h2
      by_cases h : x = n
      · simp [wipe3, h]
        exact h2 (by simpa using h)
      · simp [wipe3, h]
        exact h1 h
    have eN : names.map D.str = ms.map fun x => D.str x.1 := by
      rw [← g.fst, List.map_map]
      rfl
    rw [eN]
    refine lcRunM (fun x : Str × Int => .str x.1) (fun _ => true) (fun x => .tup [.str x.1, .int (if x.1 = n then max x.2 t else x.2)]) ms [] (fun x hx K1 K2 h1 h2 => ?_) (sizeLe (m := 3) (by simpa using g.len') (by decide)) ?_
    · have e1 := look_mkM g.nd' hx
      by_cases h : x.1 = n
      · have e1' : look (mkM ms) (.inr n) = some (.int x.2) := by rw [← h]; exact e1
        simp [wipe3, subC, itemsC, tabC, e1, e1', h]
        simpa [h] using h1 rfl
      · simp [wipe3, subC, itemsC, tabC, e1, h]
        simpa [h] using h1 rfl
    refine ⟨mkM (setM ms n t), ?_, ?_⟩
    · have e5 : ∀ x : Str × Int, (if x.1 = n then (x.1, max x.2 t) else x) = (x.1, if x.1 = n then max x.2 t else x.2) := fun x => by
        by_cases h : x.1 = n <;> simp [h]
      have e8 : ms.filter (fun _ => true) = ms := List.filter_eq_self.mpr (by simp)
      rw [e8]
      simp [pairsD, mkM, setM, keyD, e5, Function.comp_def]
    · have e6 : merge [] (mkM (setM ms n t)) = mkM (setM ms n t) := by
        have := merge_mkM (setM ms n t) [] (by rw [List.map_nil, List.nil_append, setM_fst]; exact g.nd')
        simpa [mkM] using this
      rw [e6, ← eN]
      have e7 : ([] : List D) ++ (idle.filter fun x => decide (x ≠ n)).map D.str = (delI idle n).map .str := by simp [delI]
      rw [e7]
      simp [List.lookup, hM3.om]
      refine ⟨m, p, q, ms, idle, now, n, t, rfl, hM3, g.nd', g.len', g.ilen, fun _ G' kp h' => ?_, fun z => absurd nms z⟩
      have h3 : DiceAt G' d := hd3.kp kp (by simp [dnm3, dnp3, dnq3])
      have h2 : Kp [d, m, p, q] G G' := kp13.trans (kp.weak (bs := [d, m, p, q]) (by simp)) fun _ z => z
      refine pl_r110 T rfl (g.del n t) h' fun v11 vs' G4 hv h4 kp4 => ?_
      obtain ⟨dnm', dnp', dnq'⟩ := dm h3 h'
      exact k _ _ _ _ vs' G4 _ _ _ hv (g.del n t) (h3.kp kp4 (by simp [dnm', dnp', dnq'])) h4 (h2.trans (kp4.weak (bs := [d, m, p, q]) (by simp)) fun _ z => z)
end K08
namespace K08
open PySem PySem.Spec PyProof.Rows L2 L3
variable {K : PySem.W.Frag} {a : Ad} {mg : Str → Option Value}
theorem sub_ii0 (F : Int × Int) (G : Gp) (Q : K3) : subC (iiD F) (.int 0) G Q = Q (.int F.1) G := by simp [subC, itemsC, iiD]
theorem sub_ii1 (F : Int × Int) (G : Gp) (Q : K3) : subC (iiD F) (.int 1) G Q = Q (.int F.2) G := by simp [subC, itemsC, iiD]
theorem eqC_pp (x y : Int × Int) (G : Gp) (Q : K3) : eqC (iiD x) (iiD y) G Q = Q (.bl (decide (x = y))) G := by
  show (gd 60 (iiD x) = true ∧ gd 60 (iiD y) = true ∧ Q (.bl (eq3 (iiD x) (iiD y))) G) = _
  rw [eq3_pair, gd_pair, gd_pair]
  simp
theorem inB_pairs (F : Int × Int) (ys : List (Int × Int)) : inB (iiD F) (ys.map iiD) = decide (F ∈ ys) := by
  rw [cod_iiD.inB F ys]
  exact decide_eq_decide.mpr Iff.rfl
theorem inC_pairs (neg : Bool) (F : Int × Int) (ys : List (Int × Int)) (G : Gp) (Q : K3) : inC neg (iiD F) (.tup (ys.map iiD)) G Q = Q (.bl (ngB neg (decide (F ∈ ys)))) G := by
  have ga : (ys.map iiD).all (gd 59) = true := cod_iiD.all (by decide) ys
  rw [← inB_pairs]
  simp [inC, itemsC, ga]
theorem pl_125 (T : Tx K mg a) {D3 : Ends3} {u0 u2 u3 u4 u5 u6 u7 u8 u9 u10 u11 u12 u13 u18 u19 u20 u21 u22 u23 u24 u25 : Option D} {G : Gp} {d f w : Addr} {g : Int} {ts A : List Int} (hg : 1 ≤ g) (hA : A.Perm ts) (hs : A.Pairwise (· ≤ ·)) (hl : ts.length ≤ 100)
    (ndf : d ≠ f) (hd : DiceAt G d) (hf : G f = some (.lst (ts.map .int))) (hw : G w = some (.ins a.Sessions [("gap", .int g)]))
    (k : ∀ u10 u19 u20 u21 G' ts' A', A'.Perm ts' → A'.Pairwise (· ≤ ·) → ts'.length = ts.length + 1 → DiceAt G' d → G' f = some (.lst (ts'.map .int)) → G' w = some (.ins a.Sessions [("gap", .int g)]) → Kp [d, f] G G' →
      D3.nx [u0, some (.ref d), u2, u3, u4, u5, u6, u7, u8, u9, u10, u11, u12, u13, some (.int g), some (.ref f), some (.tup ((spansOf g A').map iiD)), some (.ref w), u18, u19, u20, u21, u22, u23, u24, u25] G') :
    T_law_125 K a D3 [u0, some (.ref d), u2, u3, u4, u5, u6, u7, u8, u9, u10, u11, u12, u13, some (.int g), some (.ref f), some (.tup ((spansOf g A).map iiD)), some (.ref w), u18, u19, u20, u21, u22, u23, u24, u25] G := by
  simp [T_law_125]
  refine roll_go hd (by decide) (by decide) fun t G1 t0 t1 hd1 kp1 => ?_
  have ndw : d ≠ w := by
    obtain ⟨x, y, z, e⟩ := hd
    exact gp_ne e hw nofun
  have nfw : f ≠ w := gp_ne hf hw nofun
  have hw1 := kp1 _ _ hw (by simpa using ndw.symm)
  have hf1 := kp1 _ _ hf (by simpa using ndf.symm)
  have hlen : (spansOf g A).length ≤ 100 := Nat.le_trans (spansOf_len A) (by rw [hA.length_eq]; exact hl)
  have hlt : ts.length < sizeLine := sizeLt (m := 100) hl (by decide)
  refine ⟨by simp [hw1, List.lookup], w, g, t, spansOf g A, rfl, hw1, by omega, fun ys G2 hperm hsort kp2 => ?_⟩
  have hw2 := kp2.at0 hw1
  have hf2 := kp2.at0 hf1
  have hys := joined_spans hg hs hperm hsort
  have htk := taken_is hg hs hperm
  have hts := taken_sorted (t := t) hg hs
  obtain ⟨f1, f2⟩ := Kt_fst (spansOf g A) (t, t + g)
  rw [← joinR_Kt] at f1 f2
  have f1 : (joinR g t (spansOf g A)).1.1 ≤ t := f1
  have f2 : t < (joinR g t (spansOf g A)).1.2 := by have f2 : t + g ≤ _ := f2; omega
  have hF : (joinR g t (spansOf g A)).1 ∈ ys := hperm.mem_iff.mpr (by simp)
  generalize (joinR g t (spansOf g A)).1 = F at *
  generalize (joinR g t (spansOf g A)).2 = tk at *
  have hd2 : DiceAt (gset G2 f (.lst (ts.map .int ++ [.int t]))) d := by
    obtain ⟨x, y, z, e⟩ := hd1
    exact ⟨x, y, z, by rw [gset_ne ndf]; exact kp2.at0 e⟩
  simp [TApp, hf2, hlt, listR]
  refine ⟨f, ts ++ [t], g, rfl, by simp, by simp; omega, fun srt G3 hp3 hs3 kp3 => ?_⟩
  have e3 : srt = ins t A := int_uniq (hp3.trans ((hA.symm.append_right [t]).trans (ins_perm t A).symm)) hs3 (ins_sorted t A hs)
  subst e3
  have hsl : (spansOf g A).length ≤ sizeLine := sizeLe (m := 100) hlen (by decide)
  have hq2 : ¬ F.2 ≤ t := by omega
  simp [inC_pairs, hF, sub_ii0, sub_ii1, f1, f2, ← hys, hq2]
  refine .inr ⟨tk, rfl, fun ps hpp hps => ?_⟩
  have e4 : ps = tk := sorted_uniq lexI_anti hpp hps hts
  subst e4
  refine lcRunM iiD (fun x => decide (x ∉ ys ∨ x = F)) iiD (spansOf g A) [] (fun x hx K1 K2 h1 h2 => ?_) (by simpa using hsl) ?_
  · simp only [decide_eq_true_eq, decide_eq_false_iff_not] at h1 h2
    have hfin : x ∈ ys → ¬ x = F → K2 G3 := fun c1 c2 => h2 fun z => z.elim (fun q => q c1) c2
    by_cases c2 : x = F
    · subst c2
      simp [wipe3, inC_pairs, eqC_pp]
      exact h1 (.inr rfl)
    · by_cases c1 : x ∈ ys
      · simp [wipe3, inC_pairs, eqC_pp, c1, c2]
        exact hfin c1 c2
      · simp [wipe3, inC_pairs, eqC_pp, c1, c2]
        exact h1 (.inl c1)
  · rw [htk]
    simp
    have hd3 : DiceAt G3 d := hd2.kp kp3 (by simp)
    have hf3 : G3 f = some (.lst ((ts ++ [t]).map .int)) := by simpa using kp3.at0 (x := f) (g := .lst (ts.map .int ++ [.int t])) gset_same
    have hw3 : G3 w = some (.ins a.Sessions [("gap", .int g)]) := kp3.at0 (by rw [gset_ne nfw.symm]; exact hw2)
    have := k (some (.int t)) (some (.tup ((spansOf g A).map iiD))) (some (iiD F)) (some (.tup (ps.map iiD))) G3 (ts ++ [t]) (ins t A) hp3 hs3 (by simp) hd3 hf3 hw3 ((((kp1.weak (bs := [d, f]) (by simp)).trans kp2 (by simp)).puts (f := f) (by simp)).trans kp3 (by simp))
    rw [← hys] at this
    exact this
theorem DiceAt.put {G : Gp} {d f : Addr} {o : GO} (h : DiceAt G d) (n : d ≠ f) : DiceAt (gset G f o) d := let ⟨x, y, z, e⟩ := h; ⟨x, y, z, by rw [gset_ne n]; exact e⟩
theorem pl_r123 (T : Tx K mg a) {D3 : Ends3} {u0 u2 u3 u4 u5 u6 u7 u8 u9 u10 u11 u12 u13 u14 u15 u16 u17 u18 u19 u20 u21 u22 u23 u24 u25 : Option D} {G0 G : Gp} {d : Addr} (hd : DiceAt G d) (hk : Kp [d] G0 G) (h0 : ∃ g, G0 d = some g)
    (k : ∀ δ' G', δ'.length = 26 → Kp [d] G0 G' → D3.nx δ' G') :
    T_law_r123 K a D3 [u0, some (.ref d), u2, u3, u4, u5, u6, u7, u8, u9, u10, u11, u12, u13, u14, u15, u16, u17, u18, u19, u20, u21, u22, u23, u24, u25] G := by
  simp [T_law_r123]
  refine roll_go hd (by decide) (by decide) fun r G1 r0 r1 hd1 kp1 => ?_
  intro f hf w hw
  have hg : 1 ≤ 1 + r := by omega
  have ndf : d ≠ f := by
    obtain ⟨x, y, z, e⟩ := hd1
    exact gp_new e hf
  have hd2 := DiceAt.put (o := .lst []) hd1 ndf
  have ndw : d ≠ w := by
    obtain ⟨x, y, z, e⟩ := hd2
    exact gp_new e hw
  have nwf : w ≠ f := fun z => by rw [z, gset_same] at hw; cases hw
  refine ⟨w, 1 + r, rfl, gset_same, fun _ => ⟨rfl, ?_⟩, fun z => absurd hg z⟩
  simp
  generalize hG2 : gset (gset G1 f (.lst [])) w (.ins a.Sessions [("gap", .int (1 + r))]) = G2
  have hd3 : DiceAt G2 d := by rw [← hG2]; exact DiceAt.put hd2 ndw
  have hf3 : G2 f = some (.lst []) := by rw [← hG2, gset_ne nwf.symm, gset_same]
  have hw3 : G2 w = some (.ins a.Sessions [("gap", .int (1 + r))]) := by rw [← hG2, gset_same]
  have fr : ∀ {x}, G1 x = none → x ≠ d → G0 x = none := fun {x} h n => by
    cases e : G0 x with
    | none => rfl
    | some g =>
      have := (hk.trans kp1 fun _ z => z) x g e (by simpa using n)
      rw [h] at this
      cases this
  have f0 : G0 f = none := fr hf ndf.symm
  have w0 : G0 w = none := by
    rw [gset_ne nwf] at hw
    exact fr hw ndw.symm
  have kp2 : Kp [d] G0 G2 := by
    rw [← hG2]
    exact ((hk.trans kp1 fun _ z => z).put f0).put w0
  refine roll_go hd3 (by decide) (by decide) fun n G3 n0 n1 hd4 kp3 => ?_
  have kp4 := kp2.trans kp3 fun _ z => z
  simp
  refine ⟨by omega, by omega, ?_⟩
  refine forRun (fun ds δ G' => ∃ ts A x10 x18 x19 x20 x21, ts.length + ds.length ≤ 21 ∧ A.Perm ts ∧ A.Pairwise (· ≤ ·) ∧ DiceAt G' d ∧ G' f = some (.lst (ts.map .int)) ∧ G' w = some (.ins a.Sessions [("gap", .int (1 + r))]) ∧ Kp [d] G0 G' ∧
      δ = [u0, some (.ref d), u2, u3, u4, u5, u6, u7, u8, u9, x10, u11, u12, u13, some (.int (1 + r)), some (.ref f), some (.tup ((spansOf (1 + r) A).map iiD)), some (.ref w), x18, x19, x20, x21, u22, u23, u24, u25]) _ _ _
    ⟨[], [], u10, u18, u19, u20, u21, by rw [rangeD_len]; simp; omega, List.Perm.refl _, List.Pairwise.nil, hd4, kp3 _ _ hf3 (by simpa using ndf.symm), kp3 _ _ hw3 (by simpa using ndw.symm), kp4, by simp [spansOf]⟩ ?_ ?_
  · rintro x rr δ G' ⟨ts, A, x10, x18, x19, x20, x21, hl, hA, hs, hd', hf', hw', kp', rfl⟩ Nx hN
    simp only [List.length_cons] at hl
    simp
    refine pl_125 T hg hA hs (by omega) ndf hd' hf' hw' fun y10 y19 y20 y21 G4 ts' A' h1 h2 h3 h4 h5 h6 h7 => hN _ _ ⟨ts', A', _, _, _, _, _, by omega, h1, h2, h4, h5, h6, ?_, rfl⟩
    exact kp'.transN h7 fun x hx => by
      rcases List.mem_cons.mp hx with rfl | hx
      · exact .inl (by simp)
      · rw [List.mem_singleton.mp hx]
        exact .inr f0
  · rintro δ G' ⟨ts, A, x10, x18, x19, x20, x21, hl, hA, hs, hd', hf', hw', kp', rfl⟩
    exact k _ _ rfl kp'
end K08
namespace K08
open PySem PySem.Spec PyProof.Rows L2 L3
variable {K : PySem.W.Frag} {a : Ad} {mg : Str → Option Value}
theorem winsOf_range {l s t : Int} (h0 : 0 < s) (h1 : s ≤ l) (h2 : 0 ≤ t) : (((rangeC3 0 s ((t / s).toNat + 1)))) = ((List.range ((t / s).toNat + 1)).map fun (i : Nat) => (i : Int) * s).map D.int := by
  unfold rangeC3
  rw [List.map_map]
  refine List.map_congr_left fun i _ => ?_
  simp
theorem pl_r114 (T : Tx K mg a) {D3 : Ends3} {u0 u2 u3 u4 u5 u6 u7 u8 u9 u10 u11 u12 u13 u14 u15 u16 u17 u18 u19 u20 u21 u22 u23 u24 u25 : Option D} {G0 G : Gp} {d : Addr} (hd : DiceAt G d) (hk : Kp [d] G0 G) (h0 : ∃ g, G0 d = some g)
    (k : ∀ δ' G', δ'.length = 26 → Kp [d] G0 G' → D3.nx δ' G') :
    T_law_r114 K a D3 [u0, some (.ref d), u2, u3, u4, u5, u6, u7, u8, u9, u10, u11, u12, u13, u14, u15, u16, u17, u18, u19, u20, u21, u22, u23, u24, u25] G := by
  simp [T_law_r114]
  refine roll_go hd (by decide) (by decide) fun s G1 s0 s1 hd1 kp1 => ?_
  refine roll_go hd1 (by decide) (by decide) fun l G2 l0 l1 hd2 kp2 => ?_
  have kp12 : Kp [d] G0 G2 := (hk.trans kp1 fun _ z => z).trans kp2 fun _ z => z
  have fr : ∀ {x}, G2 x = none → x ≠ d → G0 x = none := fun {x} h n => by
    cases e : G0 x with
    | none => rfl
    | some g =>
      have := kp12 x g e (by simpa using n)
      rw [h] at this
      cases this
  have ndx : ∀ {x}, G2 x = none → d ≠ x := fun {x} h => by
    obtain ⟨x1, y, z, e⟩ := hd2
    exact gp_new e h
  by_cases hsl : 1 + l < 1 + s
  · simp [hsl, TTold3]
    intro x hx
    refine ⟨x, _, _, rfl, gset_same, fun z => absurd z.2 (by omega), fun _ => ⟨T.xm_JobError, ?_⟩⟩
    exact pl_r123 T (DiceAt.put hd2 (ndx hx)) (kp12.put (fr hx (ndx hx).symm)) h0 k
  · simp [hsl]
    intro x hx
    refine ⟨x, _, _, rfl, gset_same, fun _ => ⟨rfl, ?_⟩, fun z => absurd ⟨by omega, by omega⟩ z⟩
    simp only [gset_gset]
    have hd3 := DiceAt.put (o := .ins a.Windows [("length", .int (1 + l)), ("step", .int (1 + s))]) hd2 (ndx hx)
    have kp3 : Kp [d] G0 (gset G2 x (.ins a.Windows [("length", .int (1 + l)), ("step", .int (1 + s))])) := kp12.put (fr hx (ndx hx).symm)
    refine roll_go hd3 (by decide) (by decide) fun t G4 t0 t1 hd4 kp4 => ?_
    have hx4 : G4 x = some (.ins a.Windows [("length", .int (1 + l)), ("step", .int (1 + s))]) := kp4 _ _ gset_same (by simpa using (ndx hx).symm)
    refine ⟨by simp [hx4, List.lookup], x, 1 + l, 1 + s, t, rfl, hx4, by omega, by omega, by omega, t0, by omega, fun G5 kp5 => ?_⟩
    have hd5 := hd4.kp kp5 (by simp)
    have kp6 := (kp3.trans kp4 fun _ z => z).trans kp5 (by simp)
    have hq : 0 ≤ t / (1 + s) := Int.ediv_nonneg t0 (by omega)
    have hq1 : t / (1 + s) ≤ t := Int.ediv_le_self _ t0
    simp [listR]
    refine ⟨(t / (1 + s)).toNat + 1, RgC_pos (by omega) (by omega) (by omega) (by omega) ?_, ?_⟩
    · have : t + 1 + (1 + s) - 1 = t + 1 * (1 + s) := by omega
      rw [this, Int.add_mul_ediv_right _ _ (by omega)]
      omega
    · rw [winsOf_range (l := 1 + l) (by omega) (by omega) t0]
      have hall : ∀ b ∈ (List.range ((t / (1 + s)).toNat + 1)).map (fun (i : Nat) => (i : Int) * (1 + s)), b ≤ t := fun b hb => by
        obtain ⟨i, hi, rfl⟩ := List.mem_map.mp hb
        rw [List.mem_range] at hi
        have h1 : (i : Int) * (1 + s) ≤ t / (1 + s) * (1 + s) := Int.mul_le_mul_of_nonneg_right (by omega) (by omega)
        have h2 : t / (1 + s) * (1 + s) ≤ t := Int.ediv_mul_le t (by omega)
        show (i : Int) * (1 + s) ≤ t
        omega
      refine lcRunM D.int (fun b => decide (t < b + (1 + l))) (fun b => iiD (b, b + (1 + l))) _ [] (fun b hb K1 K2 h1 h2 => ?_) (sizeLe (m := 100) (by simp; omega) (by decide)) ?_
      · have hb1 := hall b hb
        simp only [decide_eq_true_eq, decide_eq_false_iff_not] at h1 h2
        by_cases h : t < b + (1 + l)
        · simp [wipe3, hb1, h]
          exact h1 h
        · simp [wipe3, hb1, h]
          exact h2 h
      · have e : ([] : List D) ++ (((List.range ((t / (1 + s)).toNat + 1)).map fun (i : Nat) => (i : Int) * (1 + s)).filter fun b => decide (t < b + (1 + l))).map (fun b => iiD (b, b + (1 + l))) = (winsOf (1 + l) (1 + s) t).map iiD := by
          simp only [winsOf, List.nil_append, List.map_map]
          rfl
        rw [e]
        simp
        exact pl_r123 T hd5 kp6 h0 k
end K08
namespace K08
open PySem PySem.Spec PyProof.Rows L2 L3
variable {K : PySem.W.Frag} {a : Ad} {mg : Str → Option Value}
theorem names_of {r : Int} (h0 : 0 ≤ r) (h1 : r < 3) : ∃ names : List Str, cut3 [.str "a", .str "b", .str "c"] none (some (1 + r)) = names.map .str ∧ names.Nodup ∧ names.length ≤ 3 ∧ 0 < names.length ∧ ∀ n ∈ names, PyData.strOk n = true := by
  have h : r = 0 ∨ r = 1 ∨ r = 2 := by omega
  have ok : ∀ n ∈ (["a", "b", "c"] : List Str), PyData.strOk n = true := by decide +kernel
  rcases h with rfl | rfl | rfl
  · exact ⟨["a"], rfl, by decide +kernel, by decide, by decide, fun n hn => ok n (by simp at hn ⊢; exact .inl hn)⟩
  · exact ⟨["a", "b"], rfl, by decide +kernel, by decide, by decide, fun n hn => ok n (by simp at hn ⊢; rcases hn with h | h; exact .inl h; exact .inr (.inl h))⟩
  · exact ⟨["a", "b", "c"], rfl, by decide +kernel, by decide, by decide, ok⟩
theorem pl_98 (T : Tx K mg a) {D3 : Ends3} {u0 u2 u3 u4 u5 u6 u7 u8 u9 u10 u11 u12 u13 u14 u15 u16 u17 u18 u19 u20 u21 u22 u23 u24 u25 : Option D} {G : Gp} {d : Addr} (hd : DiceAt G d)
    (k : ∀ δ' G', δ'.length = 26 → Kp [d] G G' → D3.nx δ' G') :
    T_law_98 K a D3 [u0, some (.ref d), u2, u3, u4, u5, u6, u7, u8, u9, u10, u11, u12, u13, u14, u15, u16, u17, u18, u19, u20, u21, u22, u23, u24, u25] G := by
  simp [T_law_98]
  refine roll_go hd (by decide) (by decide) fun r G1 r0 r1 hd1 kp1 => ?_
  obtain ⟨names, en, nd, n3, n0, ok⟩ := names_of r0 r1
  simp [en]
  intro m hm
  have ndm : d ≠ m := by
    obtain ⟨x1, y, z, e⟩ := hd1
    exact gp_new e hm
  refine ⟨m, names, rfl, gset_same, nd, n3, fun G2 p q hM hp hq kp2 => ⟨rfl, ?_⟩⟩
  have hd2 : DiceAt G2 d := (DiceAt.put (o := .ins a.Marks []) hd1 ndm).kp kp2 (by simpa using ndm)
  have fr : ∀ {x}, G1 x = none → x ≠ d → G x = none := fun {x} h n => by
    cases e : G x with
    | none => rfl
    | some g =>
      have := kp1 x g e (by simpa using n)
      rw [h] at this
      cases this
  have m0 : G m = none := fr hm ndm.symm
  have dpq : d ≠ p ∧ d ≠ q := by
    obtain ⟨x1, y, z, e⟩ := hd2
    exact ⟨gp_ne e hM.op nofun, gp_ne e hM.oq nofun⟩
  have pm : p ≠ m := fun z => by rw [z, gset_same] at hp; cases hp
  have qm : q ≠ m := fun z => by rw [z, gset_same] at hq; cases hq
  have p0 : G p = none := fr (by rw [gset_ne pm] at hp; exact hp) dpq.1.symm
  have q0 : G q = none := fr (by rw [gset_ne qm] at hq; exact hq) dpq.2.symm
  have kp3 : Kp [d] G G2 := (kp1.put m0).transN kp2 fun x hx => by
    rw [List.mem_singleton.mp hx]
    exact .inr m0
  refine lcRunM D.str (fun _ => true) (fun n => .tup [.str n, .int 0]) names [] (fun n hn K1 K2 h1 h2 => ?_) (sizeLe (m := 3) (by simpa using n3) (by decide)) ?_
  · simp [wipe3]
    exact h1 rfl
  have ef : names.filter (fun _ => true) = names := List.filter_eq_self.mpr (by simp)
  rw [ef]
  refine ⟨mkM (names.map fun n => (n, 0)), by simp [pairsD, mkM, keyD, Function.comp_def], ?_⟩
  have em : merge [] (mkM (names.map fun n => (n, 0))) = mkM (names.map fun n => (n, 0)) := by
    have := merge_mkM (names.map fun n => (n, (0 : Int))) [] (by simpa [Function.comp_def] using nd)
    simpa [mkM] using this
  rw [em]
  simp
  have g0 : Good names (names.map fun n => (n, (0 : Int))) [] := ⟨by simp [Function.comp_def], nd, n3, n0, ok, List.nodup_nil, by simp⟩
  refine roll_go hd2 (by decide) (by decide) fun n G3 n00 n1 hd3 kp4 => ?_
  have hM3 : MarksAt a.Marks G3 m p q (names.map fun n => (n, (0 : Int))) [] 0 := ⟨kp4 _ _ hM.om (by simpa using ndm.symm), kp4 _ _ hM.op (by simpa using dpq.1.symm), kp4 _ _ hM.oq (by simpa using dpq.2.symm), hM.ne⟩
  have kp5 : Kp [d] G G3 := kp3.trans kp4 fun _ z => z
  simp
  refine ⟨by omega, by omega, ?_⟩
  refine forRun (fun ds δ G' => ∃ ms idle now v7 v8 v9 v10 v11 vs, Good names ms idle ∧ DiceAt G' d ∧ MarksAt a.Marks G' m p q ms idle now ∧ Kp [d] G G' ∧ vs.length = 14 ∧
      δ = u0 :: some (.ref d) :: some (.lst (names.map .str)) :: some (.ref m) :: some (.dK (mkM ms)) :: some (.lst (idle.map .str)) :: some (.int now) :: v7 :: v8 :: v9 :: v10 :: v11 :: vs) _ _ _
    ⟨_, [], 0, u7, u8, u9, u10, u11, [u12, u13, u14, u15, u16, u17, u18, u19, u20, u21, u22, u23, u24, u25], g0, hd3, hM3, kp5, rfl, by simp⟩ ?_ ?_
  · rintro x rr δ G' ⟨ms, idle, now, v7, v8, v9, v10, v11, vs, g, hd', hM', kp', hvs, rfl⟩ Nx hN
    simp
    refine pl_101 T hvs g hd' hM' fun y8 y9 y10 y11 vs' G4 ms' idle' now' h1 h2 h3 h4 h5 => hN _ _ ⟨ms', idle', now', some x, y8, y9, y10, y11, vs', h2, h3, h4, ?_, h1, rfl⟩
    exact kp'.transN h5 fun x hx => by
      simp only [List.mem_cons, List.not_mem_nil, or_false] at hx
      rcases hx with rfl | rfl | rfl | rfl
      · exact .inl (by simp)
      · exact .inr m0
      · exact .inr p0
      · exact .inr q0
  · rintro δ G' ⟨ms, idle, now, v7, v8, v9, v10, v11, vs, g, hd', hM', kp', hvs, rfl⟩
    match vs, hvs with
    | [w12, w13, w14, w15, w16, w17, w18, w19, w20, w21, w22, w23, w24, w25], _ =>
      have hdG : ∃ g, G d = some g := let ⟨x, y, z, e⟩ := hd; ⟨_, e⟩
      exact pl_r114 T hd' kp' hdG k
/-! ### what is refused, and the law's end -/
theorem gdL (t : Tag) (xs : List D) (h : gd 60 (.nod t xs) = true) : gd 60 (.nod t xs) = true := h
theorem wins634 : winsOf 6 3 4 = [(0, 6), (3, 9)] := by decide
theorem join55 : joinR 5 5 [(0, 5)] = ((5, 10), []) := by decide
theorem pl_r132 (T : Tx K mg a) {Q3 : K3} {E3 : X3} {δ : St3} {G : Gp} (hδ : δ.length = 26) (k : ∀ G', Q3 (.bl true) G') : T_law_r132 K a (endsOf Q3 E3) δ G := by
  match δ, hδ with
  | [u0, u1, u2, u3, u4, u5, u6, u7, u8, u9, u10, u11, u12, u13, u14, u15, u16, u17, u18, u19, u20, u21, u22, u23, u24, u25], _ =>
    have s5 : 5 ≤ sizeLine := by rw [sizeLine_eq]; decide
    have h0 : Refused a.JobError (TMake a.Windows (sp_Windows_init K a) [] (TCons (TC (.int 3)) (TCons (TC (.int 0)) TNil))) := fun G Q E hE x hx => ⟨x, 3, 0, rfl, gset_same, fun z => absurd z.1 (by decide), fun _ => hE _⟩
    have h1 : Refused a.JobError (TMake a.Windows (sp_Windows_init K a) [] (TCons (TC (.int 0)) (TCons (TC (.int 0)) TNil))) := fun G Q E hE x hx => ⟨x, 0, 0, rfl, gset_same, fun z => absurd z.1 (by decide), fun _ => hE _⟩
    have h2 : Refused a.JobError (TMake a.Sessions (sp_Sessions_init K a) [] (TCons (TC (.int 0)) TNil)) := fun G Q E hE x hx => ⟨x, 0, rfl, gset_same, fun z => absurd z (by decide), fun _ => hE _⟩
    have h3 : Refused a.JobError (TMeth a.Marks "tell" (sp_Marks_tell K a) [] (TMake a.Marks (sp_Marks_init K a) [] (TCons (TLst (TCons (TC (.str "a")) TNil)) TNil)) (TCons (TC (.str "b")) (TCons (TC (.int 1)) TNil))) := fun G Q E hE => by
      simp
      intro m hm
      refine ⟨m, ["a"], rfl, gset_same, by decide +kernel, by decide, fun G1 p q hM hp hq kp => ⟨rfl, by simp [hM.om, List.lookup], m, p, q, _, _, _, "b", 1, rfl, hM, by decide +kernel, by decide, by decide, fun z => absurd z (by decide +kernel), fun _ => hE _⟩⟩
    have h4 : Refused a.JobError (TMeth a.Marks "rest" (sp_Marks_rest K a) [] (TMake a.Marks (sp_Marks_init K a) [] (TCons (TLst (TCons (TC (.str "a")) TNil)) TNil)) (TCons (TC (.str "b")) TNil)) := fun G Q E hE => by
      simp
      intro m hm
      refine ⟨m, ["a"], rfl, gset_same, by decide +kernel, by decide, fun G1 p q hM hp hq kp => ⟨rfl, by simp [hM.om, List.lookup], m, p, q, _, _, _, "b", rfl, hM, by decide +kernel, by decide, by decide, fun z => absurd z (by decide +kernel), fun _ => hE _⟩⟩
    simp [T_law_r132, s5, TClo]
    refine lc_bad (is := [0, 1, 2, 3, 4]) ?_ T.xm_JobError [] G (fun i hi => ?_) fun G1 => ?_
    · exact (by decide : 25 < 26)
    · simp only [List.mem_cons, List.not_mem_nil, or_false] at hi
      rcases hi with rfl | rfl | rfl | rfl | rfl
      · exact ⟨_, rfl, h0⟩
      · exact ⟨_, rfl, h1⟩
      · exact ⟨_, rfl, h2⟩
      · exact ⟨_, rfl, h3⟩
      · exact ⟨_, rfl, h4⟩
    simp
    -- Windows(6, 3).around(4)
    intro w hw
    refine ⟨w, 6, 3, rfl, gset_same, fun _ => ⟨rfl, by simp [List.lookup], w, 6, 3, 4, rfl, by simp, by decide, by decide, by decide, by decide, by decide, fun G3 kp3 => ?_⟩, fun z => absurd ⟨by decide, by decide⟩ z⟩
    rw [wins634]
    refine ⟨rfl, rfl, ?_⟩
    have e1 : eq3 (.tup ([((0 : Int), (6 : Int)), (3, 9)].map iiD)) (.tup [.tup [.int 0, .int 6], .tup [.int 3, .int 9]]) = true := (eq3_pairsT [(0, 6), (3, 9)] [(0, 6), (3, 9)]).trans (by simp)
    simp only [valD, e1]
    -- Sessions(5).joined(((0, 5),), 5)
    intro v hv
    refine ⟨v, 5, rfl, gset_same, fun _ => ⟨rfl, by simp [List.lookup], v, 5, 5, [(0, 5)], rfl, by simp, by decide, fun ys G4 h1 h2 kp4 => ?_⟩, fun z => absurd (by decide) z⟩
    rw [join55] at h1 ⊢
    have e2 : ys = [(0, 5), (5, 10)] := sorted_uniq lexI_anti h1 h2 (by
      refine List.pairwise_cons.mpr ⟨fun x hx => ?_, List.pairwise_singleton _ _⟩
      rw [List.mem_singleton.mp hx]
      exact .inl (by decide))
    subst e2
    refine ⟨rfl, rfl, ?_⟩
    have e3 : eq3 (.tup [.tup ([((0 : Int), (5 : Int)), (5, 10)].map iiD), iiD (5, 10), .tup (([] : List (Int × Int)).map iiD)]) (.tup [.tup [.tup [.int 0, .int 5], .tup [.int 5, .int 10]], .tup [.int 5, .int 10], .tup []]) = true := by
      decide +kernel
    simp only [valD, e3]
    exact RetC.now (k _)
def sp_law (_ : PySem.W.Frag) (_ : Ad) : Sp3 := fun ds _ Q _ => ∃ ns : List Int, ds = [.nod .ro (ns.map .int)] ∧ ns.length ≤ 63 ∧ ∀ G', Q (.bl true) G'
theorem pl_law (T : Tx K mg a) : ∀ ds G Q3 E3, sp_law K a ds G Q3 E3 → T_law K a (endsOf Q3 E3) (start3 N_law ds) G := by
  rintro ds G Q3 E3 ⟨ns, rfl, hl, k⟩
  simp [T_law]
  refine ⟨ns, 1, rfl, hl, fun ps G1 hn hp kp => ?_⟩
  simp
  refine forRun (fun ds δ G' => ∃ ps : List Addr, ds = ps.map .ref ∧ ps.Nodup ∧ (∀ p ∈ ps, DiceAt G' p) ∧ δ.length = 26) _ _ _ ⟨ps, rfl, hn, fun p h => (hp p h).1, rfl⟩ ?_ ?_
  · rintro x rr δ G' ⟨ps, e, hn, hp, hδ⟩ Nx hN
    cases ps with
    | nil => cases e
    | cons p ps =>
      simp only [List.map_cons, List.cons.injEq] at e
      obtain ⟨rfl, rfl⟩ := e
      rw [List.nodup_cons] at hn
      match δ, hδ with
      | [u0, u1, u2, u3, u4, u5, u6, u7, u8, u9, u10, u11, u12, u13, u14, u15, u16, u17, u18, u19, u20, u21, u22, u23, u24, u25], _ =>
        simp
        refine pl_98 T (hp p (List.mem_cons_self ..)) fun δ' G2 h1 h2 => hN _ _ ⟨ps, rfl, hn.2, fun q hq => (hp q (List.mem_cons_of_mem _ hq)).kp h2 ?_, h1⟩
        simp only [List.mem_singleton]
        exact fun z => hn.1 (z ▸ hq)
  · rintro δ G' ⟨ps, e, hn, hp, hδ⟩
    exact pl_r132 T hδ k
end K08
namespace K08
open PySem PySem.Spec PyProof.Rows L2 L3
section
variable {K : PySem.W.Frag} {a : Ad} {mg : Str → Option Value}
theorem len_Marks_time_now : ∀ ds G Q E, sp_Marks_time_now K a ds G Q E → ds.length = 1 := by
  rintro ds G Q E h
  first
    | (obtain ⟨_, rfl, _⟩ := h; rfl)
    | (obtain ⟨_, _, rfl, _⟩ := h; rfl)
    | (obtain ⟨_, _, _, rfl, _⟩ := h; rfl)
    | (obtain ⟨_, _, _, _, rfl, _⟩ := h; rfl)
    | (obtain ⟨_, _, _, _, _, rfl, _⟩ := h; rfl)
    | (obtain ⟨_, _, _, _, _, _, rfl, _⟩ := h; rfl)
    | (obtain ⟨_, _, _, _, _, _, _, rfl, _⟩ := h; rfl)
    | (obtain ⟨_, _, _, _, _, _, _, _, rfl, _⟩ := h; rfl)
theorem len_Marks_init : ∀ ds G Q E, sp_Marks_init K a ds G Q E → ds.length = 2 := by
  rintro ds G Q E h
  first
    | (obtain ⟨_, rfl, _⟩ := h; rfl)
    | (obtain ⟨_, _, rfl, _⟩ := h; rfl)
    | (obtain ⟨_, _, _, rfl, _⟩ := h; rfl)
    | (obtain ⟨_, _, _, _, rfl, _⟩ := h; rfl)
    | (obtain ⟨_, _, _, _, _, rfl, _⟩ := h; rfl)
    | (obtain ⟨_, _, _, _, _, _, rfl, _⟩ := h; rfl)
    | (obtain ⟨_, _, _, _, _, _, _, rfl, _⟩ := h; rfl)
    | (obtain ⟨_, _, _, _, _, _, _, _, rfl, _⟩ := h; rfl)
theorem len_Marks_tell : ∀ ds G Q E, sp_Marks_tell K a ds G Q E → ds.length = 3 := by
  rintro ds G Q E h
  first
    | (obtain ⟨_, rfl, _⟩ := h; rfl)
    | (obtain ⟨_, _, rfl, _⟩ := h; rfl)
    | (obtain ⟨_, _, _, rfl, _⟩ := h; rfl)
    | (obtain ⟨_, _, _, _, rfl, _⟩ := h; rfl)
    | (obtain ⟨_, _, _, _, _, rfl, _⟩ := h; rfl)
    | (obtain ⟨_, _, _, _, _, _, rfl, _⟩ := h; rfl)
    | (obtain ⟨_, _, _, _, _, _, _, rfl, _⟩ := h; rfl)
    | (obtain ⟨_, _, _, _, _, _, _, _, rfl, _⟩ := h; rfl)
theorem len_Marks_rest : ∀ ds G Q E, sp_Marks_rest K a ds G Q E → ds.length = 2 := by
  rintro ds G Q E h
  first
    | (obtain ⟨_, rfl, _⟩ := h; rfl)
    | (obtain ⟨_, _, rfl, _⟩ := h; rfl)
    | (obtain ⟨_, _, _, rfl, _⟩ := h; rfl)
    | (obtain ⟨_, _, _, _, rfl, _⟩ := h; rfl)
    | (obtain ⟨_, _, _, _, _, rfl, _⟩ := h; rfl)
    | (obtain ⟨_, _, _, _, _, _, rfl, _⟩ := h; rfl)
    | (obtain ⟨_, _, _, _, _, _, _, rfl, _⟩ := h; rfl)
    | (obtain ⟨_, _, _, _, _, _, _, _, rfl, _⟩ := h; rfl)
theorem len_Windows_init : ∀ ds G Q E, sp_Windows_init K a ds G Q E → ds.length = 3 := by
  rintro ds G Q E h
  first
    | (obtain ⟨_, rfl, _⟩ := h; rfl)
    | (obtain ⟨_, _, rfl, _⟩ := h; rfl)
    | (obtain ⟨_, _, _, rfl, _⟩ := h; rfl)
    | (obtain ⟨_, _, _, _, rfl, _⟩ := h; rfl)
    | (obtain ⟨_, _, _, _, _, rfl, _⟩ := h; rfl)
    | (obtain ⟨_, _, _, _, _, _, rfl, _⟩ := h; rfl)
    | (obtain ⟨_, _, _, _, _, _, _, rfl, _⟩ := h; rfl)
    | (obtain ⟨_, _, _, _, _, _, _, _, rfl, _⟩ := h; rfl)
theorem len_Windows_around : ∀ ds G Q E, sp_Windows_around K a ds G Q E → ds.length = 2 := by
  rintro ds G Q E h
  first
    | (obtain ⟨_, rfl, _⟩ := h; rfl)
    | (obtain ⟨_, _, rfl, _⟩ := h; rfl)
    | (obtain ⟨_, _, _, rfl, _⟩ := h; rfl)
    | (obtain ⟨_, _, _, _, rfl, _⟩ := h; rfl)
    | (obtain ⟨_, _, _, _, _, rfl, _⟩ := h; rfl)
    | (obtain ⟨_, _, _, _, _, _, rfl, _⟩ := h; rfl)
    | (obtain ⟨_, _, _, _, _, _, _, rfl, _⟩ := h; rfl)
    | (obtain ⟨_, _, _, _, _, _, _, _, rfl, _⟩ := h; rfl)
theorem len_Sessions_init : ∀ ds G Q E, sp_Sessions_init K a ds G Q E → ds.length = 2 := by
  rintro ds G Q E h
  first
    | (obtain ⟨_, rfl, _⟩ := h; rfl)
    | (obtain ⟨_, _, rfl, _⟩ := h; rfl)
    | (obtain ⟨_, _, _, rfl, _⟩ := h; rfl)
    | (obtain ⟨_, _, _, _, rfl, _⟩ := h; rfl)
    | (obtain ⟨_, _, _, _, _, rfl, _⟩ := h; rfl)
    | (obtain ⟨_, _, _, _, _, _, rfl, _⟩ := h; rfl)
    | (obtain ⟨_, _, _, _, _, _, _, rfl, _⟩ := h; rfl)
    | (obtain ⟨_, _, _, _, _, _, _, _, rfl, _⟩ := h; rfl)
theorem len_Sessions_joined : ∀ ds G Q E, sp_Sessions_joined K a ds G Q E → ds.length = 3 := by
  rintro ds G Q E h
  first
    | (obtain ⟨_, rfl, _⟩ := h; rfl)
    | (obtain ⟨_, _, rfl, _⟩ := h; rfl)
    | (obtain ⟨_, _, _, rfl, _⟩ := h; rfl)
    | (obtain ⟨_, _, _, _, rfl, _⟩ := h; rfl)
    | (obtain ⟨_, _, _, _, _, rfl, _⟩ := h; rfl)
    | (obtain ⟨_, _, _, _, _, _, rfl, _⟩ := h; rfl)
    | (obtain ⟨_, _, _, _, _, _, _, rfl, _⟩ := h; rfl)
    | (obtain ⟨_, _, _, _, _, _, _, _, rfl, _⟩ := h; rfl)
theorem len_law_dice : ∀ ds G Q E, sp_law_dice K a ds G Q E → ds.length = 1 := by
  rintro ds G Q E h
  first
    | (obtain ⟨_, rfl, _⟩ := h; rfl)
    | (obtain ⟨_, _, rfl, _⟩ := h; rfl)
    | (obtain ⟨_, _, _, rfl, _⟩ := h; rfl)
    | (obtain ⟨_, _, _, _, rfl, _⟩ := h; rfl)
    | (obtain ⟨_, _, _, _, _, rfl, _⟩ := h; rfl)
    | (obtain ⟨_, _, _, _, _, _, rfl, _⟩ := h; rfl)
    | (obtain ⟨_, _, _, _, _, _, _, rfl, _⟩ := h; rfl)
    | (obtain ⟨_, _, _, _, _, _, _, _, rfl, _⟩ := h; rfl)
theorem len_law_roll : ∀ ds G Q E, sp_law_roll K a ds G Q E → ds.length = 2 := by
  rintro ds G Q E h
  first
    | (obtain ⟨_, rfl, _⟩ := h; rfl)
    | (obtain ⟨_, _, rfl, _⟩ := h; rfl)
    | (obtain ⟨_, _, _, rfl, _⟩ := h; rfl)
    | (obtain ⟨_, _, _, _, rfl, _⟩ := h; rfl)
    | (obtain ⟨_, _, _, _, _, rfl, _⟩ := h; rfl)
    | (obtain ⟨_, _, _, _, _, _, rfl, _⟩ := h; rfl)
    | (obtain ⟨_, _, _, _, _, _, _, rfl, _⟩ := h; rfl)
    | (obtain ⟨_, _, _, _, _, _, _, _, rfl, _⟩ := h; rfl)
theorem len_law_rounds : ∀ ds G Q E, sp_law_rounds K a ds G Q E → ds.length = 2 := by
  rintro ds G Q E h
  first
    | (obtain ⟨_, rfl, _⟩ := h; rfl)
    | (obtain ⟨_, _, rfl, _⟩ := h; rfl)
    | (obtain ⟨_, _, _, rfl, _⟩ := h; rfl)
    | (obtain ⟨_, _, _, _, rfl, _⟩ := h; rfl)
    | (obtain ⟨_, _, _, _, _, rfl, _⟩ := h; rfl)
    | (obtain ⟨_, _, _, _, _, _, rfl, _⟩ := h; rfl)
    | (obtain ⟨_, _, _, _, _, _, _, rfl, _⟩ := h; rfl)
    | (obtain ⟨_, _, _, _, _, _, _, _, rfl, _⟩ := h; rfl)
theorem len_law_spans : ∀ ds G Q E, sp_law_spans K a ds G Q E → ds.length = 2 := by
  rintro ds G Q E h
  first
    | (obtain ⟨_, rfl, _⟩ := h; rfl)
    | (obtain ⟨_, _, rfl, _⟩ := h; rfl)
    | (obtain ⟨_, _, _, rfl, _⟩ := h; rfl)
    | (obtain ⟨_, _, _, _, rfl, _⟩ := h; rfl)
    | (obtain ⟨_, _, _, _, _, rfl, _⟩ := h; rfl)
    | (obtain ⟨_, _, _, _, _, _, rfl, _⟩ := h; rfl)
    | (obtain ⟨_, _, _, _, _, _, _, rfl, _⟩ := h; rfl)
    | (obtain ⟨_, _, _, _, _, _, _, _, rfl, _⟩ := h; rfl)
theorem len_law : ∀ ds G Q E, sp_law K a ds G Q E → ds.length = 1 := by
  rintro ds G Q E ⟨_, rfl, _⟩
  rfl
theorem ints_dl {K : PySem.W.Frag} {Γ : Gm} {H : Hp} {G : Gp} : ∀ ns : List Int, DatL K Γ H G (ns.map .int) (ns.map V.int)
  | [] => rfl
  | n :: ns => ⟨_, _, rfl, rfl, ints_dl ns⟩
theorem law_at {l : PySem.W.OpenLaw} {w : World} {h : Heap} {fa c0 P0 : Addr} (T : Tx K mg a) (hfa : fa = a.f_law) (hC : PySem.W.CodeHd h c0 P0) (nP : K.lookup P0 = none) (hP : h.get? P0 = some { cls := .none, data := .fields #[] }) (hcd : a.d_law.code = .ref c0)
    (hb : ∀ (s : Shared) (u : Value), BindsTo s a.d_law ⟨[u], []⟩ [("script", u)]) : LamX.LawAtS l w K (L2.CX l.prog w) 8 63 "script" mg fa h := by
  subst hfa
  refine ⟨a.d_law, [(c0, P0)], liftSp K (Gam_law P0) (sp_law K a), ?_, ?_, ?_, hb, ?_, ?_⟩
  · intro p hp
    rw [List.mem_singleton.mp hp]
    exact hP
  · intro p hp
    rw [List.mem_singleton.mp hp]
    exact nP
  · intro p hp
    rw [List.mem_singleton.mp hp]
    exact hC
  · intro H r ns hl _ hT hS
    refine ⟨[.nod .ro (ns.map .int)], fun _ => none, fun d _ => d = .bl true, fun _ _ => False, ⟨_, [], rfl, ⟨r, _, rfl, ?_, ints_dl ns⟩, rfl⟩, ⟨(fun _ _ z => by cases z), ?_⟩, ⟨ns, rfl, hl, fun _ => rfl⟩, fun d v G' H' _ _ dv e => ?_, fun _ _ _ _ _ z => z⟩
    · rcases hS with q | q
      · exact .inl ⟨rfl, q⟩
      · exact .inr (.inr q)
    · intro p hp
      rw [List.mem_singleton.mp hp]
      exact LamX.TabS.nil (hT _ (List.mem_singleton.mpr rfl))
    · have e' : d = .bl true := e
      rw [e'] at dv
      exact dv
  · intro base KX G TB
    have F_Marks_time_now := ok_Marks_time_now (P := l.prog) (w := w) (base := base) T  len_Marks_time_now (pl_now T)
    have F_Marks_init := ok_Marks_init (P := l.prog) (w := w) (base := base) T  len_Marks_init (pl_minit T)
    have F_Marks_tell := ok_Marks_tell (P := l.prog) (w := w) (base := base) T F_Marks_time_now len_Marks_tell (pl_tell T)
    have F_Marks_rest := ok_Marks_rest (P := l.prog) (w := w) (base := base) T F_Marks_time_now len_Marks_rest (pl_rest T)
    have F_Windows_init := ok_Windows_init (P := l.prog) (w := w) (base := base) T  len_Windows_init (pl_winit T)
    have F_Windows_around := ok_Windows_around (P := l.prog) (w := w) (base := base) T  len_Windows_around (pl_around T)
    have F_Sessions_init := ok_Sessions_init (P := l.prog) (w := w) (base := base) T  len_Sessions_init (pl_sinit T)
    have F_Sessions_joined := ok_Sessions_joined (P := l.prog) (w := w) (base := base) T  len_Sessions_joined (pl_joined T)
    have F_law_dice := ok_law_dice (P := l.prog) (w := w) (base := base) T  len_law_dice (pl_dice)
    have F_law_roll := ok_law_roll (P := l.prog) (w := w) (base := base) T  len_law_roll (pl_roll)
    have F_law_rounds := ok_law_rounds (P := l.prog) (w := w) (base := base) T F_law_dice len_law_rounds (pl_rounds)
    have F_law_spans := ok_law_spans (P := l.prog) (w := w) (base := base) T  len_law_spans (pl_spans)
    exact fn3L (Γ := Gam_law P0) T.u_law sc_law len_law fun cdv A outer s H E e hr => ⟨_, w_law T F_law_rounds F_law_roll F_Marks_init F_Marks_rest F_Marks_tell F_Marks_time_now F_Windows_init F_Windows_around F_Sessions_init F_Sessions_joined F_law_spans (TB _ (List.mem_singleton.mpr rfl)) cdv (e.symm.trans hcd) A outer s H E hr, pl_law T⟩
end
theorem exm_self {K : PySem.W.Frag} {S : Addr} (h1 : PySem.W.subIn K (.ref S) (.type "BaseException") = some true) (h2 : PySem.W.isClsIn K S = true) (h3 : PySem.W.typeIn K (.ref S) = some (.type "type")) (h4 : PySem.W.subIn K (.ref S) (.ref S) = some true) : PySem.W.exmOne K (.ref S) (.ref S) = some true := by
  have e : (PySem.W.clsIn K S).isSome = true := h2
  unfold PySem.W.exmOne PySem.W.kitCls
  simp [h1, h3, h4, e]
theorem all_mk {l : PySem.W.OpenLaw} {w : World} {K : PySem.W.Frag} {h : Heap} {mg : Str → Option Value} {fa c0 P0 : Addr} (X : K.In h) (G : h.Ns mainGlobals mg) (hfa : mg "law" = some (.ref fa)) (hP : h.get? P0 = some (PySem.W.tabObj #[]))
    {JobError Marks Sessions Windows f_Marks_time_now f_Marks_init f_Marks_tell f_Marks_rest f_Windows_init f_Windows_around f_Sessions_init f_Sessions_joined f_law_dice f_law_roll f_law_rounds f_law_told f_law_spans f_law : Addr}
    {od_Marks_time_now an_Marks_time_now od_Marks_init an_Marks_init od_Marks_tell an_Marks_tell od_Marks_rest an_Marks_rest od_Windows_init an_Windows_init od_Windows_around an_Windows_around od_Sessions_init an_Sessions_init od_Sessions_joined an_Sessions_joined od_law_dice an_law_dice od_law_roll an_law_roll od_law_rounds an_law_rounds od_law_told an_law_told od_law_spans an_law_spans od_law an_law : Option Addr} {sl_Marks_time_now sl_Marks_init sl_Marks_tell sl_Marks_rest sl_Windows_init sl_Windows_around sl_Sessions_init sl_Sessions_joined sl_law_dice sl_law_roll sl_law_rounds sl_law_told sl_law_spans sl_law : Array (Option Value)} {oc_Marks_time_now kV_Marks_time_now dc_Marks_time_now pm_Marks_time_now ct_Marks_time_now cd_Marks_time_now oc_Marks_init kV_Marks_init dc_Marks_init pm_Marks_init ct_Marks_init cd_Marks_init oc_Marks_tell kV_Marks_tell dc_Marks_tell pm_Marks_tell ct_Marks_tell cd_Marks_tell oc_Marks_rest kV_Marks_rest dc_Marks_rest pm_Marks_rest ct_Marks_rest cd_Marks_rest oc_Windows_init kV_Windows_init dc_Windows_init pm_Windows_init ct_Windows_init cd_Windows_init oc_Windows_around kV_Windows_around dc_Windows_around pm_Windows_around ct_Windows_around cd_Windows_around oc_Sessions_init kV_Sessions_init dc_Sessions_init pm_Sessions_init ct_Sessions_init cd_Sessions_init oc_Sessions_joined kV_Sessions_joined dc_Sessions_joined pm_Sessions_joined ct_Sessions_joined cd_Sessions_joined oc_law_dice kV_law_dice dc_law_dice pm_law_dice ct_law_dice cd_law_dice oc_law_roll kV_law_roll dc_law_roll pm_law_roll ct_law_roll cd_law_roll oc_law_rounds kV_law_rounds dc_law_rounds pm_law_rounds ct_law_rounds cd_law_rounds oc_law_told kV_law_told dc_law_told pm_law_told ct_law_told cd_law_told oc_law_spans kV_law_spans dc_law_spans pm_law_spans ct_law_spans cd_law_spans oc_law kV_law dc_law pm_law ct_law : Value}
    (z_n_abs : PySem.W.nsIn K mainGlobals "abs" = some none)
    (z_n_dict : PySem.W.nsIn K mainGlobals "dict" = some none)
    (z_n_int : PySem.W.nsIn K mainGlobals "int" = some none)
    (z_n_len : PySem.W.nsIn K mainGlobals "len" = some none)
    (z_n_list : PySem.W.nsIn K mainGlobals "list" = some none)
    (z_n_max : PySem.W.nsIn K mainGlobals "max" = some none)
    (z_n_min : PySem.W.nsIn K mainGlobals "min" = some none)
    (z_n_range : PySem.W.nsIn K mainGlobals "range" = some none)
    (z_n_sorted : PySem.W.nsIn K mainGlobals "sorted" = some none)
    (z_n_tuple : PySem.W.nsIn K mainGlobals "tuple" = some none)
    (z_g_JobError : PySem.W.nsIn K mainGlobals "JobError" = some (some (.ref JobError)))
    (x_JobError : PySem.W.excIn K JobError [.type "ValueError", .type "Exception", .type "BaseException", .type "object"] "ValueError.__new__" = true)
    (kc_JobError : PySem.W.keepIn K (.ref JobError) = true)
    (xb_JobError : PySem.W.subIn K (.ref JobError) (.type "BaseException") = some true)
    (xt_JobError : PySem.W.typeIn K (.ref JobError) = some (.type "type"))
    (ic_JobError : PySem.W.isClsIn K JobError = true)
    (ss_JobError : PySem.W.subIn K (.ref JobError) (.ref JobError) = some true)
    (z_g_Marks : PySem.W.nsIn K mainGlobals "Marks" = some (some (.ref Marks)))
    (pg_Marks : PySem.W.plainGet K Marks Str.empty = true)
    (hd_Marks : PySem.W.hasDictIn K Marks = true)
    (po_Marks : PySem.W.plainOver K Marks = true)
    (sa_Marks : PySem.W.findIn K (.ref Marks) "__setattr__" = some (some (.builtin "object.__setattr__")))
    (mk_Marks : PySem.W.makesIn K Marks = true)
    (at_f_Marks_init : PySem.W.findIn K (.ref Marks) "__init__" = some (some (.ref f_Marks_init)))
    (fn_f_Marks_init : PySem.W.isFn K (.ref f_Marks_init) = true)
    (kp_Marks : PySem.W.keepIn K (.ref Marks) = true)
    (na_Marks_marks : PySem.W.findIn K (.ref Marks) "marks" = some none)
    (na_Marks_idle : PySem.W.findIn K (.ref Marks) "idle" = some none)
    (na_Marks_now : PySem.W.findIn K (.ref Marks) "now" = some none)
    (at_f_Marks_tell : PySem.W.findIn K (.ref Marks) "tell" = some (some (.ref f_Marks_tell)))
    (fn_f_Marks_tell : PySem.W.isFn K (.ref f_Marks_tell) = true)
    (kp_f_Marks_tell : PySem.W.keepIn K (.ref f_Marks_tell) = true)
    (at_f_Marks_rest : PySem.W.findIn K (.ref Marks) "rest" = some (some (.ref f_Marks_rest)))
    (fn_f_Marks_rest : PySem.W.isFn K (.ref f_Marks_rest) = true)
    (kp_f_Marks_rest : PySem.W.keepIn K (.ref f_Marks_rest) = true)
    (at_f_Marks_time_now : PySem.W.findIn K (.ref Marks) "time_now" = some (some (.ref f_Marks_time_now)))
    (fn_f_Marks_time_now : PySem.W.isFn K (.ref f_Marks_time_now) = true)
    (kp_f_Marks_time_now : PySem.W.keepIn K (.ref f_Marks_time_now) = true)
    (z_g_Sessions : PySem.W.nsIn K mainGlobals "Sessions" = some (some (.ref Sessions)))
    (pg_Sessions : PySem.W.plainGet K Sessions Str.empty = true)
    (hd_Sessions : PySem.W.hasDictIn K Sessions = true)
    (po_Sessions : PySem.W.plainOver K Sessions = true)
    (sa_Sessions : PySem.W.findIn K (.ref Sessions) "__setattr__" = some (some (.builtin "object.__setattr__")))
    (mk_Sessions : PySem.W.makesIn K Sessions = true)
    (at_f_Sessions_init : PySem.W.findIn K (.ref Sessions) "__init__" = some (some (.ref f_Sessions_init)))
    (fn_f_Sessions_init : PySem.W.isFn K (.ref f_Sessions_init) = true)
    (kp_Sessions : PySem.W.keepIn K (.ref Sessions) = true)
    (na_Sessions_gap : PySem.W.findIn K (.ref Sessions) "gap" = some none)
    (at_f_Sessions_joined : PySem.W.findIn K (.ref Sessions) "joined" = some (some (.ref f_Sessions_joined)))
    (fn_f_Sessions_joined : PySem.W.isFn K (.ref f_Sessions_joined) = true)
    (kp_f_Sessions_joined : PySem.W.keepIn K (.ref f_Sessions_joined) = true)
    (z_g_Windows : PySem.W.nsIn K mainGlobals "Windows" = some (some (.ref Windows)))
    (pg_Windows : PySem.W.plainGet K Windows Str.empty = true)
    (hd_Windows : PySem.W.hasDictIn K Windows = true)
    (po_Windows : PySem.W.plainOver K Windows = true)
    (sa_Windows : PySem.W.findIn K (.ref Windows) "__setattr__" = some (some (.builtin "object.__setattr__")))
    (mk_Windows : PySem.W.makesIn K Windows = true)
    (at_f_Windows_init : PySem.W.findIn K (.ref Windows) "__init__" = some (some (.ref f_Windows_init)))
    (fn_f_Windows_init : PySem.W.isFn K (.ref f_Windows_init) = true)
    (kp_Windows : PySem.W.keepIn K (.ref Windows) = true)
    (na_Windows_length : PySem.W.findIn K (.ref Windows) "length" = some none)
    (na_Windows_step : PySem.W.findIn K (.ref Windows) "step" = some none)
    (at_f_Windows_around : PySem.W.findIn K (.ref Windows) "around" = some (some (.ref f_Windows_around)))
    (fn_f_Windows_around : PySem.W.isFn K (.ref f_Windows_around) = true)
    (kp_f_Windows_around : PySem.W.keepIn K (.ref f_Windows_around) = true)
    (l_Marks_time_now : K.lookup f_Marks_time_now = some ⟨oc_Marks_time_now, od_Marks_time_now, .func (PySem.W.fnOf "time_now" "Marks.time_now" (defArgs s_Marks_time_now) (defBody s_Marks_time_now) (defScope s_Marks_time_now) .none kV_Marks_time_now dc_Marks_time_now pm_Marks_time_now an_Marks_time_now cd_Marks_time_now ct_Marks_time_now), sl_Marks_time_now⟩)
    (c_Marks_time_now : PySem.W.codeIn K cd_Marks_time_now "Marks.time_now" = true)
    (l_Marks_init : K.lookup f_Marks_init = some ⟨oc_Marks_init, od_Marks_init, .func (PySem.W.fnOf "__init__" "Marks.__init__" (defArgs s_Marks_init) (defBody s_Marks_init) (defScope s_Marks_init) .none kV_Marks_init dc_Marks_init pm_Marks_init an_Marks_init cd_Marks_init ct_Marks_init), sl_Marks_init⟩)
    (c_Marks_init : PySem.W.codeIn K cd_Marks_init "Marks.__init__" = true)
    (kp_f_Marks_init : PySem.W.keepIn K (.ref f_Marks_init) = true)
    (l_Marks_tell : K.lookup f_Marks_tell = some ⟨oc_Marks_tell, od_Marks_tell, .func (PySem.W.fnOf "tell" "Marks.tell" (defArgs s_Marks_tell) (defBody s_Marks_tell) (defScope s_Marks_tell) .none kV_Marks_tell dc_Marks_tell pm_Marks_tell an_Marks_tell cd_Marks_tell ct_Marks_tell), sl_Marks_tell⟩)
    (c_Marks_tell : PySem.W.codeIn K cd_Marks_tell "Marks.tell" = true)
    (l_Marks_rest : K.lookup f_Marks_rest = some ⟨oc_Marks_rest, od_Marks_rest, .func (PySem.W.fnOf "rest" "Marks.rest" (defArgs s_Marks_rest) (defBody s_Marks_rest) (defScope s_Marks_rest) .none kV_Marks_rest dc_Marks_rest pm_Marks_rest an_Marks_rest cd_Marks_rest ct_Marks_rest), sl_Marks_rest⟩)
    (c_Marks_rest : PySem.W.codeIn K cd_Marks_rest "Marks.rest" = true)
    (l_Windows_init : K.lookup f_Windows_init = some ⟨oc_Windows_init, od_Windows_init, .func (PySem.W.fnOf "__init__" "Windows.__init__" (defArgs s_Windows_init) (defBody s_Windows_init) (defScope s_Windows_init) .none kV_Windows_init dc_Windows_init pm_Windows_init an_Windows_init cd_Windows_init ct_Windows_init), sl_Windows_init⟩)
    (c_Windows_init : PySem.W.codeIn K cd_Windows_init "Windows.__init__" = true)
    (kp_f_Windows_init : PySem.W.keepIn K (.ref f_Windows_init) = true)
    (l_Windows_around : K.lookup f_Windows_around = some ⟨oc_Windows_around, od_Windows_around, .func (PySem.W.fnOf "around" "Windows.around" (defArgs s_Windows_around) (defBody s_Windows_around) (defScope s_Windows_around) .none kV_Windows_around dc_Windows_around pm_Windows_around an_Windows_around cd_Windows_around ct_Windows_around), sl_Windows_around⟩)
    (c_Windows_around : PySem.W.codeIn K cd_Windows_around "Windows.around" = true)
    (l_Sessions_init : K.lookup f_Sessions_init = some ⟨oc_Sessions_init, od_Sessions_init, .func (PySem.W.fnOf "__init__" "Sessions.__init__" (defArgs s_Sessions_init) (defBody s_Sessions_init) (defScope s_Sessions_init) .none kV_Sessions_init dc_Sessions_init pm_Sessions_init an_Sessions_init cd_Sessions_init ct_Sessions_init), sl_Sessions_init⟩)
    (c_Sessions_init : PySem.W.codeIn K cd_Sessions_init "Sessions.__init__" = true)
    (kp_f_Sessions_init : PySem.W.keepIn K (.ref f_Sessions_init) = true)
    (l_Sessions_joined : K.lookup f_Sessions_joined = some ⟨oc_Sessions_joined, od_Sessions_joined, .func (PySem.W.fnOf "joined" "Sessions.joined" (defArgs s_Sessions_joined) (defBody s_Sessions_joined) (defScope s_Sessions_joined) .none kV_Sessions_joined dc_Sessions_joined pm_Sessions_joined an_Sessions_joined cd_Sessions_joined ct_Sessions_joined), sl_Sessions_joined⟩)
    (c_Sessions_joined : PySem.W.codeIn K cd_Sessions_joined "Sessions.joined" = true)
    (z_g_law_dice : PySem.W.nsIn K mainGlobals "_law_dice" = some (some (.ref f_law_dice)))
    (k_law_dice : PySem.W.keepIn K (.ref f_law_dice) = true)
    (l_law_dice : K.lookup f_law_dice = some ⟨oc_law_dice, od_law_dice, .func (PySem.W.fnOf "_law_dice" "_law_dice" (defArgs s_law_dice) (defBody s_law_dice) (defScope s_law_dice) .none kV_law_dice dc_law_dice pm_law_dice an_law_dice cd_law_dice ct_law_dice), sl_law_dice⟩)
    (c_law_dice : PySem.W.codeIn K cd_law_dice "_law_dice" = true)
    (z_g_law_roll : PySem.W.nsIn K mainGlobals "_law_roll" = some (some (.ref f_law_roll)))
    (k_law_roll : PySem.W.keepIn K (.ref f_law_roll) = true)
    (l_law_roll : K.lookup f_law_roll = some ⟨oc_law_roll, od_law_roll, .func (PySem.W.fnOf "_law_roll" "_law_roll" (defArgs s_law_roll) (defBody s_law_roll) (defScope s_law_roll) .none kV_law_roll dc_law_roll pm_law_roll an_law_roll cd_law_roll ct_law_roll), sl_law_roll⟩)
    (c_law_roll : PySem.W.codeIn K cd_law_roll "_law_roll" = true)
    (z_g_law_rounds : PySem.W.nsIn K mainGlobals "_law_rounds" = some (some (.ref f_law_rounds)))
    (k_law_rounds : PySem.W.keepIn K (.ref f_law_rounds) = true)
    (l_law_rounds : K.lookup f_law_rounds = some ⟨oc_law_rounds, od_law_rounds, .func (PySem.W.fnOf "_law_rounds" "_law_rounds" (defArgs s_law_rounds) (defBody s_law_rounds) (defScope s_law_rounds) .none kV_law_rounds dc_law_rounds pm_law_rounds an_law_rounds cd_law_rounds ct_law_rounds), sl_law_rounds⟩)
    (c_law_rounds : PySem.W.codeIn K cd_law_rounds "_law_rounds" = true)
    (z_g_law_told : PySem.W.nsIn K mainGlobals "_law_told" = some (some (.ref f_law_told)))
    (k_law_told : PySem.W.keepIn K (.ref f_law_told) = true)
    (l_law_told : K.lookup f_law_told = some ⟨oc_law_told, od_law_told, .func (PySem.W.fnOf "_law_told" "_law_told" (defArgs s_law_told) (defBody s_law_told) (defScope s_law_told) .none kV_law_told dc_law_told pm_law_told an_law_told cd_law_told ct_law_told), sl_law_told⟩)
    (c_law_told : PySem.W.codeIn K cd_law_told "_law_told" = true)
    (z_g_law_spans : PySem.W.nsIn K mainGlobals "_law_spans" = some (some (.ref f_law_spans)))
    (k_law_spans : PySem.W.keepIn K (.ref f_law_spans) = true)
    (l_law_spans : K.lookup f_law_spans = some ⟨oc_law_spans, od_law_spans, .func (PySem.W.fnOf "_law_spans" "_law_spans" (defArgs s_law_spans) (defBody s_law_spans) (defScope s_law_spans) .none kV_law_spans dc_law_spans pm_law_spans an_law_spans cd_law_spans ct_law_spans), sl_law_spans⟩)
    (c_law_spans : PySem.W.codeIn K cd_law_spans "_law_spans" = true)
    (z_law : PySem.W.nsIn K mainGlobals "law" = some (some (.ref f_law)))
    (l_law : K.lookup f_law = some ⟨oc_law, od_law, .func (PySem.W.fnOf "law" "law" (defArgs s_law) (defBody s_law) (defScope s_law) .none kV_law dc_law pm_law an_law (.ref c0) ct_law), sl_law⟩)
    (c_law : PySem.W.codeIn K (.ref c0) "law" = true)
    (kp_f_law : PySem.W.keepIn K (.ref f_law) = true)
    (hcd : PySem.W.codeHdIn K c0 P0 = true)
    (hnP : K.lookup P0 = none)
    : LamX.LawAtS l w K (L2.CX l.prog w) 8 63 "script" mg fa h := by
  have e : f_law = fa := by
    have z := hfa.symm.trans (PySem.W.mg_of X G z_law)
    cases z
    rfl
  subst e
  have F_Marks_time_now := fun_mk (st := s_Marks_time_now) l_Marks_time_now c_Marks_time_now kp_f_Marks_time_now
  have F_Marks_init := fun_mk (st := s_Marks_init) l_Marks_init c_Marks_init kp_f_Marks_init
  have F_Marks_tell := fun_mk (st := s_Marks_tell) l_Marks_tell c_Marks_tell kp_f_Marks_tell
  have F_Marks_rest := fun_mk (st := s_Marks_rest) l_Marks_rest c_Marks_rest kp_f_Marks_rest
  have F_Windows_init := fun_mk (st := s_Windows_init) l_Windows_init c_Windows_init kp_f_Windows_init
  have F_Windows_around := fun_mk (st := s_Windows_around) l_Windows_around c_Windows_around kp_f_Windows_around
  have F_Sessions_init := fun_mk (st := s_Sessions_init) l_Sessions_init c_Sessions_init kp_f_Sessions_init
  have F_Sessions_joined := fun_mk (st := s_Sessions_joined) l_Sessions_joined c_Sessions_joined kp_f_Sessions_joined
  have F_law_dice := fun_mk (st := s_law_dice) l_law_dice c_law_dice k_law_dice
  have F_law_roll := fun_mk (st := s_law_roll) l_law_roll c_law_roll k_law_roll
  have F_law_rounds := fun_mk (st := s_law_rounds) l_law_rounds c_law_rounds k_law_rounds
  have F_law_told := fun_mk (st := s_law_told) l_law_told c_law_told k_law_told
  have F_law_spans := fun_mk (st := s_law_spans) l_law_spans c_law_spans k_law_spans
  have F_law := fun_mk (st := s_law) l_law c_law kp_f_law
  have B_Marks_time_now := F_Marks_time_now.binds (ps := ["self"]) fun _ _ _ _ _ _ us hl => match us, hl with | [_], _ => rfl
  have B_Marks_init := F_Marks_init.binds (ps := ["self", "names"]) fun _ _ _ _ _ _ us hl => match us, hl with | [_, _], _ => rfl
  have B_Marks_tell := F_Marks_tell.binds (ps := ["self", "name", "time"]) fun _ _ _ _ _ _ us hl => match us, hl with | [_, _, _], _ => rfl
  have B_Marks_rest := F_Marks_rest.binds (ps := ["self", "name"]) fun _ _ _ _ _ _ us hl => match us, hl with | [_, _], _ => rfl
  have B_Windows_init := F_Windows_init.binds (ps := ["self", "length", "step"]) fun _ _ _ _ _ _ us hl => match us, hl with | [_, _, _], _ => rfl
  have B_Windows_around := F_Windows_around.binds (ps := ["self", "time"]) fun _ _ _ _ _ _ us hl => match us, hl with | [_, _], _ => rfl
  have B_Sessions_init := F_Sessions_init.binds (ps := ["self", "gap"]) fun _ _ _ _ _ _ us hl => match us, hl with | [_, _], _ => rfl
  have B_Sessions_joined := F_Sessions_joined.binds (ps := ["self", "spans", "time"]) fun _ _ _ _ _ _ us hl => match us, hl with | [_, _, _], _ => rfl
  have B_law_dice := F_law_dice.binds (ps := ["cell"]) fun _ _ _ _ _ _ us hl => match us, hl with | [_], _ => rfl
  have B_law_roll := F_law_roll.binds (ps := ["dice", "many"]) fun _ _ _ _ _ _ us hl => match us, hl with | [_, _], _ => rfl
  have B_law_rounds := F_law_rounds.binds (ps := ["script", "most"]) fun _ _ _ _ _ _ us hl => match us, hl with | [_, _], _ => rfl
  have B_law_told := F_law_told.binds (ps := ["what"]) fun _ _ _ _ _ _ us hl => match us, hl with | [_], _ => rfl
  have B_law_spans := F_law_spans.binds (ps := ["times", "gap"]) fun _ _ _ _ _ _ us hl => match us, hl with | [_, _], _ => rfl
  have B_law := F_law.binds (ps := ["script"]) fun _ _ _ _ _ _ us hl => match us, hl with | [_], _ => rfl
  let a : Ad := { JobError := JobError, Marks := Marks, Sessions := Sessions, Windows := Windows, f_Marks_time_now := f_Marks_time_now, d_Marks_time_now := PySem.W.fnOf "time_now" "Marks.time_now" (defArgs s_Marks_time_now) (defBody s_Marks_time_now) (defScope s_Marks_time_now) .none kV_Marks_time_now dc_Marks_time_now pm_Marks_time_now an_Marks_time_now cd_Marks_time_now ct_Marks_time_now, f_Marks_init := f_Marks_init, d_Marks_init := PySem.W.fnOf "__init__" "Marks.__init__" (defArgs s_Marks_init) (defBody s_Marks_init) (defScope s_Marks_init) .none kV_Marks_init dc_Marks_init pm_Marks_init an_Marks_init cd_Marks_init ct_Marks_init, f_Marks_tell := f_Marks_tell, d_Marks_tell := PySem.W.fnOf "tell" "Marks.tell" (defArgs s_Marks_tell) (defBody s_Marks_tell) (defScope s_Marks_tell) .none kV_Marks_tell dc_Marks_tell pm_Marks_tell an_Marks_tell cd_Marks_tell ct_Marks_tell, f_Marks_rest := f_Marks_rest, d_Marks_rest := PySem.W.fnOf "rest" "Marks.rest" (defArgs s_Marks_rest) (defBody s_Marks_rest) (defScope s_Marks_rest) .none kV_Marks_rest dc_Marks_rest pm_Marks_rest an_Marks_rest cd_Marks_rest ct_Marks_rest, f_Windows_init := f_Windows_init, d_Windows_init := PySem.W.fnOf "__init__" "Windows.__init__" (defArgs s_Windows_init) (defBody s_Windows_init) (defScope s_Windows_init) .none kV_Windows_init dc_Windows_init pm_Windows_init an_Windows_init cd_Windows_init ct_Windows_init, f_Windows_around := f_Windows_around, d_Windows_around := PySem.W.fnOf "around" "Windows.around" (defArgs s_Windows_around) (defBody s_Windows_around) (defScope s_Windows_around) .none kV_Windows_around dc_Windows_around pm_Windows_around an_Windows_around cd_Windows_around ct_Windows_around, f_Sessions_init := f_Sessions_init, d_Sessions_init := PySem.W.fnOf "__init__" "Sessions.__init__" (defArgs s_Sessions_init) (defBody s_Sessions_init) (defScope s_Sessions_init) .none kV_Sessions_init dc_Sessions_init pm_Sessions_init an_Sessions_init cd_Sessions_init ct_Sessions_init, f_Sessions_joined := f_Sessions_joined, d_Sessions_joined := PySem.W.fnOf "joined" "Sessions.joined" (defArgs s_Sessions_joined) (defBody s_Sessions_joined) (defScope s_Sessions_joined) .none kV_Sessions_joined dc_Sessions_joined pm_Sessions_joined an_Sessions_joined cd_Sessions_joined ct_Sessions_joined, f_law_dice := f_law_dice, d_law_dice := PySem.W.fnOf "_law_dice" "_law_dice" (defArgs s_law_dice) (defBody s_law_dice) (defScope s_law_dice) .none kV_law_dice dc_law_dice pm_law_dice an_law_dice cd_law_dice ct_law_dice, f_law_roll := f_law_roll, d_law_roll := PySem.W.fnOf "_law_roll" "_law_roll" (defArgs s_law_roll) (defBody s_law_roll) (defScope s_law_roll) .none kV_law_roll dc_law_roll pm_law_roll an_law_roll cd_law_roll ct_law_roll, f_law_rounds := f_law_rounds, d_law_rounds := PySem.W.fnOf "_law_rounds" "_law_rounds" (defArgs s_law_rounds) (defBody s_law_rounds) (defScope s_law_rounds) .none kV_law_rounds dc_law_rounds pm_law_rounds an_law_rounds cd_law_rounds ct_law_rounds, f_law_told := f_law_told, d_law_told := PySem.W.fnOf "_law_told" "_law_told" (defArgs s_law_told) (defBody s_law_told) (defScope s_law_told) .none kV_law_told dc_law_told pm_law_told an_law_told cd_law_told ct_law_told, f_law_spans := f_law_spans, d_law_spans := PySem.W.fnOf "_law_spans" "_law_spans" (defArgs s_law_spans) (defBody s_law_spans) (defScope s_law_spans) .none kV_law_spans dc_law_spans pm_law_spans an_law_spans cd_law_spans ct_law_spans, f_law := f_law, d_law := PySem.W.fnOf "law" "law" (defArgs s_law) (defBody s_law) (defScope s_law) .none kV_law dc_law pm_law an_law (.ref c0) ct_law }
  have T : Tx K mg a := {
    n_abs := PySem.W.mg_none_of X G z_n_abs,
    n_dict := PySem.W.mg_none_of X G z_n_dict,
    n_int := PySem.W.mg_none_of X G z_n_int,
    n_len := PySem.W.mg_none_of X G z_n_len,
    n_list := PySem.W.mg_none_of X G z_n_list,
    n_max := PySem.W.mg_none_of X G z_n_max,
    n_min := PySem.W.mg_none_of X G z_n_min,
    n_range := PySem.W.mg_none_of X G z_n_range,
    n_sorted := PySem.W.mg_none_of X G z_n_sorted,
    n_tuple := PySem.W.mg_none_of X G z_n_tuple,
    g_JobError := PySem.W.mg_of X G z_g_JobError,
    x_JobError := x_JobError,
    kc_JobError := kc_JobError,
    xb_JobError := xb_JobError,
    xt_JobError := xt_JobError,
    xm_JobError := exm_self xb_JobError ic_JobError xt_JobError ss_JobError,
    g_Marks := PySem.W.mg_of X G z_g_Marks,
    c_Marks := ⟨pg_Marks, hd_Marks, po_Marks, sa_Marks⟩,
    mk_Marks := ⟨mk_Marks, at_f_Marks_init, fn_f_Marks_init, kp_Marks⟩,
    na_Marks_marks := na_Marks_marks,
    na_Marks_idle := na_Marks_idle,
    na_Marks_now := na_Marks_now,
    m_Marks_tell := ⟨at_f_Marks_tell, fn_f_Marks_tell, kp_f_Marks_tell⟩,
    m_Marks_rest := ⟨at_f_Marks_rest, fn_f_Marks_rest, kp_f_Marks_rest⟩,
    m_Marks_time_now := ⟨at_f_Marks_time_now, fn_f_Marks_time_now, kp_f_Marks_time_now⟩,
    g_Sessions := PySem.W.mg_of X G z_g_Sessions,
    c_Sessions := ⟨pg_Sessions, hd_Sessions, po_Sessions, sa_Sessions⟩,
    mk_Sessions := ⟨mk_Sessions, at_f_Sessions_init, fn_f_Sessions_init, kp_Sessions⟩,
    na_Sessions_gap := na_Sessions_gap,
    m_Sessions_joined := ⟨at_f_Sessions_joined, fn_f_Sessions_joined, kp_f_Sessions_joined⟩,
    g_Windows := PySem.W.mg_of X G z_g_Windows,
    c_Windows := ⟨pg_Windows, hd_Windows, po_Windows, sa_Windows⟩,
    mk_Windows := ⟨mk_Windows, at_f_Windows_init, fn_f_Windows_init, kp_Windows⟩,
    na_Windows_length := na_Windows_length,
    na_Windows_step := na_Windows_step,
    m_Windows_around := ⟨at_f_Windows_around, fn_f_Windows_around, kp_f_Windows_around⟩,
    b_Marks_time_now := B_Marks_time_now,
    u_Marks_time_now := F_Marks_time_now,
    b_Marks_init := B_Marks_init,
    u_Marks_init := F_Marks_init,
    b_Marks_tell := B_Marks_tell,
    u_Marks_tell := F_Marks_tell,
    b_Marks_rest := B_Marks_rest,
    u_Marks_rest := F_Marks_rest,
    b_Windows_init := B_Windows_init,
    u_Windows_init := F_Windows_init,
    b_Windows_around := B_Windows_around,
    u_Windows_around := F_Windows_around,
    b_Sessions_init := B_Sessions_init,
    u_Sessions_init := F_Sessions_init,
    b_Sessions_joined := B_Sessions_joined,
    u_Sessions_joined := F_Sessions_joined,
    b_law_dice := B_law_dice,
    g_law_dice := PySem.W.mg_of X G z_g_law_dice,
    k_law_dice := k_law_dice,
    u_law_dice := F_law_dice,
    b_law_roll := B_law_roll,
    g_law_roll := PySem.W.mg_of X G z_g_law_roll,
    k_law_roll := k_law_roll,
    u_law_roll := F_law_roll,
    b_law_rounds := B_law_rounds,
    g_law_rounds := PySem.W.mg_of X G z_g_law_rounds,
    k_law_rounds := k_law_rounds,
    u_law_rounds := F_law_rounds,
    b_law_told := B_law_told,
    g_law_told := PySem.W.mg_of X G z_g_law_told,
    k_law_told := k_law_told,
    u_law_told := F_law_told,
    b_law_spans := B_law_spans,
    g_law_spans := PySem.W.mg_of X G z_g_law_spans,
    k_law_spans := k_law_spans,
    u_law_spans := F_law_spans,
    b_law := B_law,
    u_law := F_law }
  exact law_at T rfl (PySem.W.codeHd_of_K X hcd) hnP hP rfl fun s v => .of_eq rfl
end K08
open PySem PySem.W PyProof.Rows in
set_option maxRecDepth 100000 in
set_option maxHeartbeats 0 in
theorem PySem.Challenge.cw_streamstack_k08_times_and_windows_holds : PySem.Challenge.rw_streamstack_k08_times_and_windows.Holds := by
  w_on; o_law; k_head; (case hw => w_witness2)
  k_fill
  refine LamX.walk_ofTs (l := PySem.Challenge.rw_streamstack_k08_times_and_windows) (n := 63) (k := 8) (CX := fun w => L2.CX PySem.Challenge.rw_streamstack_k08_times_and_windows.prog w) (x := "script") rfl (by decide) rfl ⟨rfl, by decide, by decide⟩ (fun w h Y => PySem.W.km_in_of Y) ?F (fun w H s e s' z => let ⟨_, _, _, _, _, _, _, _, _, _, _, _, q⟩ := z; q)
  case F =>
    intro w mg fa h Y KX G hmg
    refine' K08.all_mk KX G hmg (PySem.W.km_tabs_of Y _ (List.Mem.head _)) ?z_n_abs ?z_n_dict ?z_n_int ?z_n_len ?z_n_list ?z_n_max ?z_n_min ?z_n_range ?z_n_sorted ?z_n_tuple ?z_g_JobError ?x_JobError ?kc_JobError ?xb_JobError ?xt_JobError ?ic_JobError ?ss_JobError ?z_g_Marks ?pg_Marks ?hd_Marks ?po_Marks ?sa_Marks ?mk_Marks ?at_f_Marks_init ?fn_f_Marks_init ?kp_Marks ?na_Marks_marks ?na_Marks_idle ?na_Marks_now ?at_f_Marks_tell ?fn_f_Marks_tell ?kp_f_Marks_tell ?at_f_Marks_rest ?fn_f_Marks_rest ?kp_f_Marks_rest ?at_f_Marks_time_now ?fn_f_Marks_time_now ?kp_f_Marks_time_now ?z_g_Sessions ?pg_Sessions ?hd_Sessions ?po_Sessions ?sa_Sessions ?mk_Sessions ?at_f_Sessions_init ?fn_f_Sessions_init ?kp_Sessions ?na_Sessions_gap ?at_f_Sessions_joined ?fn_f_Sessions_joined ?kp_f_Sessions_joined ?z_g_Windows ?pg_Windows ?hd_Windows ?po_Windows ?sa_Windows ?mk_Windows ?at_f_Windows_init ?fn_f_Windows_init ?kp_Windows ?na_Windows_length ?na_Windows_step ?at_f_Windows_around ?fn_f_Windows_around ?kp_f_Windows_around ?l_Marks_time_now ?c_Marks_time_now ?l_Marks_init ?c_Marks_init ?kp_f_Marks_init ?l_Marks_tell ?c_Marks_tell ?l_Marks_rest ?c_Marks_rest ?l_Windows_init ?c_Windows_init ?kp_f_Windows_init ?l_Windows_around ?c_Windows_around ?l_Sessions_init ?c_Sessions_init ?kp_f_Sessions_init ?l_Sessions_joined ?c_Sessions_joined ?z_g_law_dice ?k_law_dice ?l_law_dice ?c_law_dice ?z_g_law_roll ?k_law_roll ?l_law_roll ?c_law_roll ?z_g_law_rounds ?k_law_rounds ?l_law_rounds ?c_law_rounds ?z_g_law_told ?k_law_told ?l_law_told ?c_law_told ?z_g_law_spans ?k_law_spans ?l_law_spans ?c_law_spans ?z_law ?l_law ?c_law ?kp_f_law ?hcd ?hnP
    (case z_n_abs => k_is)
    (case z_n_dict => k_is)
    (case z_n_int => k_is)
    (case z_n_len => k_is)
    (case z_n_list => k_is)
    (case z_n_max => k_is)
    (case z_n_min => k_is)
    (case z_n_range => k_is)
    (case z_n_sorted => k_is)
    (case z_n_tuple => k_is)
    (case z_g_JobError => k_is)
    (case x_JobError => first | k_exc | kernel_rfl)
    (case kc_JobError => k_is)
    (case xb_JobError => k_is)
    (case xt_JobError => k_is)
    (case ic_JobError => k_is)
    (case ss_JobError => first | rfl | k_is)
    (case z_g_Marks => k_is)
    (case pg_Marks => k_is)
    (case hd_Marks => k_is)
    (case po_Marks => k_is)
    (case sa_Marks => k_is)
    (case mk_Marks => k_is)
    (case at_f_Marks_init => k_is)
    (case fn_f_Marks_init => k_is)
    (case kp_Marks => k_is)
    (case na_Marks_marks => k_is)
    (case na_Marks_idle => k_is)
    (case na_Marks_now => k_is)
    (case at_f_Marks_tell => k_is)
    (case fn_f_Marks_tell => k_is)
    (case kp_f_Marks_tell => k_is)
    (case at_f_Marks_rest => k_is)
    (case fn_f_Marks_rest => k_is)
    (case kp_f_Marks_rest => k_is)
    (case at_f_Marks_time_now => k_is)
    (case fn_f_Marks_time_now => k_is)
    (case kp_f_Marks_time_now => k_is)
    (case z_g_Sessions => k_is)
    (case pg_Sessions => k_is)
    (case hd_Sessions => k_is)
    (case po_Sessions => k_is)
    (case sa_Sessions => k_is)
    (case mk_Sessions => k_is)
    (case at_f_Sessions_init => k_is)
    (case fn_f_Sessions_init => k_is)
    (case kp_Sessions => k_is)
    (case na_Sessions_gap => k_is)
    (case at_f_Sessions_joined => k_is)
    (case fn_f_Sessions_joined => k_is)
    (case kp_f_Sessions_joined => k_is)
    (case z_g_Windows => k_is)
    (case pg_Windows => k_is)
    (case hd_Windows => k_is)
    (case po_Windows => k_is)
    (case sa_Windows => k_is)
    (case mk_Windows => k_is)
    (case at_f_Windows_init => k_is)
    (case fn_f_Windows_init => k_is)
    (case kp_Windows => k_is)
    (case na_Windows_length => k_is)
    (case na_Windows_step => k_is)
    (case at_f_Windows_around => k_is)
    (case fn_f_Windows_around => k_is)
    (case kp_f_Windows_around => k_is)
    (case l_Marks_time_now => k_is)
    (case c_Marks_time_now => k_is)
    (case l_Marks_init => k_is)
    (case c_Marks_init => k_is)
    (case kp_f_Marks_init => k_is)
    (case l_Marks_tell => k_is)
    (case c_Marks_tell => k_is)
    (case l_Marks_rest => k_is)
    (case c_Marks_rest => k_is)
    (case l_Windows_init => k_is)
    (case c_Windows_init => k_is)
    (case kp_f_Windows_init => k_is)
    (case l_Windows_around => k_is)
    (case c_Windows_around => k_is)
    (case l_Sessions_init => k_is)
    (case c_Sessions_init => k_is)
    (case kp_f_Sessions_init => k_is)
    (case l_Sessions_joined => k_is)
    (case c_Sessions_joined => k_is)
    (case z_g_law_dice => k_is)
    (case k_law_dice => k_is)
    (case l_law_dice => k_is)
    (case c_law_dice => k_is)
    (case z_g_law_roll => k_is)
    (case k_law_roll => k_is)
    (case l_law_roll => k_is)
    (case c_law_roll => k_is)
    (case z_g_law_rounds => k_is)
    (case k_law_rounds => k_is)
    (case l_law_rounds => k_is)
    (case c_law_rounds => k_is)
    (case z_g_law_told => k_is)
    (case k_law_told => k_is)
    (case l_law_told => k_is)
    (case c_law_told => k_is)
    (case z_g_law_spans => k_is)
    (case k_law_spans => k_is)
    (case l_law_spans => k_is)
    (case c_law_spans => k_is)
    (case z_law => k_is)
    (case l_law => k_is)
    (case c_law => k_is)
    (case kp_f_law => k_is)
    (case hcd => first | kernel_rfl | rfl | decide +kernel)
    (case hnP => first | kernel_rfl | rfl | decide +kernel)
