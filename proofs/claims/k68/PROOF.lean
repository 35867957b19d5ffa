import PyProof.Rows.All
import Wide.All
import OpenK.AllK
import Wide.FinOn
import HandS.ForMost
import HandS.Flow
import HandS.Defaults
import HandS.Walk
import HandS.IsInst
import HandS.Strs
import HandS.Style
import HandS.Deep
import HandS.Steps
import HandS.HeadHook4
import HandS.Head0
import HandS.Head1
import HandS.Head2
import HandS.HeadEnd
import HandS.HeadHook1
import HandS.HeadHook2
import HandS.HeadHook3
import HandS.ExcInit
import HandS.ExcOwn
import HandS.ExcField
import HandS.ExcIs
import HandS.TryOnly
import HandS.ClsMeth
import HandS.Small
import HandS.Iter
import HandS.Dict
import HandS.DictTup
import HandS.DictComp
import HandS.Conv
import KE.GoesMore
import KE.GoesEnum
import KE.GoesZip
import KE.SortData
import KE.KDictCopyH
import KE.KDictPairs
import HandS.SetBool
import HandS.SortKw
import KE.DataMinMax
import PyProof.CollectIter
import HandS.NoneIn
import PyProof.ListIndex
import PyProof.ListStr
import HandS.WordsExc
import PyProof.ReprRoads
import PyProof.ReprBulk
import PySem.Challenge.RW_cellscript_k68_whole_search_has_all
set_option Elab.async false
set_option linter.all false
set_option autoImplicit false
set_option maxRecDepth 100000
set_option maxHeartbeats 4000000
/-! The layer, part A: the frozen part of the heap, entries, canonical readings. -/
namespace Cs
open PySem PySem.Spec PyProof.Rows L2

/-! ### weakening of derivations -/
section
variable {X : Cx}
theorem peI {e : Expr} {t t' : TE} (h : PE X e t) (i : ∀ σ H Q, t' σ H Q → t σ H Q) : PE X e t' := ⟨fun pins s σ H Q I q => h.run pins s σ H Q I (i σ H Q q)⟩
theorem ptI {e : Expr} {t t' : TT} (h : PT X e t) (i : ∀ σ H Q, t' σ H Q → t σ H Q) : PT X e t' := ⟨fun pins s σ H Q I q => h.run pins s σ H Q I (i σ H Q q)⟩
theorem ptsI {es : List Expr} {t t' : TT} (h : PTs X es t) (i : ∀ σ H Q, t' σ H Q → t σ H Q) : PTs X es t' := ⟨fun pins s σ H Q I q => h.run pins s σ H Q I (i σ H Q q)⟩
theorem paI {es : List Expr} {t t' : TA} (h : PA X es t) (i : ∀ σ H Q, t' σ H Q → t σ H Q) : PA X es t' := ⟨fun pos pins s σ H Q I q => h.run pos pins s σ H Q I (i σ H Q q)⟩
theorem psI {st : Stmt} {t t' : TS} (h : PS X st t) (i : ∀ D σ H, t' D σ H → t D σ H) : PS X st t' := ⟨fun pins s σ H D I q => h.run pins s σ H D I (i D σ H q)⟩
theorem pssI {st : List Stmt} {t t' : TS} (h : PSs X st t) (i : ∀ D σ H, t' D σ H → t D σ H) : PSs X st t' := ⟨fun pins s σ H D I q => h.run pins s σ H D I (i D σ H q)⟩
theorem pgI {tg : Expr} {t t' : TG} (h : PG X tg t) (i : ∀ v σ H Q, t' v σ H Q → t v σ H Q) : PG X tg t' := ⟨fun pins s σ H v u Q I r q => h.run pins s σ H v u Q I r (i v σ H Q q)⟩
end

/-! ### the order of heaps -/
abbrev Lk (G G' : Hp) : Prop := Same G G'
theorem Lk.refl (G : Hp) : Lk G G := fun _ _ h => h
theorem Lk.trans {A B C : Hp} (h : Lk A B) (k : Lk B C) : Lk A C := fun a o e => k a o (h a o e)
theorem Lk.same {A B : Hp} (h : Same A B) : Lk A B := h
theorem Lk.at_ {A B : Hp} (h : Lk A B) {a : Addr} {o : HO} (e : A a = some o) : B a = some o := h a o e
theorem Lk.lst {K : PySem.W.Frag} {A B : Hp} (h : Lk A B) {a : Addr} {xs : List V} (e : SqL K A a xs) : SqL K B a xs := by
  rcases e with (e | ⟨o, e⟩) | e
  · exact .inl (.inl (h.at_ e))
  · exact .inl (.inr ⟨o, h.at_ e⟩)
  · exact .inr e
theorem Lk.tup {K : PySem.W.Frag} {A B : Hp} (h : Lk A B) {a : Addr} {xs : List V} (e : SqT K A a xs) : SqT K B a xs := by
  rcases e with (e | ⟨o, e⟩) | e
  · exact .inl (.inl (h.at_ e))
  · exact .inl (.inr ⟨o, h.at_ e⟩)
  · exact .inr e
mutual
theorem Lk.dat {K : PySem.W.Frag} {A B : Hp} (h : Lk A B) : ∀ {v : V} {d : PyData}, Dp K A v d → Dp K B v d
  | _, _, .non => .non
  | _, _, .bl b => .bl b
  | _, _, .int i => .int i
  | _, _, .str x => .str x
  | _, _, .lst e r => .lst (h.lst e) (h.datAll r)
  | _, _, .tup e r => .tup (h.tup e) (h.datAll r)
theorem Lk.datAll {K : PySem.W.Frag} {A B : Hp} (h : Lk A B) : ∀ {vs : List V} {ds : List PyData}, DpAll K A vs ds → DpAll K B vs ds
  | _, _, .nil => .nil
  | _, _, .cons r t => .cons (h.dat r) (h.datAll t)
end

/-! ### entries -/
abbrev T := Hp → V → Prop
def up (t : T) : T := fun G v => ∀ G', Lk G G' → t G' v
theorem up.lk {t : T} {G G' : Hp} {v : V} (h : up t G v) (l : Lk G G') : up t G' v := fun G2 l2 => h G2 (l.trans l2)
theorem up.now {t : T} {G : Hp} {v : V} (h : up t G v) : t G v := h G (Lk.refl G)
abbrev OwnP := Addr → Hp → HO → Prop
/-- what a name holds: a thing that stands still; a thing of one's own (a new list or dict that is changed); the law's bag -/
inductive Ent where
  | fro (t : T)
  | own (o : Addr → Hp → HO → Prop)
  | bag
/-- data -/
def dat (K : PySem.W.Frag) (d : PyData) : T := fun G v => Dp K G v d
abbrev Dt (K : PySem.W.Frag) (d : PyData) : Ent := .fro (dat K d)
theorem up_dat {K : PySem.W.Frag} {d : PyData} {G : Hp} {v : V} (h : Dp K G v d) : up (dat K d) G v := fun _ l => l.dat h
/-- the bag: [a number, a number, a number, a list of numbers] -/
def BagOk (K : PySem.W.Frag) (G H : Hp) (b : Addr) : Prop := G b = none ∧ ∃ (x y z : Int) (c : Addr) (ns : List Int), H b = some (.lst [.int x, .int y, .int z, .ref c]) ∧ SqL K G c (ns.map V.int) ∧ 0 ≤ x ∧ 0 ≤ y ∧ 0 ≤ z ∧ (∀ n ∈ ns, 0 ≤ n)
def Frm (K : PySem.W.Frag) (W : Option Addr) (G H : Hp) : Prop := Same G H ∧ ∀ b, W = some b → BagOk K G H b
structure Step (K : PySem.W.Frag) (W : Option Addr) (G H G' H' : Hp) : Prop where
  keep : ∀ a o, H a = some o → W ≠ some a → H' a = some o
  gro : Same G G'
  new : ∀ a o, G a = none → G' a = some o → H a = none ∨ ∃ xs, H a = some (.tup xs)
  frm : Frm K W G' H'
  bagS : ∀ b o, W = some b → H b = some o → ∃ o', H' b = some o'
section
variable {K : PySem.W.Frag} {W : Option Addr} {G H G' H' G2 H2 H0 : Hp}
theorem Step.refl (f : Frm K W G H) : Step K W G H G H :=
  ⟨fun _ _ e _ => e, Same.refl _, (fun _ _ e e' => by rw [e] at e'; cases e'), f, fun _ o _ e => ⟨o, e⟩⟩
theorem Step.there (s : Step K W G H G' H') {a : Addr} {o : HO} (e : H a = some o) : ∃ o', H' a = some o' := by
  by_cases h : W = some a
  · exact s.bagS a o h e
  · exact ⟨o, s.keep a o e h⟩
theorem Step.free (s : Step K W G H G' H') {a : Addr} (e : H' a = none) : H a = none := by
  cases q : H a with
  | none => rfl
  | some o =>
    obtain ⟨o', e'⟩ := s.there q
    rw [e] at e'
    cases e'
theorem Step.trans (s : Step K W G H G' H') (t : Step K W G' H' G2 H2) : Step K W G H G2 H2 where
  keep := fun a o e n => t.keep a o (s.keep a o e n) n
  gro := s.gro.trans t.gro
  new := fun a o e e' => by
    cases q : G' a with
    | none =>
      rcases t.new a o q e' with z | ⟨xs, z⟩
      · exact .inl (s.free z)
      · cases y : H a with
        | none => exact .inl rfl
        | some u =>
          by_cases hb : W = some a
          · obtain ⟨_, _, _, _, _, _, e2, _⟩ := s.frm.2 a hb
            rw [z] at e2
            cases e2
          · have e3 := s.keep a u y hb
            rw [z] at e3
            cases e3
            exact .inr ⟨xs, rfl⟩
    | some o1 => exact s.new a o1 e q
  frm := t.frm
  bagS := fun b o h e => by
    obtain ⟨o1, e1⟩ := s.bagS b o h e
    exact t.bagS b o1 h e1
/-- the entry's frozen part taken anew -/
theorem Step.re {G0 H0 : Hp} (s : Step K W G0 H0 G H) : Step K W G H0 G H := ⟨s.keep, Same.refl _, (fun _ _ e e' => by rw [e] at e'; cases e'), s.frm, s.bagS⟩
theorem Step.cat {G0 H0 : Hp} (s : Step K W G0 H0 G H) (t : Step K W G H0 G' H') : Step K W G0 H0 G' H' := ⟨t.keep, s.gro.trans t.gro, (fun a o e e' => by
  cases q : G a with
  | none => exact t.new a o q e'
  | some u => exact s.new a u e q), t.frm, t.bagS⟩
theorem Frm.free (f : Frm K W G H) {p : Addr} (hp : H p = none) : G p = none := f.1.free hp
theorem Frm.neB (f : Frm K W G H) {p : Addr} (hp : H p = none) : W ≠ some p := fun e => by
  obtain ⟨_, _, _, _, _, _, e2, _⟩ := f.2 p e
  rw [hp] at e2
  cases e2
theorem BagOk.grow {b p : Addr} {o : HO} (h : BagOk K G H b) (hp : H p = none) (gp : G p = none) : BagOk K (upd G p o) (upd H p o) b := by
  obtain ⟨h1, x, y, z, c, ns, h2, h3, h4⟩ := h
  have ne : b ≠ p := ne_of_none h2 hp
  have sm : Same G (upd G p o) := fun a u e => by rw [upd_ne (ne_of_none e gp)]; exact e
  exact ⟨by rw [upd_ne ne]; exact h1, x, y, z, c, ns, by rw [upd_ne ne]; exact h2, sm.seq h3, h4⟩
theorem same_new {A : Hp} {p : Addr} {o : HO} (h : A p = none) : Same A (upd A p o) := fun a u e => by rw [upd_ne (ne_of_none e h)]; exact e
/-- a new thing, laid among what stands still -/
theorem Step.lay (f : Frm K W G H) {p : Addr} {o : HO} (hp : H p = none) : Step K W G H (upd G p o) (upd H p o) where
  keep := fun a u e _ => by rw [upd_ne (ne_of_none e hp)]; exact e
  gro := same_new (f.free hp)
  new := fun a u e e' => by
    by_cases q : a = p
    · subst q; exact .inl hp
    · rw [upd_ne q, e] at e'; cases e'
  frm := by
    refine ⟨fun a u e => ?_, fun b hb => (f.2 b hb).grow hp (f.free hp)⟩
    by_cases q : a = p
    · subst q; rw [upd_same] at e ⊢; exact e
    · rw [upd_ne q] at e ⊢; exact f.1 a u e
  bagS := fun b u _ e => ⟨u, by rw [upd_ne (ne_of_none e hp)]; exact e⟩
/-- a new thing, one's own -/
theorem Step.mine (f : Frm K W G H) {p : Addr} {o : HO} (hp : H p = none) : Step K W G H G (upd H p o) where
  keep := fun a u e _ => by rw [upd_ne (ne_of_none e hp)]; exact e
  gro := Same.refl _
  new := fun a u e e' => by rw [e] at e'; cases e'
  frm := by
    refine ⟨fun a u e => by rw [upd_ne (ne_of_none (f.1 a u e) hp)]; exact f.1 a u e, fun b hb => ?_⟩
    obtain ⟨h1, x, y, z, c, ns, h2, h3⟩ := f.2 b hb
    exact ⟨h1, x, y, z, c, ns, by rw [upd_ne (ne_of_none h2 hp)]; exact h2, h3⟩
  bagS := fun b u _ e => ⟨u, by rw [upd_ne (ne_of_none e hp)]; exact e⟩
/-- one's own thing changed -/
theorem Step.chg {G0 H0 : Hp} (s : Step K W G0 H0 G H) {p : Addr} {o : HO} (h0 : H0 p = none) (gp : G p = none) (w : W ≠ some p) : Step K W G0 H0 G (upd H p o) where
  keep := fun a u e n => by rw [upd_ne (ne_of_none e h0)]; exact s.keep a u e n
  gro := s.gro
  new := s.new
  frm := by
    refine ⟨fun a u e => by rw [upd_ne (ne_of_none e gp)]; exact s.frm.1 a u e, fun b hb => ?_⟩
    obtain ⟨h1, x, y, z, c, ns, h2, h3⟩ := s.frm.2 b hb
    have ne : b ≠ p := fun e => w (e ▸ hb)
    exact ⟨h1, x, y, z, c, ns, by rw [upd_ne ne]; exact h2, h3⟩
  bagS := fun b u hb e => by
    obtain ⟨o', e'⟩ := s.bagS b u hb e
    have ne : b ≠ p := fun q => w (q ▸ hb)
    exact ⟨o', by rw [upd_ne ne]; exact e'⟩
/-- one's own thing is left among what stands still -/
theorem Step.still {G0 H0 : Hp} (s : Step K W G0 H0 G H) {p : Addr} {o : HO} (h0 : H0 p = none) (gp : G p = none) (hp : H p = some o) (w : W ≠ some p) : Step K W G0 H0 (upd G p o) H where
  keep := s.keep
  gro := fun a u e => same_new gp a u (s.gro a u e)
  new := fun a u e e' => by
    by_cases q : a = p
    · subst q; exact .inl h0
    · rw [upd_ne q] at e'; exact s.new a u e e'
  frm := by
    refine ⟨fun a u e => ?_, fun b hb => ?_⟩
    · by_cases q : a = p
      · subst q; rw [upd_same] at e; cases e; exact hp
      · rw [upd_ne q] at e; exact s.frm.1 a u e
    · obtain ⟨h1, x, y, z, c, ns, h2, h3, h4⟩ := s.frm.2 b hb
      have ne : b ≠ p := fun q => w (q ▸ hb)
      exact ⟨by rw [upd_ne ne]; exact h1, x, y, z, c, ns, h2, (same_new gp).seq h3, h4⟩
  bagS := s.bagS
end

def Nw (W : Option Addr) (p : Addr) (ho : HO) : Prop := W ≠ some p ∧ Mut (some ho)
/-- v is what the entry says; H0: what stood when the thing wasn't there yet -/
def EntOk (W : Option Addr) (H0 G H : Hp) (v : V) : Ent → Prop
  | .fro t => up t G v
  | .own o => ∃ p ho, v = .ref p ∧ H0 p = none ∧ G p = none ∧ H p = some ho ∧ Nw W p ho ∧ ∀ G', Lk G G' → o p G' ho
  | .bag => ∃ b, v = .ref b ∧ W = some b
def notOwn : Ent → Prop
  | .own _ => False
  | _ => True
section
variable {K : PySem.W.Frag} {W : Option Addr} {G H G' H' G2 H2 H0 H1 : Hp} {v : V} {e : Ent}
theorem EntOk.step (h : EntOk W H0 G H v e) (s : Step K W G H G' H') : EntOk W H0 G' H' v e := by
  cases e with
  | fro t => exact up.lk h (Lk.same s.gro)
  | own o =>
    obtain ⟨p, ho, h1, h2, h3, h4, h5, h6⟩ := h
    refine ⟨p, ho, h1, h2, ?_, s.keep p ho h4 h5.1, h5, fun G' l => h6 G' ((Lk.same s.gro).trans l)⟩
    cases q : G' p with
    | none => rfl
    | some u =>
      rcases s.new p u h3 q with z | ⟨xs, z⟩
      · rw [h4] at z
        cases z
      · rw [h4] at z
        cases z
        exact h5.2.elim
  | bag => exact h
theorem EntOk.back (h : EntOk W H1 G H v e) (b : ∀ a, H1 a = none → H0 a = none) : EntOk W H0 G H v e := by
  cases e with
  | fro t => exact h
  | own o =>
    obtain ⟨p, ho, h1, h2, h3⟩ := h
    exact ⟨p, ho, h1, b p h2, h3⟩
  | bag => exact h
theorem EntOk.any (h : EntOk W H0 G H v e) (n : notOwn e) : EntOk W H1 G H v e := by
  cases e with
  | fro t => exact h
  | own o => exact n.elim
  | bag => exact h
end
def EntsOk (W : Option Addr) (H0 G H : Hp) : List V → List Ent → Prop
  | [], [] => True
  | v :: vs, e :: es => EntOk W H0 G H v e ∧ EntsOk W H0 G H vs es
  | _, _ => False
abbrev En := List (Option Ent)
structure EnvOk (W : Option Addr) (H0 G H : Hp) (σ : L2.St) (Γ : En) : Prop where
  len : σ.length = Γ.length
  at_ : ∀ (i : Nat) (e : Ent), Γ[i]? = some (some e) → ∃ v, σ[i]? = some (some v) ∧ EntOk W H0 G H v e
  sep : ∀ (i j : Nat) (o o' : Addr → Hp → HO → Prop) (p : Addr), Γ[i]? = some (some (.own o)) → Γ[j]? = some (some (.own o')) → σ[i]? = some (some (.ref p)) → σ[j]? = some (some (.ref p)) → i = j
section
variable {K : PySem.W.Frag} {W : Option Addr} {G H G' H' G2 H2 H0 H1 : Hp} {v : V} {e : Ent} {es : List Ent} {vs : List V} {σ : L2.St} {Γ : En}
theorem EntsOk.step : ∀ {vs : List V} {es : List Ent}, EntsOk W H0 G H vs es → Step K W G H G' H' → EntsOk W H0 G' H' vs es
  | [], [], _, _ => trivial
  | _ :: _, _ :: _, h, s => ⟨h.1.step s, EntsOk.step h.2 s⟩
  | [], _ :: _, h, _ => h.elim
  | _ :: _, [], h, _ => h.elim
theorem EntsOk.back : ∀ {vs : List V} {es : List Ent}, EntsOk W H1 G H vs es → (∀ a, H1 a = none → H0 a = none) → EntsOk W H0 G H vs es
  | [], [], _, _ => trivial
  | _ :: _, _ :: _, h, s => ⟨h.1.back s, EntsOk.back h.2 s⟩
  | [], _ :: _, h, _ => h.elim
  | _ :: _, [], h, _ => h.elim
theorem EntsOk.length : ∀ {vs : List V} {es : List Ent}, EntsOk W H0 G H vs es → vs.length = es.length
  | [], [], _ => rfl
  | _ :: _, _ :: _, h => congrArg Nat.succ (EntsOk.length h.2)
  | [], _ :: _, h => h.elim
  | _ :: _, [], h => h.elim
theorem EnvOk.step (h : EnvOk W H0 G H σ Γ) (s : Step K W G H G' H') : EnvOk W H0 G' H' σ Γ :=
  ⟨h.len, fun i e g => let ⟨v, a, b⟩ := h.at_ i e g; ⟨v, a, b.step s⟩, h.sep⟩
/-- a name is given a new thing -/
theorem EnvOk.put2 (h : EnvOk W H0 G H σ Γ) (s : Step K W G H G' H') (f : EntOk W H G' H' v e) (f0 : EntOk W H0 G' H' v e) (i : Nat) : EnvOk W H0 G' H' (σ.set i (some v)) (Γ.set i (some e)) := by
  have h' := h.step s
  refine ⟨by rw [List.length_set, List.length_set]; exact h.len, fun j e1 g => ?_, fun j k o o' p g1 g2 g3 g4 => ?_⟩
  · by_cases q : i = j
    · subst q
      by_cases lt : i < Γ.length
      · rw [List.getElem?_set_self lt] at g
        cases g
        exact ⟨v, by rw [List.getElem?_set_self (by rw [h.len]; exact lt)], f0⟩
      · rw [List.getElem?_eq_none (by rw [List.length_set]; omega)] at g
        cases g
    · rw [List.getElem?_set_ne q] at g
      obtain ⟨u, a, c⟩ := h'.at_ j e1 g
      exact ⟨u, by rw [List.getElem?_set_ne q]; exact a, c⟩
  · have fresh : ∀ (m : Nat) (o : Addr → Hp → HO → Prop) (p : Addr), i ≠ m → Γ[m]? = some (some (.own o)) → σ[m]? = some (some (.ref p)) → ∀ o1, e = .own o1 → v ≠ .ref p := fun m o p ne e1 e2 o1 e3 e4 => by
      subst e3
      subst e4
      obtain ⟨u, a, pp, ho, c1, c2, c3, c4, _⟩ := h.at_ m _ e1
      rw [e2] at a
      cases a
      cases c1
      obtain ⟨p2, ho2, d1, d2, _⟩ := f
      cases d1
      rw [d2] at c4
      cases c4
    by_cases q1 : i = j
    · by_cases q2 : i = k
      · omega
      · exfalso
        subst q1
        have lt : i < Γ.length := by
          rcases Nat.lt_or_ge i Γ.length with l | l
          · exact l
          · rw [List.getElem?_eq_none (by rw [List.length_set]; exact l)] at g1; cases g1
        rw [List.getElem?_set_self lt] at g1
        rw [List.getElem?_set_self (by rw [h.len]; exact lt)] at g3
        rw [List.getElem?_set_ne q2] at g2 g4
        cases g1
        exact fresh k o' p q2 g2 g4 _ rfl (Option.some.inj (Option.some.inj g3))
    · by_cases q2 : i = k
      · exfalso
        subst q2
        have lt : i < Γ.length := by
          rcases Nat.lt_or_ge i Γ.length with l | l
          · exact l
          · rw [List.getElem?_eq_none (by rw [List.length_set]; exact l)] at g2; cases g2
        rw [List.getElem?_set_self lt] at g2
        rw [List.getElem?_set_self (by rw [h.len]; exact lt)] at g4
        rw [List.getElem?_set_ne q1] at g1 g3
        cases g2
        exact fresh j o p q1 g1 g3 _ rfl (Option.some.inj (Option.some.inj g4))
      · rw [List.getElem?_set_ne q1] at g1 g3
        rw [List.getElem?_set_ne q2] at g2 g4
        exact h.sep j k o o' p g1 g2 g3 g4
theorem EnvOk.put (h : EnvOk W H0 G H σ Γ) (s : Step K W G H G' H') (f : EntOk W H G' H' v e) (b : ∀ a, H a = none → H0 a = none) (i : Nat) : EnvOk W H0 G' H' (σ.set i (some v)) (Γ.set i (some e)) := h.put2 s f (f.back b) i
theorem EnvOk.putF {t : T} (h : EnvOk W H0 G H σ Γ) (f : Frm K W G H) (q : up t G v) (i : Nat) : EnvOk W H0 G H (σ.set i (some v)) (Γ.set i (some (.fro t))) := h.put2 (e := .fro t) (Step.refl f) q q i
end

/-! ### canonical readings -/
def cE (K : PySem.W.Frag) (W : Option Addr) (Γ : En) (e : Ent) : TE := fun σ H Q => ∃ H0 G, Frm K W G H ∧ EnvOk W H0 G H σ Γ ∧ ∀ v H' G', Step K W G H G' H' → EntOk W H G' H' v e → Q v H'
def cT (K : PySem.W.Frag) (W : Option Addr) (Γ : En) (B : Bool → Prop) : TT := fun σ H Q => ∃ H0 G, Frm K W G H ∧ EnvOk W H0 G H σ Γ ∧ ∀ b H' G', Step K W G H G' H' → B b → Q b H'
def cA (K : PySem.W.Frag) (W : Option Addr) (Γ : En) (es : List Ent) : TA := fun σ H Q => ∃ H0 G, Frm K W G H ∧ EnvOk W H0 G H σ Γ ∧ ∀ vs H' G', Step K W G H G' H' → EntsOk W H G' H' vs es → Q vs H'
def cAd (K : PySem.W.Frag) (W : Option Addr) (Γ : En) (ds : List PyData) : TA := fun σ H Q => ∃ H0 G, Frm K W G H ∧ EnvOk W H0 G H σ Γ ∧ ∀ vs H' G', Step K W G H G' H' → DpAll K G' vs ds → Q vs H'
abbrev Ev (X : Cx) (K : PySem.W.Frag) (W : Option Addr) (Γ : En) (x : Expr) (e : Ent) : Prop := PE X x (cE K W Γ e)
abbrev Tst (X : Cx) (K : PySem.W.Frag) (W : Option Addr) (Γ : En) (x : Expr) (B : Bool → Prop) : Prop := PT X x (cT K W Γ B)
abbrev Ea (X : Cx) (K : PySem.W.Frag) (W : Option Addr) (Γ : En) (xs : List Expr) (es : List Ent) : Prop := PA X xs (cA K W Γ es)
abbrev Ead (X : Cx) (K : PySem.W.Frag) (W : Option Addr) (Γ : En) (xs : List Expr) (ds : List PyData) : Prop := PA X xs (cAd K W Γ ds)
/-- what stands at a statement: slots, heap, frozen part, entry -/
abbrev As := Hp → Hp → Hp → L2.St → Prop
abbrev envA (W : Option Addr) (Γ : En) : As := fun H0 G H σ => EnvOk W H0 G H σ Γ
def noA : As := fun _ _ _ _ => False
def cS (K : PySem.W.Frag) (W : Option Addr) (A N B C : As) (R : Ent) : TS := fun D σ H => ∃ H0 G0 G, Step K W G0 H0 G H ∧ A H0 G H σ ∧
  (∀ σ' H' G', Step K W G0 H0 G' H' → N H0 G' H' σ' → D.nx σ' H') ∧ (∀ v H' G', Step K W G0 H0 G' H' → EntOk W H0 G' H' v R → D.rt v H') ∧
  (∀ σ' H' G', Step K W G0 H0 G' H' → B H0 G' H' σ' → D.bk σ' H') ∧ (∀ σ' H' G', Step K W G0 H0 G' H' → C H0 G' H' σ' → D.ct σ' H')
abbrev Sr (X : Cx) (K : PySem.W.Frag) (W : Option Addr) (st : Stmt) (A N B C : As) (R : Ent) : Prop := PS X st (cS K W A N B C R)
abbrev Srs (X : Cx) (K : PySem.W.Frag) (W : Option Addr) (st : List Stmt) (A N B C : As) (R : Ent) : Prop := PSs X st (cS K W A N B C R)
end Cs

set_option Elab.async false
set_option linter.all false
set_option autoImplicit false
set_option maxRecDepth 100000
set_option maxHeartbeats 4000000
/-! The layer, part B: expressions. -/
namespace Cs
open PySem PySem.Spec PyProof.Rows L2

/-- what holds of the context in a def's body (and in the blocks within) -/
structure Cok (P : Program) (w : World) (K : PySem.W.Frag) (mg : Str → Option Value) (base : Heap) (k : Nat) (X : Cx) : Prop where
  hP : X.prog = P
  hw : X.w = w
  hK : X.K = K
  hmg : X.mg = mg
  hb : X.base = base
  hr : Room k X.A
  hc : X.calm = true
  hN : X.N.Nodup
theorem Cok.blk {P : Program} {w : World} {K : PySem.W.Frag} {mg : Str → Option Value} {base : Heap} {k : Nat} {X : Cx} (c : Cok P w K mg base k X) {s : Shared} {H : Hp} {scope : Scope} {cenv : Env} {fp : List Addr} : Cok P w K mg base k (X.blk s H scope cenv fp) :=
  ⟨c.hP, c.hw, c.hK, c.hmg, c.hb, c.hr, c.hc, c.hN⟩

def txt (l : List Nat) : Str := ⟨l.toArray⟩
theorem txt_list (l : List Nat) : (txt l).cps.toList = l := by simp [txt]
theorem txt_len (l : List Nat) : (txt l).length = l.length := by simp [txt, Str.length]
theorem txt_inj {l m : List Nat} (h : txt l = txt m) : l = m := by rw [← txt_list l, h, txt_list]

section
variable {P : Program} {w : World} {K : PySem.W.Frag} {mg : Str → Option Value} {base : Heap} {k : Nat} {X : Cx} {W : Option Addr} {Γ : En} {a b : Expr} {e e1 e2 : Ent} {d d1 d2 : PyData} {pos : Pos} {G H H0 : Hp} {v : V}

/-! ### data read off -/
theorem dt_int {i : Int} (h : EntOk W H0 G H v (Dt K (.int i))) : v = .int i := by cases (up.now h : Dp K G v (.int i)); rfl
theorem dt_bool {i : Bool} (h : EntOk W H0 G H v (Dt K (.bool i))) : v = .bl i := by cases (up.now h : Dp K G v (.bool i)); rfl
theorem dt_str {i : Str} (h : EntOk W H0 G H v (Dt K (.str i))) : v = .str i := by cases (up.now h : Dp K G v (.str i)); rfl
theorem dt_none (h : EntOk W H0 G H v (Dt K .none)) : v = .non := by cases (up.now h : Dp K G v .none); rfl
theorem dt_list {ds : List PyData} (h : EntOk W H0 G H v (Dt K (.list ds))) : ∃ p xs, v = .ref p ∧ SqL K G p xs ∧ DpAll K G xs ds := by
  cases (up.now h : Dp K G v (.list ds)) with
  | lst e r => exact ⟨_, _, rfl, e, r⟩
theorem dt_tuple {ds : List PyData} (h : EntOk W H0 G H v (Dt K (.tuple ds))) : ∃ p xs, v = .ref p ∧ SqT K G p xs ∧ DpAll K G xs ds := by
  cases (up.now h : Dp K G v (.tuple ds)) with
  | tup e r => exact ⟨_, _, rfl, e, r⟩
theorem dt_of (h : Dp K G v d) : EntOk W H0 G H v (Dt K d) := up_dat h
theorem dt_dp (h : EntOk W H0 G H v (Dt K d)) : Dp K G v d := up.now h
theorem Frm.seqL {p : Addr} {xs : List V} (f : Frm K W G H) (h : SqL K G p xs) : SqL K H p xs := (Lk.same f.1).lst h
theorem Frm.seqT {p : Addr} {xs : List V} (f : Frm K W G H) (h : SqT K G p xs) : SqT K H p xs := (Lk.same f.1).tup h
theorem Frm.dp {d : PyData} (f : Frm K W G H) (h : Dp K G v d) : Dp K H v d := (Lk.same f.1).dat h
theorem _root_.L2.DpAll.length {vs : List V} : ∀ {ds : List PyData}, DpAll K G vs ds → vs.length = ds.length := by
  induction vs with
  | nil => intro ds h; cases h; rfl
  | cons v vs ih => intro ds h; cases h with | cons r t => exact congrArg Nat.succ (ih t)
theorem _root_.L2.DpAll.get {ds : List PyData} : ∀ {vs : List V} {i : Nat} {d : PyData}, DpAll K G vs ds → ds[i]? = some d → ∃ v, vs[i]? = some v ∧ Dp K G v d := by
  induction ds with
  | nil => intro vs i d h e; simp at e
  | cons d0 ds ih =>
    intro vs i d h e
    cases h with
    | cons r t =>
      cases i with
      | zero => simp at e; subst e; exact ⟨_, rfl, r⟩
      | succ i => obtain ⟨v, h1, h2⟩ := ih t (by simpa using e); exact ⟨v, by simpa using h1, h2⟩
theorem _root_.L2.DpAll.append {ds es : List PyData} {vs us : List V} (h : DpAll K G vs ds) (h' : DpAll K G us es) : DpAll K G (vs ++ us) (ds ++ es) := by
  induction ds generalizing vs with
  | nil => cases h; exact h'
  | cons d ds ih => cases h with | cons r t => exact .cons r (ih t)
theorem _root_.L2.DpAll.take {ds : List PyData} {vs : List V} (n : Nat) (h : DpAll K G vs ds) : DpAll K G (vs.take n) (ds.take n) := by
  induction ds generalizing vs n with
  | nil => cases h; simpa using DpAll.nil
  | cons d ds ih =>
    cases h with
    | cons r t =>
      cases n with
      | zero => simpa using DpAll.nil
      | succ n => simpa using DpAll.cons r (ih n t)
theorem _root_.L2.DpAll.drop {ds : List PyData} {vs : List V} (n : Nat) (h : DpAll K G vs ds) : DpAll K G (vs.drop n) (ds.drop n) := by
  induction ds generalizing vs n with
  | nil => cases h; simpa using DpAll.nil
  | cons d ds ih =>
    cases h with
    | cons r t =>
      cases n with
      | zero => simpa using DpAll.cons r t
      | succ n => simpa using ih n t
/-- a new tuple, a new list among what stands still -/
theorem new_tup {vs : List V} {ds : List PyData} (f : Frm K W G H) (r : DpAll K G vs ds) {p : Addr} (hp : H p = none) : Step K W G H (upd G p (.tup vs)) (upd H p (.tup vs)) ∧ EntOk W H (upd G p (.tup vs)) (upd H p (.tup vs)) (.ref p) (Dt K (.tuple ds)) :=
  ⟨Step.lay f hp, up_dat (.tup (SqT.of upd_same) ((Lk.same (same_new (f.free hp))).datAll r))⟩
theorem new_lst {vs : List V} {ds : List PyData} (f : Frm K W G H) (r : DpAll K G vs ds) {p : Addr} (hp : H p = none) : Step K W G H (upd G p (.lst vs)) (upd H p (.lst vs)) ∧ EntOk W H (upd G p (.lst vs)) (upd H p (.lst vs)) (.ref p) (Dt K (.list ds)) :=
  ⟨Step.lay f hp, up_dat (.lst (SqL.of upd_same) ((Lk.same (same_new (f.free hp))).datAll r))⟩

/-! ### names and constants -/
theorem ev_var (i : Nat) {x : Str} (he : Γ[i]? = some (some e) := by rfl) (ho : notOwn e := by exact True.intro) (hN : X.N[i]? = some x := by rfl) (hv : Vis X.env.scope x := by first | exact Or.inl rfl | exact Or.inr (Or.inl rfl) | exact Or.inr (Or.inr rfl))
    (hd : (x == ("__debug__" : Str)) = false := by decide) (hcd : (x == ("__classdict__" : Str)) = false := by decide) : Ev X K W Γ (.Name x pos) e :=
  peI (pe_var hN hv hd hcd) fun σ H Q ⟨H0, G, f, en, k⟩ => by
    obtain ⟨v, h1, h2⟩ := en.at_ i e he
    exact ⟨v, h1, k v H G (Step.refl f) (h2.any ho)⟩
theorem ev_int {i : Int} {j : Nat} : Ev X K W Γ (.Constant (.int i) j pos) (Dt K (.int i)) := peI pe_int fun σ H Q ⟨H0, G, f, en, k⟩ => k _ H G (Step.refl f) (dt_of (.int i))
theorem ev_bl {i : Bool} {j : Nat} : Ev X K W Γ (.Constant (.bool i) j pos) (Dt K (.bool i)) := peI pe_bl fun σ H Q ⟨H0, G, f, en, k⟩ => k _ H G (Step.refl f) (dt_of (.bl i))
theorem ev_non {j : Nat} : Ev X K W Γ (.Constant .none j pos) (Dt K .none) := peI pe_non fun σ H Q ⟨H0, G, f, en, k⟩ => k _ H G (Step.refl f) (dt_of .non)
theorem ev_str {x : Str} {j : Nat} : Ev X K W Γ (.Constant (.str x) j pos) (Dt K (.str x)) := peI pe_str fun σ H Q ⟨H0, G, f, en, k⟩ => k _ H G (Step.refl f) (dt_of (.str x))
/-- a text constant by its signs -/
theorem ev_txt (l : List Nat) {x : Str} {j : Nat} (h : x = txt l := by decide +kernel) : Ev X K W Γ (.Constant (.str x) j pos) (Dt K (.str (txt l))) := by subst h; exact ev_str
theorem ev_gint {x : Str} {i : Int} (c : Cok P w K mg base k X) (hm : ∃ t, mg x = some (.int i t)) (hg : Gl X x := by rfl) (hd : (x == ("__debug__" : Str)) = false := by decide) : Ev X K W Γ (.Name x pos) (Dt K (.int i)) := by
  obtain ⟨t, hm⟩ := hm
  exact peI (pe_glob (v := .int i) hg (by rw [c.hmg]; exact hm) ⟨t, rfl⟩ hd) fun σ H Q ⟨H0, G, f, en, k⟩ => k _ H G (Step.refl f) (dt_of (.int i))
theorem ev_gstr {x z : Str} (c : Cok P w K mg base k X) (hm : ∃ t, mg x = some (.str z t)) (hg : Gl X x := by rfl) (hd : (x == ("__debug__" : Str)) = false := by decide) : Ev X K W Γ (.Name x pos) (Dt K (.str z)) := by
  obtain ⟨t, hm⟩ := hm
  exact peI (pe_glob (v := .str z) hg (by rw [c.hmg]; exact hm) ⟨t, rfl⟩ hd) fun σ H Q ⟨H0, G, f, en, k⟩ => k _ H G (Step.refl f) (dt_of (.str z))
theorem ev_gref {x : Str} {A : Addr} {t : T} (c : Cok P w K mg base k X) (hm : mg x = some (.ref A)) (ht : ∀ G, t G (.ref A)) (hg : Gl X x := by rfl) (hd : (x == ("__debug__" : Str)) = false := by decide) : Ev X K W Γ (.Name x pos) (.fro t) :=
  peI (pe_glob (v := .ref A) hg (by rw [c.hmg]; exact hm) rfl hd) fun σ H Q ⟨H0, G, f, en, k⟩ => k _ H G (Step.refl f) fun G' _ => ht G'
/-- another word for the same -/
theorem ev_to {x : Expr} (h : Ev X K W Γ x e1) (i : ∀ H0 G H v, EntOk W H0 G H v e1 → EntOk W H0 G H v e2) : Ev X K W Γ x e2 :=
  peI h fun σ H Q ⟨H0, G, f, en, k⟩ => ⟨H0, G, f, en, fun v H' G' s q => k v H' G' s (i _ _ _ _ q)⟩
theorem ev_eq {x : Expr} (h : Ev X K W Γ x (Dt K d1)) (i : d1 = d2) : Ev X K W Γ x (Dt K d2) := by rw [← i]; exact h
/-- some datum -/
def exD {β : Type} (K : PySem.W.Frag) (p : β → Prop) (enc : β → PyData) : T := fun G v => ∃ y, p y ∧ Dp K G v (enc y)
theorem ex_of {β : Type} {p : β → Prop} {enc : β → PyData} {y : β} (hp : p y) (h : EntOk W H0 G H v (Dt K (enc y))) : EntOk W H0 G H v (.fro (exD K p enc)) := fun G' l => ⟨y, hp, h G' l⟩
theorem ex_get {β : Type} {p : β → Prop} {enc : β → PyData} (h : EntOk W H0 G H v (.fro (exD K p enc))) : ∃ y, p y ∧ EntOk W H0 G H v (Dt K (enc y)) := by
  obtain ⟨y, hp, q⟩ := up.now h
  exact ⟨y, hp, up_dat q⟩
theorem ev_ex {β : Type} {p : β → Prop} {enc : β → PyData} {x : Expr} {y : β} (hp : p y) (h : Ev X K W Γ x (Dt K (enc y))) : Ev X K W Γ x (.fro (exD K p enc)) := ev_to h fun _ _ _ _ q => ex_of hp q

/-! ### operators -/
/-- the operator's reading r gives e of what e1 and e2 say -/
def RdO (K : PySem.W.Frag) (W : Option Addr) (r : R2) (e1 e2 e : Ent) : Prop := ∀ H0 G H x y, Frm K W G H → (∀ a, H a = none → H0 a = none) → EntOk W H0 G H x e1 → EntOk W H0 G H y e2 → ∀ Q : VK, (∀ v H' G', Step K W G H G' H' → EntOk W H0 G' H' v e → Q v H') → r x y H Q
theorem pre2 {ta tb : TE} {R : V → V → Hp → Prop} (i : ta = cE K W Γ e1) (j : tb = cE K W Γ e2) {σ : L2.St} {H0 : Hp} (f : Frm K W G H) (en : EnvOk W H0 G H σ Γ)
    (h : ∀ x y H2 G2, Step K W G H G2 H2 → EntOk W H G2 H2 x e1 → EntOk W H G2 H2 y e2 → R x y H2) : ta σ H fun x H1 => tb σ H1 fun y H2 => R x y H2 := by
  subst i j
  exact ⟨H0, G, f, en, fun x H1 G1 s1 q1 => ⟨H0, G1, s1.frm, en.step s1, fun y H2 G2 s2 q2 => h x y H2 G2 (s1.trans s2) (q1.step s2) (q2.back fun a z => s1.free z)⟩⟩
theorem ev_op {op : Operator} {r : R2} (ho : OpR X (binaryOp op) r) (hr : RdO K W r e1 e2 e) (ha : Ev X K W Γ a e1) (hb : Ev X K W Γ b e2) : Ev X K W Γ (.BinOp a op b pos) e :=
  peI (pe_op ho ha hb) fun σ H Q ⟨H0, G, f, en, k⟩ => pre2 rfl rfl f en fun x y H2 G2 s q1 q2 => hr H G2 H2 x y s.frm (fun _ z => s.free z) q1 q2 Q fun v H' G' s' q => k v H' G' (s.trans s') q
theorem ev_cmp {op : CmpOp} {r : R2} (ho : OpR X (compareOp op) r) (hr : RdO K W r e1 e2 e) (ha : Ev X K W Γ a e1) (hb : Ev X K W Γ b e2) (hm : behindInMarks op b = false := by first | exact nomark _ | with_unfolding_all rfl) : Ev X K W Γ (.Compare a [op] [b] pos) e :=
  peI (pe_cmpR ho ha hb hm) fun σ H Q ⟨H0, G, f, en, k⟩ => pre2 rfl rfl f en fun x y H2 G2 s q1 q2 => hr H G2 H2 x y s.frm (fun _ z => s.free z) q1 q2 Q fun v H' G' s' q => k v H' G' (s.trans s') q
/-- some truth value -/
def exB (B : Bool → Prop) : T := fun _ v => ∃ b, v = .bl b ∧ B b
theorem tst_cmp {op : CmpOp} {r : R2} {B : Bool → Prop} (ho : OpR X (compareOp op) r) (hr : RdO K W r e1 e2 (.fro (exB B))) (ha : Ev X K W Γ a e1) (hb : Ev X K W Γ b e2) (hm : behindInMarks op b = false := by first | exact nomark _ | with_unfolding_all rfl) : Tst X K W Γ (.Compare a [op] [b] pos) B :=
  ptI (pt_cmpR ho ha hb hm) fun σ H Q ⟨H0, G, f, en, k⟩ => pre2 rfl rfl f en fun x y H2 G2 s q1 q2 => hr H G2 H2 x y s.frm (fun _ z => s.free z) q1 q2 _ fun v H' G' s' q => by
    obtain ⟨b, e, hb⟩ := up.now q
    exact ⟨b, e, k b H' G' (s.trans s') hb⟩
theorem rd_b {r : R2} {c : Bool} (h : RdO K W r e1 e2 (Dt K (.bool c))) : RdO K W r e1 e2 (.fro (exB fun b => b = c)) := fun H0 G H x y f hb q1 q2 Q k => h H0 G H x y f hb q1 q2 Q fun v H' G' s q => k v H' G' s fun _ _ => ⟨c, dt_bool q, rfl⟩
/-- a comparison that gives one bool -/
theorem tst_cmp1 {op : CmpOp} {r : R2} {c : Bool} (ho : OpR X (compareOp op) r) (hr : RdO K W r e1 e2 (Dt K (.bool c))) (ha : Ev X K W Γ a e1) (hb : Ev X K W Γ b e2) (hm : behindInMarks op b = false := by first | exact nomark _ | with_unfolding_all rfl) : Tst X K W Γ (.Compare a [op] [b] pos) (fun b => b = c) := tst_cmp ho (rd_b hr) ha hb hm
/-- pure results of ints -/
theorem rd_I0 {g : Int → Int → V} {i j : Int} (h : ∀ G, Dp K G (g i j) d) : RdO K W (rI0 g) (Dt K (.int i)) (Dt K (.int j)) (Dt K d) := fun H0 G H x y f hb q1 q2 Q k =>
  ⟨i, j, dt_int q1, dt_int q2, k _ H G (Step.refl f) (dt_of (h G))⟩
theorem rd_I {C : Int → Int → Prop} {g : Int → Int → V} {i j : Int} (hc : C i j) (h : ∀ G, Dp K G (g i j) d) : RdO K W (rI C g) (Dt K (.int i)) (Dt K (.int j)) (Dt K d) := fun H0 G H x y f hb q1 q2 Q k =>
  ⟨i, j, dt_int q1, dt_int q2, hc, k _ H G (Step.refl f) (dt_of (h G))⟩
theorem ev_add {i j : Int} (ha : Ev X K W Γ a (Dt K (.int i))) (hb : Ev X K W Γ b (Dt K (.int j))) : Ev X K W Γ (.BinOp a .Add b pos) (Dt K (.int (i + j))) := ev_op op_add (rd_I0 fun _ => .int _) ha hb
theorem ev_sub {i j : Int} (ha : Ev X K W Γ a (Dt K (.int i))) (hb : Ev X K W Γ b (Dt K (.int j))) : Ev X K W Γ (.BinOp a .Sub b pos) (Dt K (.int (i - j))) := ev_op op_sub (rd_I0 fun _ => .int _) ha hb
theorem ev_mul {i j : Int} (ha : Ev X K W Γ a (Dt K (.int i))) (hb : Ev X K W Γ b (Dt K (.int j))) (hc : CMul i j) : Ev X K W Γ (.BinOp a .Mult b pos) (Dt K (.int (i * j))) := ev_op op_mul (rd_I hc fun _ => .int _) ha hb
theorem ev_mod {i j : Int} (ha : Ev X K W Γ a (Dt K (.int i))) (hb : Ev X K W Γ b (Dt K (.int j))) (hc : 0 < j) : Ev X K W Γ (.BinOp a .Mod b pos) (Dt K (.int (i % j))) := ev_op op_mod (rd_I hc fun _ => .int _) ha hb
theorem ev_fdiv {i j : Int} (ha : Ev X K W Γ a (Dt K (.int i))) (hb : Ev X K W Γ b (Dt K (.int j))) (hc : 0 < j) (h2 : j < 1073741824) : Ev X K W Γ (.BinOp a .FloorDiv b pos) (Dt K (.int (i / j))) := ev_op op_fdiv (rd_I (C := CDiv) ⟨hc, h2⟩ fun _ => .int _) ha hb
theorem rd_lt {i j : Int} : RdO K W (rI0 fun i j => .bl (decide (i < j))) (Dt K (.int i)) (Dt K (.int j)) (Dt K (.bool (decide (i < j)))) := rd_I0 fun _ => .bl _
theorem rd_le {i j : Int} : RdO K W (rI0 fun i j => .bl (decide (i ≤ j))) (Dt K (.int i)) (Dt K (.int j)) (Dt K (.bool (decide (i ≤ j)))) := rd_I0 fun _ => .bl _
theorem rd_gt {i j : Int} : RdO K W (rI0 fun i j => .bl (decide (j < i))) (Dt K (.int i)) (Dt K (.int j)) (Dt K (.bool (decide (j < i)))) := rd_I0 fun _ => .bl _
theorem rd_ge {i j : Int} : RdO K W (rI0 fun i j => .bl (decide (j ≤ i))) (Dt K (.int i)) (Dt K (.int j)) (Dt K (.bool (decide (j ≤ i)))) := rd_I0 fun _ => .bl _
/-- == of ints, of texts -/
theorem rd_eqI {i j : Int} : RdO K W rEq (Dt K (.int i)) (Dt K (.int j)) (Dt K (.bool (decide (i = j)))) := fun H0 G H x y f hb q1 q2 Q k => by
  rw [dt_int q1, dt_int q2]
  exact ⟨rfl, k _ H G (Step.refl f) (dt_of (by rw [show decide (V.int i = V.int j) = decide (i = j) by rw [dec_int]; exact Bool.beq_eq_decide_eq i j]; exact .bl _))⟩
theorem rd_neI {i j : Int} : RdO K W rNe (Dt K (.int i)) (Dt K (.int j)) (Dt K (.bool (!decide (i = j)))) := fun H0 G H x y f hb q1 q2 Q k => by
  rw [dt_int q1, dt_int q2]
  exact ⟨rfl, k _ H G (Step.refl f) (dt_of (by rw [show decide (V.int i = V.int j) = decide (i = j) by rw [dec_int]; exact Bool.beq_eq_decide_eq i j]; exact .bl _))⟩
theorem decS {i j : Str} : decide (V.str i = V.str j) = decide (i = j) := by
  by_cases h : i = j
  · subst h; simp
  · simp [h]
theorem rd_eqS {i j : Str} : RdO K W rEq (Dt K (.str i)) (Dt K (.str j)) (Dt K (.bool (decide (i = j)))) := fun H0 G H x y f hb q1 q2 Q k => by
  rw [dt_str q1, dt_str q2]
  exact ⟨rfl, k _ H G (Step.refl f) (dt_of (by rw [decS]; exact .bl _))⟩
theorem rd_neS {i j : Str} : RdO K W rNe (Dt K (.str i)) (Dt K (.str j)) (Dt K (.bool (!decide (i = j)))) := fun H0 G H x y f hb q1 q2 Q k => by
  rw [dt_str q1, dt_str q2]
  exact ⟨rfl, k _ H G (Step.refl f) (dt_of (by rw [decS]; exact .bl _))⟩
/-- == of data of any depth -/
theorem rd_eqD (h1 : SeqAt.shaped d1 = true) (h2 : SeqAt.shaped d2 = true) : RdO K W (rEqD K) (Dt K d1) (Dt K d2) (Dt K (.bool (PyData.eqv d1 d2))) := fun H0 G H x y f hb q1 q2 Q k =>
  ⟨d1, d2, f.dp (dt_dp q1), f.dp (dt_dp q2), h1, h2, k _ H G (Step.refl f) (dt_of (.bl _))⟩
theorem rd_neD (h1 : SeqAt.shaped d1 = true) (h2 : SeqAt.shaped d2 = true) : RdO K W (rNeD K) (Dt K d1) (Dt K d2) (Dt K (.bool (!PyData.eqv d1 d2))) := fun H0 G H x y f hb q1 q2 Q k =>
  ⟨d1, d2, f.dp (dt_dp q1), f.dp (dt_dp q2), h1, h2, k _ H G (Step.refl f) (dt_of (.bl _))⟩
theorem op_eqK (c : Cok P w K mg base k X) : OpR X (compareOp .Eq) (rEqD K) := by have h := op_eqD (X := X) c.hr.units; rw [c.hK] at h; exact h
theorem op_neK (c : Cok P w K mg base k X) : OpR X (compareOp .NotEq) (rNeD K) := by have h := op_neD (X := X) c.hr.units; rw [c.hK] at h; exact h

/-! ### argument lists, displays -/
theorem ea_nil : Ea X K W Γ [] [] := paI pa_nil fun σ H Q ⟨H0, G, f, en, k⟩ => k [] H G (Step.refl f) trivial
theorem ea_cons {x : Expr} {xs : List Expr} {es : List Ent} (h : Ev X K W Γ x e) (t : Ea X K W Γ xs es) (hs : starEach (x :: xs) X.env = (false, eval x X.env) :: starEach xs X.env := by rfl) : Ea X K W Γ (x :: xs) (e :: es) :=
  paI (pa_cons h t hs) fun σ H Q ⟨H0, G, f, en, k⟩ => ⟨H0, G, f, en, fun v H1 G1 s1 q1 => ⟨H0, G1, s1.frm, en.step s1, fun vs H2 G2 s2 q2 => k (v :: vs) H2 G2 (s1.trans s2) ⟨q1.step s2, q2.back fun a z => s1.free z⟩⟩⟩
theorem ead_nil : Ead X K W Γ [] [] := paI pa_nil fun σ H Q ⟨H0, G, f, en, k⟩ => k [] H G (Step.refl f) .nil
theorem ead_cons {x : Expr} {xs : List Expr} {ds : List PyData} (h : Ev X K W Γ x (Dt K d)) (t : Ead X K W Γ xs ds) (hs : starEach (x :: xs) X.env = (false, eval x X.env) :: starEach xs X.env := by rfl) : Ead X K W Γ (x :: xs) (d :: ds) :=
  paI (pa_cons h t hs) fun σ H Q ⟨H0, G, f, en, k⟩ => ⟨H0, G, f, en, fun v H1 G1 s1 q1 => ⟨H0, G1, s1.frm, en.step s1, fun vs H2 G2 s2 q2 => k (v :: vs) H2 G2 (s1.trans s2) (.cons ((Lk.same s2.gro).dat (dt_dp q1)) q2)⟩⟩
theorem ev_tup {xs : List Expr} {ds : List PyData} {x1 : Nat} (h : Ead X K W Γ xs ds) (hl : ds.length ≤ sizeLine := by exact Nat.le_of_ble_eq_true rfl) : Ev X K W Γ (.Tuple xs x1 pos) (Dt K (.tuple ds)) :=
  peI (pe_tup h) fun σ H Q ⟨H0, G, f, en, k⟩ => ⟨H0, G, f, en, fun vs H1 G1 s1 q1 => ⟨by rw [q1.length]; exact hl, fun p hp => by
    obtain ⟨s2, q2⟩ := new_tup s1.frm q1 hp
    exact k (.ref p) _ _ (s1.trans s2) (q2.back fun a z => s1.free z)⟩⟩
theorem ev_lst {xs : List Expr} {ds : List PyData} (h : Ead X K W Γ xs ds) (hl : ds.length ≤ sizeLine := by exact Nat.le_of_ble_eq_true rfl) : Ev X K W Γ (.List xs pos) (Dt K (.list ds)) :=
  peI (pe_lst h) fun σ H Q ⟨H0, G, f, en, k⟩ => ⟨H0, G, f, en, fun vs H1 G1 s1 q1 => ⟨by rw [q1.length]; exact hl, fun p hp => by
    obtain ⟨s2, q2⟩ := new_lst s1.frm q1 hp
    exact k (.ref p) _ _ (s1.trans s2) (q2.back fun a z => s1.free z)⟩⟩
/-- one's own new list -/
def lstO (K : PySem.W.Frag) (ds : List PyData) : OwnP := fun _ G o => ∃ vs, o = .lst vs ∧ DpAll K G vs ds
theorem ev_lstO {xs : List Expr} {ds : List PyData} (h : Ead X K W Γ xs ds) (hl : ds.length ≤ sizeLine := by exact Nat.le_of_ble_eq_true rfl) : Ev X K W Γ (.List xs pos) (.own (lstO K ds)) :=
  peI (pe_lst h) fun σ H Q ⟨H0, G, f, en, k⟩ => ⟨H0, G, f, en, fun vs H1 G1 s1 q1 => ⟨by rw [q1.length]; exact hl, fun p hp =>
    k (.ref p) _ _ (s1.trans (Step.mine s1.frm hp)) ⟨p, _, rfl, s1.free hp, s1.frm.free hp, upd_same, ⟨s1.frm.neB hp, True.intro⟩, fun G' l => ⟨vs, rfl, l.datAll q1⟩⟩⟩⟩

/-! ### tests -/
theorem tst_val {c : Bool} {x : Expr} (h : Ev X K W Γ x (Dt K (.bool c))) (he : ∀ whole, isTrue x X.env whole = (do let v ← whole; standAt x.pos; holding [v] (truthy v)) := by intro _; rfl) : Tst X K W Γ x (fun b => b = c) :=
  ptI (pt_val h he) fun σ H Q ⟨H0, G, f, en, k⟩ => ⟨H0, G, f, en, fun v H' G' s q => ⟨c, dt_bool q, k c H' G' s rfl⟩⟩
theorem tst_to {x : Expr} {B B' : Bool → Prop} (h : Tst X K W Γ x B) (i : ∀ b, B b → B' b) : Tst X K W Γ x B' := ptI h fun σ H Q ⟨H0, G, f, en, k⟩ => ⟨H0, G, f, en, fun b H' G' s q => k b H' G' s (i b q)⟩
theorem tst_eq {x : Expr} {c c' : Bool} (h : Tst X K W Γ x (fun b => b = c)) (i : c = c') : Tst X K W Γ x (fun b => b = c') := tst_to h fun b q => q.trans i
theorem tst_not {x : Expr} {c : Bool} (h : Tst X K W Γ x (fun b => b = c)) : Tst X K W Γ (.UnaryOp .Not x pos) (fun b => b = !c) := ptI (pt_not h) fun σ H Q ⟨H0, G, f, en, k⟩ => ⟨H0, G, f, en, fun b H' G' s q => k (!b) H' G' s (by rw [q])⟩
abbrev Tsw (X : Cx) (K : PySem.W.Frag) (W : Option Addr) (Γ : En) (x : Expr) (B : Bool → Prop) : Prop := PW X x (cT K W Γ B)
theorem tsw_and1 {B : Bool → Prop} (h : Tst X K W Γ a B) : Tsw X K W Γ (.BoolOp .And [a] pos) B := pw_and1 h
theorem tsw_or1 {B : Bool → Prop} (h : Tst X K W Γ a B) : Tsw X K W Γ (.BoolOp .Or [a] pos) B := pw_or1 h
theorem pwI {e : Expr} {t t' : TT} (h : PW X e t) (i : ∀ σ H Q, t' σ H Q → t σ H Q) : PW X e t' := ⟨fun wh pins s σ H Q I q => h.run wh pins s σ H Q I (i σ H Q q)⟩
/-- and: the second is asked where the first is true -/
theorem tsw_and {rest : List Expr} {c1 c2 : Bool} (h : Tst X K W Γ a (fun b => b = c1)) (t : c1 = true → Tsw X K W Γ (.BoolOp .And (b :: rest) pos) (fun b => b = c2)) : Tsw X K W Γ (.BoolOp .And (a :: b :: rest) pos) (fun b => b = (c1 && c2)) := by
  cases c1 with
  | true =>
    refine pwI (pw_and h (t rfl)) fun σ H Q ⟨H0, G, f, en, k⟩ => ⟨H0, G, f, en, fun b H' G' s q => ?_⟩
    subst q
    exact iteT ⟨H0, G', s.frm, en.step s, fun b H2 G2 s2 q2 => k b H2 G2 (s.trans s2) (by rw [q2]; rfl)⟩
  | false =>
    refine ⟨fun wh pins s σ H Q I h2 => ?_⟩
    refine isTrue_and (thn (h.run pins s σ H (fun b H1 => b = false ∧ Q false H1) I ?_) fun c s1 ⟨H1, I1, q1⟩ => ?_)
    · obtain ⟨H0, G, f, en, k⟩ := h2
      exact ⟨H0, G, f, en, fun b H' G' s q => ⟨q, k false H' G' s rfl⟩⟩
    · obtain ⟨rfl, q1⟩ := q1
      exact ⟨H1, I1, q1⟩
theorem tsw_or {rest : List Expr} {c1 c2 : Bool} (h : Tst X K W Γ a (fun b => b = c1)) (t : c1 = false → Tsw X K W Γ (.BoolOp .Or (b :: rest) pos) (fun b => b = c2)) : Tsw X K W Γ (.BoolOp .Or (a :: b :: rest) pos) (fun b => b = (c1 || c2)) := by
  cases c1 with
  | false =>
    refine pwI (pw_or h (t rfl)) fun σ H Q ⟨H0, G, f, en, k⟩ => ⟨H0, G, f, en, fun b H' G' s q => ?_⟩
    subst q
    exact iteF ⟨H0, G', s.frm, en.step s, fun b H2 G2 s2 q2 => k b H2 G2 (s.trans s2) (by rw [q2]; rfl)⟩
  | true =>
    refine ⟨fun wh pins s σ H Q I h2 => ?_⟩
    refine isTrue_or (thn (h.run pins s σ H (fun b H1 => b = true ∧ Q true H1) I ?_) fun c s1 ⟨H1, I1, q1⟩ => ?_)
    · obtain ⟨H0, G, f, en, k⟩ := h2
      exact ⟨H0, G, f, en, fun b H' G' s q => ⟨q, k true H' G' s rfl⟩⟩
    · obtain ⟨rfl, q1⟩ := q1
      exact ⟨H1, I1, q1⟩
theorem tst_w {x : Expr} {B : Bool → Prop} (h : Tsw X K W Γ x B) : Tst X K W Γ x B := h.pt
/-- .. as values -/
theorem ev_one {op : BoolOp} (h : Ev X K W Γ a e) : Ev X K W Γ (.BoolOp op [a] pos) e := pe_one h
theorem ev_and {rest : List Expr} {c1 c2 : Bool} (h : Ev X K W Γ a (Dt K (.bool c1))) (t : c1 = true → Ev X K W Γ (.BoolOp .And (b :: rest) pos) (Dt K (.bool c2))) : Ev X K W Γ (.BoolOp .And (a :: b :: rest) pos) (Dt K (.bool (c1 && c2))) := by
  cases c1 with
  | true =>
    refine peI (pe_and h (t rfl)) fun σ H Q ⟨H0, G, f, en, k⟩ => ⟨H0, G, f, en, fun v H' G' s q => ⟨true, dt_bool q, ?_⟩⟩
    exact iteT ⟨H0, G', s.frm, en.step s, fun v2 H2 G2 s2 q2 => k v2 H2 G2 (s.trans s2) (q2.back fun a z => s.free z)⟩
  | false =>
    refine ⟨fun pins s σ H Q I h2 => ?_⟩
    refine BoolOp_and (thn (h.run pins s σ H (fun v H1 => v = .bl false ∧ Q (.bl false) H1) I ?_) fun u s1 ⟨x, H1, I1, r1, q1⟩ => ?_)
    · obtain ⟨H0, G, f, en, k⟩ := h2
      exact ⟨H0, G, f, en, fun v H' G' s q => ⟨dt_bool q, k _ H' G' s (dt_of (.bl _))⟩⟩
    · obtain ⟨rfl, q1⟩ := q1
      cases r1
      exact wpAny_truthy_bool ⟨.bl false, H1, I1, rfl, q1⟩
theorem ev_or {rest : List Expr} {c1 c2 : Bool} (h : Ev X K W Γ a (Dt K (.bool c1))) (t : c1 = false → Ev X K W Γ (.BoolOp .Or (b :: rest) pos) (Dt K (.bool c2))) : Ev X K W Γ (.BoolOp .Or (a :: b :: rest) pos) (Dt K (.bool (c1 || c2))) := by
  cases c1 with
  | false =>
    refine peI (pe_or h (t rfl)) fun σ H Q ⟨H0, G, f, en, k⟩ => ⟨H0, G, f, en, fun v H' G' s q => ⟨false, dt_bool q, ?_⟩⟩
    exact iteF ⟨H0, G', s.frm, en.step s, fun v2 H2 G2 s2 q2 => k v2 H2 G2 (s.trans s2) (q2.back fun a z => s.free z)⟩
  | true =>
    refine ⟨fun pins s σ H Q I h2 => ?_⟩
    refine BoolOp_or (thn (h.run pins s σ H (fun v H1 => v = .bl true ∧ Q (.bl true) H1) I ?_) fun u s1 ⟨x, H1, I1, r1, q1⟩ => ?_)
    · obtain ⟨H0, G, f, en, k⟩ := h2
      exact ⟨H0, G, f, en, fun v H' G' s q => ⟨dt_bool q, k _ H' G' s (dt_of (.bl _))⟩⟩
    · obtain ⟨rfl, q1⟩ := q1
      cases r1
      exact wpAny_truthy_bool ⟨.bl true, H1, I1, rfl, q1⟩
theorem ev_not {c : Bool} (h : Ev X K W Γ a (Dt K (.bool c))) : Ev X K W Γ (.UnaryOp .Not a pos) (Dt K (.bool (!c))) :=
  peI (pe_not h) fun σ H Q ⟨H0, G, f, en, k⟩ => ⟨H0, G, f, en, fun v H' G' s q => ⟨c, dt_bool q, k _ H' G' s (dt_of (.bl _))⟩⟩
/-- a chain of two comparisons -/
theorem ev_chain {x : Expr} {op op' : CmpOp} {r r' : R2} {e3 : Ent} {c1 c2 : Bool} (ho : OpR X (compareOp op) r) (ho' : OpR X (compareOp op') r') (hr : RdO K W r e1 e2 (Dt K (.bool c1))) (hr' : RdO K W r' e2 e3 (Dt K (.bool c2)))
    (ha : Ev X K W Γ a e1) (hb : Ev X K W Γ b e2) (hx : Ev X K W Γ x e3) (hm : lastMarks [op, op'] [b, x] = false := by with_unfolding_all rfl) : Ev X K W Γ (.Compare a [op, op'] [b, x] pos) (Dt K (.bool (c1 && c2))) := by
  refine peI (pe_chain ho ho' ha hb hx hm) fun σ H Q ⟨H0, G, f, en, k⟩ => pre2 rfl rfl f en fun u y H2 G2 s q1 q2 => hr H G2 H2 u y s.frm (fun _ z => s.free z) q1 q2 _ fun v H3 G3 s3 q3 => ?_
  refine ⟨c1, dt_bool q3, ?_⟩
  cases c1 with
  | false => first | exact iteF (k _ H3 G3 (s.trans s3) (dt_of (.bl _))) | exact k _ H3 G3 (s.trans s3) (dt_of (.bl _))
  | true =>
    refine iteT ?_
    refine ⟨H0, G3, (s.trans s3).frm, en.step (s.trans s3), fun z H4 G4 s4 q4 => ?_⟩
    exact hr' H G4 H4 y z s4.frm (fun _ z => (s.trans s3).free (s4.free z)) ((q2.step s3).step s4) (q4.back fun a z => (s.trans s3).free z) Q fun v2 H5 G5 s5 q5 => k v2 H5 G5 ((s.trans s3).trans (s4.trans s5)) q5
end
end Cs

set_option Elab.async false
set_option linter.all false
set_option autoImplicit false
set_option maxRecDepth 100000
set_option maxHeartbeats 4000000
/-! The layer, part C: calls of defs and methods, attributes, statements, the making of promises. -/
namespace Cs
open PySem PySem.Spec PyProof.Rows L2

/-! ### promises -/
/-- a def's promise: of arguments as told it hands back what r tells (bg: it may draw from the bag) -/
def spF (K : PySem.W.Frag) (bg : Bool) (as : List Ent) (r : Ent) : Sp := fun vs H Q _ => ∃ (W : Option Addr) (G : Hp), (bg = false → W = none) ∧ Frm K W G H ∧ EntsOk W H G H vs as ∧ ∀ v H' G', Step K W G H G' H' → EntOk W H G' H' v r → Q v H'
def DfOk (P : Program) (w : World) (K : PySem.W.Frag) (mg : Str → Option Value) (base : Heap) (x : Str) (k : Nat) (bg : Bool) (as : List Ent) (r : Ent) : Prop :=
  ∃ (f : Addr) (fd : FuncData) (ps : List Str), mg x = some (.ref f) ∧ PySem.W.keepIn K (.ref f) = true ∧ Binds K fd ps [] ∧ FnOk P w K mg base CX0 k f fd ps (spF K bg as r)
/-- a method's (the receiver ahead of the arguments) -/
def MtOk (P : Program) (w : World) (K : PySem.W.Frag) (mg : Str → Option Value) (base : Heap) (C : Addr) (m : Str) (k : Nat) (bg : Bool) (as : List Ent) (r : Ent) : Prop :=
  ∃ (f : Addr) (fd : FuncData) (ps : List Str), Cls K C ∧ Meth K C m f ∧ Binds K fd ps [] ∧ FnOk P w K mg base CX0 k f fd ps (spF K bg as r)
theorem DfOk.mono {P : Program} {w : World} {K : PySem.W.Frag} {mg : Str → Option Value} {base : Heap} {x : Str} {k j : Nat} {bg : Bool} {as : List Ent} {r : Ent} (D : DfOk P w K mg base x k bg as r) (h : k ≤ j) : DfOk P w K mg base x j bg as r := by
  obtain ⟨f, fd, ps, h1, h2, h3, h4⟩ := D
  exact ⟨f, fd, ps, h1, h2, h3, h4.mono h⟩
def isFro : Ent → Prop
  | .fro _ => True
  | _ => False
def allFro : List Ent → Prop
  | [] => True
  | e :: es => isFro e ∧ allFro es
section
variable {K : PySem.W.Frag} {W : Option Addr} {G H G' H' H0 : Hp} {v : V} {e : Ent}
theorem Step.lift (s : Step K none G H G' H') (f : Frm K W G H) : Step K W G H G' H' where
  keep := fun a o e _ => s.keep a o e (fun z => nomatch z)
  gro := s.gro
  new := s.new
  frm := by
    refine ⟨s.frm.1, fun b hb => ?_⟩
    obtain ⟨h1, x, y, z, c, ns, h2, h3, h4⟩ := f.2 b hb
    refine ⟨?_, x, y, z, c, ns, s.keep b _ h2 (fun z => nomatch z), s.gro.seq h3, h4⟩
    cases q : G' b with
    | none => rfl
    | some u =>
      rcases s.new b u h1 q with z | ⟨xs, z⟩
      · rw [h2] at z
        cases z
      · rw [h2] at z
        cases z
  bagS := fun b o _ e => ⟨o, s.keep b o e (fun z => nomatch z)⟩
theorem Frm.low (f : Frm K W G H) : Frm K none G H := ⟨f.1, fun _ z => nomatch z⟩
theorem EntOk.lift (h : EntOk none H G' H' v e) (f : Frm K W G H) : EntOk W H G' H' v e := by
  cases e with
  | fro t => exact h
  | own o =>
    obtain ⟨p, ho, h1, h2, h3, h4, h5, h6⟩ := h
    exact ⟨p, ho, h1, h2, h3, h4, ⟨f.neB h2, h5.2⟩, h6⟩
  | bag => obtain ⟨b, _, z⟩ := h; cases z
theorem EntOk.low (h : EntOk W H0 G H v e) (i : isFro e) : EntOk none H0 G H v e := by
  cases e with
  | fro t => exact h
  | own o => exact i.elim
  | bag => exact i.elim
theorem EntsOk.low : ∀ {vs : List V} {es : List Ent}, EntsOk W H0 G H vs es → allFro es → EntsOk none H0 G H vs es
  | [], [], _, _ => trivial
  | _ :: _, _ :: _, h, i => ⟨h.1.low i.1, EntsOk.low h.2 i.2⟩
  | [], _ :: _, h, _ => h.elim
  | _ :: _, [], h, _ => h.elim
def noOwns : List Ent → Prop
  | [] => True
  | e :: es => notOwn e ∧ noOwns es
theorem EntsOk.any {H1 : Hp} : ∀ {vs : List V} {es : List Ent}, EntsOk W H0 G H vs es → noOwns es → EntsOk W H1 G H vs es
  | [], [], _, _ => trivial
  | _ :: _, _ :: _, h, i => ⟨h.1.any i.1, EntsOk.any h.2 i.2⟩
  | [], _ :: _, h, _ => h.elim
  | _ :: _, [], h, _ => h.elim
theorem noOwns_of : ∀ {es : List Ent}, allFro es → noOwns es
  | [], _ => trivial
  | .fro _ :: _, h => ⟨trivial, noOwns_of h.2⟩
  | .own _ :: _, h => h.1.elim
  | .bag :: _, h => h.1.elim
end
section
variable {P : Program} {w : World} {K : PySem.W.Frag} {mg : Str → Option Value} {base : Heap} {k j : Nat} {X : Cx} {W : Option Addr} {Γ : En} {a b : Expr} {e e1 e2 r : Ent} {d d1 d2 : PyData} {pos apos : Pos} {G H H0 : Hp} {v : V} {as : List Ent} {x m : Str} {p : Pos} {es : List Expr} {bg : Bool}
/-- what a promise asks and gives, in the middle of an expression -/
theorem spF_use {σ : L2.St} {vs : List V} {Q : VK} (f : Frm K W G H) (hb : bg = true ∨ allFro as) (n : noOwns as) (q : EntsOk W H0 G H vs as) (h : ∀ v H' G', Step K W G H G' H' → EntOk W H G' H' v r → Q v H') : spF K bg as r vs H Q E0 := by
  cases bg with
  | true => exact ⟨W, G, (fun z => nomatch z), f, q.any n, h⟩
  | false =>
    have i : allFro as := hb.resolve_left (fun z => nomatch z)
    exact ⟨none, G, fun _ => rfl, f.low, (q.any n).low i, fun v H' G' s z => h v H' G' (s.lift f) (z.lift f)⟩
theorem ev_call (c : Cok P w K mg base k X) (D : DfOk P w K mg base x j bg as r) (ha : Ea X K W Γ (a :: es) as) (hj : j ≤ k := by decide) (hb : bg = true ∨ allFro as := by first | exact .inl rfl | exact .inr (by simp [allFro, isFro])) (n : noOwns as := by first | exact True.intro | simp [noOwns, notOwn])
    (hg : Gl X x := by rfl) (hdb : (x == ("__debug__" : Str)) = false := by decide) (he : starEach (a :: es) X.env = (false, eval a X.env) :: starEach es X.env := by rfl) (hpl : (backTo pos (starEach es X.env)).any (·.1) = false := by rfl) : Ev X K W Γ (.Call (.Name x p) (a :: es) [] pos) r := by
  obtain ⟨f, fd, ps, hm, hk, hbi, F⟩ := D
  obtain ⟨rfl, rfl, rfl, rfl, rfl, hr, hc, hN⟩ := c
  refine peI (pe_call F (hr.mono hj) hg hm hk hbi .nil pass0 ha hdb he hpl) fun σ H Q ⟨H0, G, f, en, k⟩ => ⟨H0, G, f, en, fun vs H1 G1 s1 q1 => ?_⟩
  show spF X.K bg as r (vs ++ []) H1 Q E0
  rw [List.append_nil]
  exact spF_use (σ := σ) s1.frm hb n q1 fun v H' G' s q => k v H' G' (s1.trans s) (q.back fun a z => s1.free z)
/-- an instance of the class at C with the attributes fl -/
def obj (C : Addr) (fl : List (Str × T)) : T := fun G v => ∃ a dx fs, v = .ref a ∧ G a = some (.ins C dx fs) ∧ (∀ f, fl.lookup f = none → fs.lookup f = none) ∧ ∀ f t, fl.lookup f = some t → ∃ u, fs.lookup f = some u ∧ t G u
theorem ev_meth {C : Addr} {fl : List (Str × T)} (c : Cok P w K mg base k X) (D : MtOk P w K mg base C m j bg (.fro (obj C fl) :: as) r) (ho : Ev X K W Γ a (.fro (obj C fl))) (ha : Ea X K W Γ (b :: es) as) (hl : fl.lookup m = none := by decide +kernel) (hj : j ≤ k := by decide)
    (hb : bg = true ∨ allFro as := by first | exact .inl rfl | exact .inr (by simp [allFro, isFro])) (n : noOwns as := by first | exact True.intro | simp [noOwns, notOwn]) (hst : starEach (b :: es) X.env = (false, eval b X.env) :: starEach es X.env := by rfl) (hpl : (backTo pos (starEach es X.env)).any (·.1) = false := by rfl) {pl : Sem Bool}
    (ht : eval (.Call (.Attribute a m apos) (b :: es) [] pos) X.env = (do
      let ov ← eval a X.env
      standAt apos.atName
      let (f, first) ← holding [ov] (getMethod ov m pl)
      callWith pos f first (backTo pos (starEach (b :: es) X.env)) (backToKw pos (keywordEach [] X.env))) := by rfl) : Ev X K W Γ (.Call (.Attribute a m apos) (b :: es) [] pos) r := by
  obtain ⟨f, fd, ps, hC, hM, hbi, F⟩ := D
  obtain ⟨rfl, rfl, rfl, rfl, rfl, hr, hc, hN⟩ := c
  refine peI (pe_meth ho hC hM F (hr.mono hj) hbi .nil pass0 ha hst hpl ht) fun σ H Q ⟨H0, G, f, en, k⟩ => ⟨H0, G, f, en, fun v H1 G1 s1 q1 => ?_⟩
  obtain ⟨a, dx, fs, e1, h2, h3, _⟩ := up.now q1
  refine ⟨a, dx, fs, e1, s1.frm.1 _ _ h2, h3 _ hl, H0, G1, s1.frm, en.step s1, fun vs H2 G2 s2 q2 => ?_⟩
  show spF X.K bg (.fro (obj C fl) :: as) r (v :: (vs ++ [])) H2 Q E0
  rw [List.append_nil]
  refine spF_use (σ := σ) s2.frm ?_ ⟨trivial, n⟩ ⟨q1.step s2, q2.back fun a z => s1.free z⟩ fun v H' G' s q => k v H' G' (s1.trans (s2.trans s)) (q.back fun a z => s1.free (s2.free z))
  rcases hb with z | z
  · exact .inl z
  · exact .inr ⟨trivial, z⟩
theorem ev_meth0 {C : Addr} {fl : List (Str × T)} (c : Cok P w K mg base k X) (D : MtOk P w K mg base C m j bg [.fro (obj C fl)] r) (ho : Ev X K W Γ a (.fro (obj C fl))) (hl : fl.lookup m = none := by decide +kernel) (hj : j ≤ k := by decide) {pl : Sem Bool}
    (ht : eval (.Call (.Attribute a m apos) [] [] pos) X.env = (do
      let ov ← eval a X.env
      standAt apos.atName
      let (f, first) ← holding [ov] (getMethod ov m pl)
      callWith pos f first (backTo pos (starEach [] X.env)) (backToKw pos (keywordEach [] X.env))) := by rfl) : Ev X K W Γ (.Call (.Attribute a m apos) [] [] pos) r := by
  obtain ⟨f, fd, ps, hC, hM, hbi, F⟩ := D
  obtain ⟨rfl, rfl, rfl, rfl, rfl, hr, hc, hN⟩ := c
  refine peI (pe_meth0 ho hC hM F (hr.mono hj) hbi .nil pass0 ht) fun σ H Q ⟨H0, G, f, en, k⟩ => ⟨H0, G, f, en, fun v H1 G1 s1 q1 => ?_⟩
  obtain ⟨a, dx, fs, e1, h2, h3, _⟩ := up.now q1
  refine ⟨a, dx, fs, e1, s1.frm.1 _ _ h2, h3 _ hl, ?_⟩
  exact spF_use (σ := σ) s1.frm (.inr ⟨trivial, trivial⟩) ⟨trivial, trivial⟩ ⟨q1, trivial⟩ fun v H' G' s q => k v H' G' (s1.trans s) (q.back fun a z => s1.free z)
/-- o.f -/
theorem ev_fld {C : Addr} {fl : List (Str × T)} {t : T} (c : Cok P w K mg base k X) (hC : Cls K C) (hn : NoAttr K C m) (ho : Ev X K W Γ a (.fro (obj C fl))) (hl : fl.lookup m = some t := by rfl) (hb : attributeBase a m X.env (eval a X.env) = eval a X.env := by rfl) : Ev X K W Γ (.Attribute a m pos) (.fro t) := by
  refine peI (pe_fld ho hb) fun σ H Q ⟨H0, G, f, en, k⟩ => ⟨H0, G, f, en, fun v H1 G1 s1 q1 => ?_⟩
  obtain ⟨a, dx, fs, e1, h2, _, h3⟩ := up.now q1
  obtain ⟨u, h4, _⟩ := h3 m t hl
  refine ⟨a, C, dx, fs, u, e1, s1.frm.1 _ _ h2, by rw [c.hK]; exact hC, by rw [c.hK]; exact hn, h4, k u H1 G1 s1 fun G' l => ?_⟩
  obtain ⟨a', dx', fs', e1', h2', _, h3'⟩ := q1 G' l
  rw [e1] at e1'
  cases e1'
  rw [l.at_ h2] at h2'
  cases h2'
  obtain ⟨u', h4', h5'⟩ := h3' m t hl
  rw [h4] at h4'
  cases h4'
  exact h5'

/-! ### statements -/
variable {A M N B C : As} {R : Ent} {st : Stmt} {rest thn els : List Stmt}
theorem srs_nil (h : ∀ H0 G H σ, A H0 G H σ → N H0 G H σ) : Srs X K W [] A N B C R := pssI pss_nil fun D σ H ⟨H0, G0, G, s, a, n, _⟩ => n σ H G s (h _ _ _ _ a)
theorem srs_end : Srs X K W [] A A B C R := srs_nil fun _ _ _ _ h => h
theorem srs_cons (h1 : Sr X K W st A M B C R) (h2 : Srs X K W rest M N B C R) : Srs X K W (st :: rest) A N B C R :=
  pssI (pss_cons h1 h2) fun D σ H ⟨H0, G0, G, s, a, n, rt, bk, ct⟩ => ⟨H0, G0, G, s, a, fun σ' H' G' s' q => ⟨H0, G0, G', s', q, n, rt, bk, ct⟩, rt, bk, ct⟩
theorem srs_pre (h : Srs X K W rest A N B C R) {A' : As} (i : ∀ H0 G H σ, A' H0 G H σ → A H0 G H σ) : Srs X K W rest A' N B C R := pssI h fun D σ H ⟨H0, G0, G, s, a, n⟩ => ⟨H0, G0, G, s, i _ _ _ _ a, n⟩
theorem srs_post (h : Srs X K W rest A M B C R) (i : ∀ H0 G H σ, M H0 G H σ → N H0 G H σ) : Srs X K W rest A N B C R := pssI h fun D σ H ⟨H0, G0, G, s, a, n, r⟩ => ⟨H0, G0, G, s, a, fun σ' H' G' s' q => n σ' H' G' s' (i _ _ _ _ q), r⟩
/-- some datum in a slot: one of them -/
theorem srs_exE {β : Type} {pp : β → Prop} {enc : β → PyData} (i : Nat) (he : Γ[i]? = some (some (.fro (exD K pp enc)))) (h : ∀ y, pp y → Srs X K W rest (envA W (Γ.set i (some (Dt K (enc y))))) N B C R) : Srs X K W rest (envA W Γ) N B C R := by
  refine ⟨fun pins s σ H D I q => ?_⟩
  obtain ⟨H0, G0, G, s0, en, r⟩ := q
  obtain ⟨v, hv, q⟩ := en.at_ i _ he
  obtain ⟨y, hy, qy⟩ := ex_get q
  refine (h y hy).run pins s σ H D I ⟨H0, G0, G, s0, ⟨by rw [List.length_set]; exact en.len, fun j e g => ?_, fun j1 j2 o o' p g1 g2 g3 g4 => ?_⟩, r⟩
  · by_cases z : i = j
    · subst z
      have lt : i < Γ.length := (List.getElem?_eq_some_iff.mp he).1
      rw [List.getElem?_set_self lt] at g
      cases g
      exact ⟨v, hv, qy⟩
    · rw [List.getElem?_set_ne z] at g
      exact en.at_ j e g
  · have ne : ∀ (j : Nat) (o : OwnP), (Γ.set i (some (Dt K (enc y))))[j]? = some (some (.own o)) → Γ[j]? = some (some (.own o)) := fun j o g => by
      by_cases z : i = j
      · subst z
        have lt : i < Γ.length := (List.getElem?_eq_some_iff.mp he).1
        rw [List.getElem?_set_self lt] at g
        cases g
      · rw [List.getElem?_set_ne z] at g
        exact g
    exact en.sep j1 j2 o o' p (ne _ _ g1) (ne _ _ g2) g3 g4
/-- x = e -/
theorem sr_set (i : Nat) {py : Pos} (c : Cok P w K mg base k X) (he : Ev X K W Γ a e) (hi : X.N[i]? = some x := by rfl) (hx : Loc X.env.scope x := by first | exact Or.inl rfl | exact Or.inr rfl) (hs : swapsWith a (some (.Name x py)) pos.line X.env = pure false := by rfl)
    (hf : X.fn x = true ∨ X.env.scope.names.lookup x = some .local := by first | exact .inl rfl | exact .inr rfl) : Sr X K W (.Assign [.Name x py] a pos) (envA W Γ) (envA W (Γ.set i (some e))) B C R :=
  psI (ps_set c.hN hi hx he hs hf) fun D σ H ⟨H0, G0, G, s, en, n, r⟩ => ⟨H0, G, s.frm, en, fun v H' G' s' q => n _ H' G' (s.trans s') (en.put s' q (fun a z => s.free z) i)⟩
theorem srs_set (i : Nat) {py : Pos} (c : Cok P w K mg base k X) (he : Ev X K W Γ a e) (h : Srs X K W rest (envA W (Γ.set i (some e))) N B C R) (hi : X.N[i]? = some x := by rfl) (hx : Loc X.env.scope x := by first | exact Or.inl rfl | exact Or.inr rfl) (hs : swapsWith a (some (.Name x py)) pos.line X.env = pure false := by rfl)
    (hf : X.fn x = true ∨ X.env.scope.names.lookup x = some .local := by first | exact .inl rfl | exact .inr rfl) : Srs X K W (.Assign [.Name x py] a pos :: rest) (envA W Γ) N B C R := srs_cons (sr_set i c he hi hx hs hf) h
/-- return e -/
theorem srs_ret (he : Ev X K W Γ a R) : Srs X K W (.Return (some a) pos :: rest) (envA W Γ) N B C R :=
  pssI (pss_cons (ps_ret he) (pss_never (sts := rest))) fun D σ H ⟨H0, G0, G, s, en, n, r, _⟩ => ⟨H0, G, s.frm, en, fun v H' G' s' q => r v H' G' (s.trans s') (q.back fun a z => s.free z)⟩
/-- return x, x one's own -/
theorem srs_retO (i : Nat) {o : OwnP} (he : Γ[i]? = some (some (.own o)) := by rfl) (hN : X.N[i]? = some x := by rfl) (hv : Vis X.env.scope x := by first | exact Or.inl rfl | exact Or.inr (Or.inl rfl) | exact Or.inr (Or.inr rfl))
    (hd : (x == ("__debug__" : Str)) = false := by decide) (hcd : (x == ("__classdict__" : Str)) = false := by decide) : Srs X K W (.Return (some (.Name x p)) pos :: rest) (envA W Γ) N B C (.own o) :=
  pssI (pss_cons (ps_ret (pe_var hN hv hd hcd)) (pss_never (sts := rest))) fun D σ H ⟨H0, G0, G, s, en, n, r, _⟩ => by
    obtain ⟨v, h1, h2⟩ := en.at_ i _ he
    exact ⟨v, h1, r v H G s h2⟩
/-- one's own thing is left to stand still (nothing is written) -/
theorem srs_still (i : Nat) {o : OwnP} {t : T} (he : Γ[i]? = some (some (.own o))) (ht : ∀ G p ho, G p = some ho → o p G ho → (∀ G', Lk G G' → o p G' ho) → up t G (.ref p)) (h : Srs X K W rest (envA W (Γ.set i (some (.fro t)))) N B C R) : Srs X K W rest (envA W Γ) N B C R := by
  refine ⟨fun pins s σ H D I q => ?_⟩
  obtain ⟨H0, G0, G, s0, en, r⟩ := q
  obtain ⟨v, hv, p, ho, rfl, h0, gp, hp, nw, q⟩ := en.at_ i _ he
  have l : Lk G (upd G p ho) := Lk.same (same_new gp)
  refine h.run pins s σ H D I ⟨H0, G0, upd G p ho, s0.still h0 gp hp nw.1, ⟨by rw [List.length_set]; exact en.len, fun j e g => ?_, fun j1 j2 o1 o2 p g1 g2 g3 g4 => ?_⟩, r⟩
  · by_cases z : i = j
    · subst z
      have lt : i < Γ.length := (List.getElem?_eq_some_iff.mp he).1
      rw [List.getElem?_set_self lt] at g
      cases g
      exact ⟨_, hv, ht _ p ho upd_same (q _ l) fun G' l' => q G' (l.trans l')⟩
    · rw [List.getElem?_set_ne z] at g
      obtain ⟨u, hu, qu⟩ := en.at_ j e g
      refine ⟨u, hu, ?_⟩
      cases e with
      | fro t => exact up.lk qu l
      | own o' =>
        obtain ⟨p', ho', rfl, a1, a2, a3, a4, a5⟩ := qu
        have np : p' ≠ p := fun e => z (en.sep i j o o' p he g hv (by rw [hu, e]))
        exact ⟨p', ho', rfl, a1, by rw [upd_ne np]; exact a2, a3, a4, fun G' l' => a5 G' (l.trans l')⟩
      | bag => exact qu
  · have ne : ∀ (j : Nat) (o : OwnP), (Γ.set i (some (.fro t)))[j]? = some (some (.own o)) → Γ[j]? = some (some (.own o)) := fun j o g => by
      by_cases z : i = j
      · subst z
        have lt : i < Γ.length := (List.getElem?_eq_some_iff.mp he).1
        rw [List.getElem?_set_self lt] at g
        cases g
      · rw [List.getElem?_set_ne z] at g
        exact g
    exact en.sep j1 j2 o1 o2 p (ne _ _ g1) (ne _ _ g2) g3 g4
theorem srs_stillL (i : Nat) {ds : List PyData} (h : Srs X K W rest (envA W (Γ.set i (some (Dt K (.list ds))))) N B C R) (he : Γ[i]? = some (some (.own (lstO K ds))) := by rfl) : Srs X K W rest (envA W Γ) N B C R :=
  srs_still i he (fun G p ho hp q _ => by obtain ⟨vs, rfl, z⟩ := q; exact up_dat (.lst (SqL.of hp) z)) h
/-- an expression whose value is dropped -/
theorem srs_drop (he : Ev X K W Γ a e) (h : Srs X K W rest (envA W Γ) N B C R) (hs : swapsWith a none pos.line X.env = pure false := by rfl) : Srs X K W (.Expr a pos :: rest) (envA W Γ) N B C R :=
  srs_cons (psI (ps_expr he hs) fun D σ H ⟨H0, G0, G, s, en, n, _⟩ => ⟨H0, G, s.frm, en, fun v H' G' s' q => n σ H' G' (s.trans s') (en.step s')⟩) h
/-- if -/
theorem sr_if {cv : Bool} (hc : Tst X K W Γ a (fun b => b = cv)) (h1 : cv = true → Srs X K W thn (envA W Γ) N B C R) (h2 : cv = false → Srs X K W els (envA W Γ) N B C R) : Sr X K W (.If a thn els pos) (envA W Γ) N B C R := by
  cases cv with
  | true => exact psI (ps_if hc (h1 rfl) (pss_never (sts := els))) fun D σ H ⟨H0, G0, G, s, en, r⟩ => ⟨H0, G, s.frm, en, fun b H' G' s' q => by subst q; exact iteT ⟨H0, G0, G', s.trans s', en.step s', r⟩⟩
  | false => exact psI (ps_if hc (pss_never (sts := thn)) (h2 rfl)) fun D σ H ⟨H0, G0, G, s, en, r⟩ => ⟨H0, G, s.frm, en, fun b H' G' s' q => by subst q; exact iteF ⟨H0, G0, G', s.trans s', en.step s', r⟩⟩
theorem sr_ifX {Bv : Bool → Prop} (hc : Tst X K W Γ a Bv) (h1 : Bv true → Srs X K W thn (envA W Γ) N B C R) (h2 : Bv false → Srs X K W els (envA W Γ) N B C R) (y : Bv true ∨ ¬ Bv true) (y' : Bv false ∨ ¬ Bv false) : Sr X K W (.If a thn els pos) (envA W Γ) N B C R := by
  have t1 : ∃ t, PSs X thn t ∧ (Bv true → ∀ D σ H, cS K W (envA W Γ) N B C R D σ H → t D σ H) := by
    rcases y with z | z
    · exact ⟨_, h1 z, fun _ _ _ _ q => q⟩
    · exact ⟨_, pss_never, fun q => absurd q z⟩
  have t2 : ∃ t, PSs X els t ∧ (Bv false → ∀ D σ H, cS K W (envA W Γ) N B C R D σ H → t D σ H) := by
    rcases y' with z | z
    · exact ⟨_, h2 z, fun _ _ _ _ q => q⟩
    · exact ⟨_, pss_never, fun q => absurd q z⟩
  obtain ⟨u1, p1, q1⟩ := t1
  obtain ⟨u2, p2, q2⟩ := t2
  refine psI (ps_if hc p1 p2) fun D σ H ⟨H0, G0, G, s, en, r⟩ => ⟨H0, G, s.frm, en, fun b H' G' s' q => ?_⟩
  cases b with
  | true => exact iteT (q1 q D σ H' ⟨H0, G0, G', s.trans s', en.step s', r⟩)
  | false => exact iteF (q2 q D σ H' ⟨H0, G0, G', s.trans s', en.step s', r⟩)
/-- if c: .. (which ends otherwise, or stores); the rest behind it -/
theorem srs_if {cv : Bool} (hc : Tst X K W Γ a (fun b => b = cv)) (h1 : cv = true → Srs X K W thn (envA W Γ) M B C R) (h2 : cv = false → Srs X K W els (envA W Γ) M B C R) (h : Srs X K W rest M N B C R) : Srs X K W (.If a thn els pos :: rest) (envA W Γ) N B C R := srs_cons (sr_if hc h1 h2) h
/-- if c: return ..: the rest where c is false -/
theorem srs_ifR {cv : Bool} (hc : Tst X K W Γ a (fun b => b = cv)) (h1 : cv = true → Srs X K W thn (envA W Γ) noA B C R) (h : cv = false → Srs X K W rest (envA W Γ) N B C R) : Srs X K W (.If a thn [] pos :: rest) (envA W Γ) N B C R := by
  cases cv with
  | true => exact pssI (pss_cons (sr_if hc h1 (els := []) (N := noA) fun z => nomatch z) (pss_never (sts := rest))) fun D σ H ⟨H0, G0, G, s, en, n, r⟩ => ⟨H0, G0, G, s, en, (fun _ _ _ _ z => z.elim), r⟩
  | false => exact srs_cons (sr_if hc (fun z => nomatch z) fun _ => srs_end) (h rfl)
/-- if c: .. where c is known to be false -/
theorem srs_no (hc : Tst X K W Γ a (fun b => b = false)) (h : Srs X K W rest (envA W Γ) N B C R) : Srs X K W (.If a thn [] pos :: rest) (envA W Γ) N B C R := srs_cons (sr_if hc (fun z => nomatch z) fun _ => srs_end) h
theorem srs_yes (hc : Tst X K W Γ a (fun b => b = true)) (h : Srs X K W thn (envA W Γ) N B C R) : Srs X K W (.If a thn els pos :: []) (envA W Γ) N B C R := srs_cons (sr_if hc (fun _ => h) (fun z => nomatch z)) srs_end
/-- a def's promise by its body -/
theorem init_len {N ps : List Str} {vs : List V} (h : N.take ps.length = ps) (hl : vs.length = ps.length) : (L2.start N vs).length = N.length := by
  have : ps.length ≤ N.length := by rw [← h]; rw [List.length_take]; omega
  unfold L2.start
  rw [List.length_append, List.length_map, List.length_replicate]
  omega
def initE (n : Nat) (as : List Ent) : En := as.map some ++ List.replicate (n - as.length) none
theorem env_init {N ps : List Str} {vs : List V} (h : N.take ps.length = ps) (hl : as.length = ps.length) (q : EntsOk W H0 G H vs as) (n : noOwns as) : EnvOk W H0 G H (L2.start N vs) (initE N.length as) := by
  have hv := q.length
  have hle : ps.length ≤ N.length := by rw [← h]; rw [List.length_take]; omega
  have get : ∀ {vs : List V} {as : List Ent} (i : Nat) (e : Ent), EntsOk W H0 G H vs as → as[i]? = some e → ∃ v, vs[i]? = some v ∧ EntOk W H0 G H v e := by
    intro vs
    induction vs with
    | nil =>
      intro as i e q g
      cases as with
      | nil => simp at g
      | cons _ _ => exact q.elim
    | cons v vs ih =>
      intro as i e q g
      cases as with
      | nil => exact q.elim
      | cons e0 es =>
        cases i with
        | zero => simp at g; subst g; exact ⟨v, rfl, q.1⟩
        | succ i => obtain ⟨u, a, b⟩ := ih i e q.2 (by simpa using g); exact ⟨u, by simpa using a, b⟩
  have nown : ∀ {as : List Ent} (i : Nat) (o : OwnP), noOwns as → as[i]? = some (.own o) → False := by
    intro as
    induction as with
    | nil => intro i o _ g; simp at g
    | cons e es ih =>
      intro i o n g
      cases i with
      | zero => simp at g; subst g; exact n.1
      | succ i => exact ih i o n.2 (by simpa using g)
  have slot : ∀ (i : Nat) (e : Ent), (initE N.length as)[i]? = some (some e) → as[i]? = some e := fun i e g => by
    unfold initE at g
    by_cases lt : i < as.length
    · rw [List.getElem?_append_left (by rw [List.length_map]; exact lt), List.getElem?_map] at g
      cases z : as[i]? with
      | none => rw [z] at g; cases g
      | some e' => rw [z] at g; cases g; rfl
    · rw [List.getElem?_append_right (by rw [List.length_map]; omega), List.getElem?_replicate] at g
      split at g <;> cases g
  refine ⟨?_, fun i e g => ?_, fun i j o o' p g1 g2 g3 g4 => (nown i o n (slot i _ g1)).elim⟩
  · rw [init_len h (hv.trans hl)]
    unfold initE
    rw [List.length_append, List.length_map, List.length_replicate]
    omega
  · obtain ⟨v, a, b⟩ := get i e q (slot i e g)
    refine ⟨v, ?_, b⟩
    have lt : i < vs.length := (List.getElem?_eq_some_iff.mp a).1
    unfold L2.start
    rw [List.getElem?_append_left (by rw [List.length_map]; exact lt), List.getElem?_map, a]
    rfl
theorem mk_fn {qual : Str} {params : Arguments} {body : List Stmt} {scope : Scope} {kws : List (Str × V)} {dvs : List V} {f : Addr} {fd : FuncData} {ps : List Str} (Nm : List Str) (F : FunD K x qual params body scope dvs kws f fd) (S : FnScope Nm ps scope) (hl : as.length = ps.length) (n : noOwns as)
    (h : ∀ (W : Option Addr) (X : Cx), (bg = false → W = none) → Cok P w K mg base k X → (∃ cdv A outer s H E, X = (cxOf CX0 P w K mg base Nm qual scope f cdv A outer s H E).nox) → Srs X K W body (envA W (initE Nm.length as)) N noA noA r)
    (hN : ∀ W H0 G H σ, N H0 G H σ → EntOk W H0 G H .non r) : FnOk P w K mg base CX0 (k + 1) f fd ps (spF K bg as r) := by
  refine F.ok S (fun vs H Q E q => ?_) (fun cdv A outer s H vs Q E hr q => ?_)
  · obtain ⟨W, G, _, _, q, _⟩ := q
    exact q.length.trans hl
  · obtain ⟨W, G, hb, f, q, kk⟩ := q
    refine ⟨_, PSs.nox (h W _ hb ⟨rfl, rfl, rfl, rfl, rfl, hr, rfl, S.nd⟩ ⟨cdv, A, outer, s, H, E, rfl⟩), ?_⟩
    refine ⟨H, G, G, Step.refl f, env_init S.pre hl q n, fun σ' H' G' s' z => kk _ H' G' s' (hN W _ _ _ _ z), fun v H' G' s' z => kk v H' G' s' z, (fun _ _ _ _ z => z.elim), (fun _ _ _ _ z => z.elim)⟩
end
end Cs

set_option Elab.async false
set_option linter.all false
set_option autoImplicit false
set_option maxRecDepth 100000
set_option maxHeartbeats 4000000
/-! The layer, part D: targets, what is walked, loops, comprehensions. -/
namespace Cs
open PySem PySem.Spec PyProof.Rows L2

/-! ### forgetting slots -/
def Sub : En → En → Prop
  | [], [] => True
  | a :: as, b :: bs => (b = none ∨ b = a) ∧ Sub as bs
  | _, _ => False
theorem Sub.len : ∀ {as bs : En}, Sub as bs → as.length = bs.length
  | [], [], _ => rfl
  | _ :: _, _ :: _, h => congrArg Nat.succ (Sub.len h.2)
  | [], _ :: _, h => h.elim
  | _ :: _, [], h => h.elim
theorem Sub.at_ : ∀ {as bs : En} {i : Nat} {e : Ent}, Sub as bs → bs[i]? = some (some e) → as[i]? = some (some e)
  | [], [], _, _, _, g => by simp at g
  | a :: as, b :: bs, 0, e, h, g => by
    have g' : b = some e := by simpa using g
    rcases h.1 with z | z
    · rw [z] at g'; cases g'
    · simpa [← z] using g'
  | a :: as, b :: bs, i + 1, e, h, g => by simpa using Sub.at_ h.2 (by simpa using g)
  | [], _ :: _, _, _, h, _ => h.elim
  | _ :: _, [], _, _, h, _ => h.elim
theorem Sub.refl : ∀ as : En, Sub as as
  | [] => trivial
  | _ :: as => ⟨.inr rfl, Sub.refl as⟩
theorem EnvOk.sub {W : Option Addr} {H0 G H : Hp} {σ : L2.St} {Γ Γ' : En} (h : EnvOk W H0 G H σ Γ) (s : Sub Γ Γ') : EnvOk W H0 G H σ Γ' :=
  ⟨h.len.trans s.len, fun i e g => h.at_ i e (s.at_ g), fun i j o o' p g1 g2 => h.sep i j o o' p (s.at_ g1) (s.at_ g2)⟩

/-! ### wiping -/
theorem wipe_at {σ : L2.St} : ∀ {vs : List Nat} {i : Nat}, i ∈ vs → i < σ.length → (wipe σ vs)[i]? = some none
  | v :: vs, i, h, l => by
    unfold wipe
    by_cases e : v = i
    · subst e
      rw [List.getElem?_set_self (by rw [wipe_length]; exact l)]
    · rw [List.getElem?_set_ne e]
      exact wipe_at ((List.mem_cons.mp h).resolve_left (fun z => e z.symm)) l
def Only (js : List Nat) (σ σ' : L2.St) : Prop := σ'.length = σ.length ∧ ∀ j, j ∉ js → σ'[j]? = σ[j]?
theorem Only.wipe {js vs : List Nat} {σ σ' : L2.St} (h : Only js σ σ') (s : ∀ j ∈ js, j ∈ vs) : L2.wipe σ' vs = L2.wipe σ vs := by
  refine List.ext_getElem? fun i => ?_
  by_cases m : i ∈ vs
  · by_cases l : i < σ.length
    · rw [wipe_at m l, wipe_at m (by rw [h.1]; exact l)]
    · rw [List.getElem?_eq_none (by rw [wipe_length, h.1]; omega), List.getElem?_eq_none (by rw [wipe_length]; omega)]
  · rw [wipe_out m, wipe_out m]
    exact h.2 i fun z => m (s i z)
theorem wipe_wipe {σ : L2.St} {vs : List Nat} : L2.wipe (L2.wipe σ vs) vs = L2.wipe σ vs := by
  refine List.ext_getElem? fun i => ?_
  by_cases m : i ∈ vs
  · by_cases l : i < σ.length
    · rw [wipe_at m l, wipe_at m (by rw [wipe_length]; exact l)]
    · rw [List.getElem?_eq_none (by rw [wipe_length, wipe_length]; omega), List.getElem?_eq_none (by rw [wipe_length]; omega)]
  · rw [wipe_out m]
/-- the entries with slots wiped -/
def wipeE (Γ : En) : List Nat → En
  | [] => Γ
  | v :: vs => (wipeE Γ vs).set v none
theorem EnvOk.unset {W : Option Addr} {H0 G H : Hp} {σ : L2.St} {Γ : En} (h : EnvOk W H0 G H σ Γ) (v : Nat) : EnvOk W H0 G H (σ.set v none) (Γ.set v none) := by
  have key : ∀ (i : Nat) (e : Ent), (Γ.set v none)[i]? = some (some e) → v ≠ i ∧ Γ[i]? = some (some e) := fun i e g => by
    by_cases z : v = i
    · subst z
      by_cases l : v < Γ.length
      · rw [List.getElem?_set_self l] at g; cases g
      · rw [List.getElem?_eq_none (by rw [List.length_set]; omega)] at g; cases g
    · rw [List.getElem?_set_ne z] at g
      exact ⟨z, g⟩
  refine ⟨by rw [List.length_set, List.length_set]; exact h.len, fun i e g => ?_, fun i j o o' p g1 g2 g3 g4 => ?_⟩
  · obtain ⟨z, g⟩ := key i e g
    rw [List.getElem?_set_ne z]
    exact h.at_ i e g
  · obtain ⟨z1, g1⟩ := key i _ g1
    obtain ⟨z2, g2⟩ := key j _ g2
    rw [List.getElem?_set_ne z1] at g3
    rw [List.getElem?_set_ne z2] at g4
    exact h.sep i j o o' p g1 g2 g3 g4
theorem EnvOk.wipe {W : Option Addr} {H0 G H : Hp} {σ : L2.St} {Γ : En} (h : EnvOk W H0 G H σ Γ) : ∀ vs : List Nat, EnvOk W H0 G H (L2.wipe σ vs) (wipeE Γ vs)
  | [] => h
  | v :: vs => (EnvOk.wipe h vs).unset v

/-! ### targets -/
/-- values of several kinds -/
def TsOk (G : Hp) : List V → List T → Prop
  | [], [] => True
  | v :: vs, t :: ts => up t G v ∧ TsOk G vs ts
  | _, _ => False
theorem TsOk.lk {G G' : Hp} (l : Lk G G') : ∀ {vs : List V} {ts : List T}, TsOk G vs ts → TsOk G' vs ts
  | [], [], _ => trivial
  | _ :: _, _ :: _, h => ⟨h.1.lk l, TsOk.lk l h.2⟩
  | [], _ :: _, h => h.elim
  | _ :: _, [], h => h.elim
theorem TsOk.length {G : Hp} : ∀ {vs : List V} {ts : List T}, TsOk G vs ts → vs.length = ts.length
  | [], [], _ => rfl
  | _ :: _, _ :: _, h => congrArg Nat.succ (TsOk.length h.2)
  | [], _ :: _, h => h.elim
  | _ :: _, [], h => h.elim
theorem TsOk.of {K : PySem.W.Frag} {G : Hp} : ∀ {vs : List V} {ds : List PyData}, DpAll K G vs ds → TsOk G vs (ds.map (dat K))
  | _, _, .nil => trivial
  | _, _, .cons r t => ⟨up_dat r, TsOk.of t⟩
theorem TsOk.get {G : Hp} : ∀ {vs : List V} {ts : List T} {i : Nat} {t : T}, TsOk G vs ts → ts[i]? = some t → ∃ v, vs[i]? = some v ∧ up t G v
  | [], [], _, _, _, e => by simp at e
  | v :: vs, t0 :: ts, 0, t, h, e => by simp at e; subst e; exact ⟨v, rfl, h.1⟩
  | v :: vs, t0 :: ts, i + 1, t, h, e => by obtain ⟨u, a, b⟩ := TsOk.get h.2 (by simpa using e); exact ⟨u, by simpa using a, b⟩
  | [], _ :: _, _, _, h, _ => h.elim
  | _ :: _, [], _, _, h, _ => h.elim
def tupT (K : PySem.W.Frag) (ts : List T) : T := fun G v => ∃ p xs, v = .ref p ∧ SqT K G p xs ∧ TsOk G xs ts
def lstT (K : PySem.W.Frag) (ts : List T) : T := fun G v => ∃ p xs, v = .ref p ∧ SqL K G p xs ∧ TsOk G xs ts
theorem tupT_of {K : PySem.W.Frag} {ds : List PyData} {G : Hp} {v : V} (h : up (dat K (.tuple ds)) G v) : up (tupT K (ds.map (dat K))) G v := fun G' l => by
  cases (h G' l : Dp K G' v (.tuple ds)) with
  | tup e r => exact ⟨_, _, rfl, e, TsOk.of r⟩
theorem lstT_of {K : PySem.W.Frag} {ds : List PyData} {G : Hp} {v : V} (h : up (dat K (.list ds)) G v) : up (lstT K (ds.map (dat K))) G v := fun G' l => by
  cases (h G' l : Dp K G' v (.list ds)) with
  | lst e r => exact ⟨_, _, rfl, e, TsOk.of r⟩
def cG (K : PySem.W.Frag) (W : Option Addr) (Γ : En) (t : T) (Γ' : En) (js : List Nat) : TG := fun v σ H Q => ∃ H0 G, Frm K W G H ∧ EnvOk W H0 G H σ Γ ∧ up t G v ∧ ∀ σ', EnvOk W H0 G H σ' Γ' → Only js σ σ' → Q σ' H
def cGs (K : PySem.W.Frag) (W : Option Addr) (Γ : En) (ts : List T) (Γ' : En) (js : List Nat) : TGs := fun vs σ H Q => ∃ H0 G, Frm K W G H ∧ EnvOk W H0 G H σ Γ ∧ TsOk G vs ts ∧ ∀ σ', EnvOk W H0 G H σ' Γ' → Only js σ σ' → Q σ' H
theorem pgsI {X : Cx} {ts : List Expr} {t t' : TGs} (h : PGs X ts t) (i : ∀ vs σ H Q, t' vs σ H Q → t vs σ H Q) : PGs X ts t' := ⟨fun pins s σ H vs us Q I r q => h.run pins s σ H vs us Q I r (i vs σ H Q q)⟩
section
variable {P : Program} {w : World} {K : PySem.W.Frag} {mg : Str → Option Value} {base : Heap} {k : Nat} {X : Cx} {W : Option Addr} {Γ Γ1 Γ' : En} {d : PyData} {ds : List PyData} {t : T} {ts : List T} {js js' : List Nat} {x : Str} {pos : Pos}
theorem tg_name (i : Nat) (c : Cok P w K mg base k X) (hi : X.N[i]? = some x := by rfl) (hx : Loc X.env.scope x := by first | exact Or.inl rfl | exact Or.inr rfl) (hf : X.fn x = true ∨ X.env.scope.names.lookup x = some .local := by first | exact .inl rfl | exact .inr rfl) : PG X (.Name x pos) (cG K W Γ t (Γ.set i (some (.fro t))) [i]) :=
  pgI (pg_name c.hN hi hx hf) fun v σ H Q ⟨H0, G, f, en, q, h⟩ => h _ (en.putF f q i) ⟨by rw [List.length_set], fun j hj => List.getElem?_set_ne (fun z => hj (by simp [z]))⟩
theorem tgs_nil : PGs X [] (cGs K W Γ [] Γ []) := pgsI pgs_nil fun vs σ H Q ⟨H0, G, f, en, q, h⟩ => by
  match vs, q with
  | [], _ => exact ⟨rfl, h σ en ⟨rfl, fun _ _ => rfl⟩⟩
  | _ :: _, q => exact q.elim
theorem tgs_cons {e : Expr} {es : List Expr} (h1 : PG X e (cG K W Γ t Γ1 js)) (h2 : PGs X es (cGs K W Γ1 ts Γ' js')) (hs : (assignEach (e :: es) X.env).map (·.2) = assign e X.env :: (assignEach es X.env).map (·.2) := by rfl) : PGs X (e :: es) (cGs K W Γ (t :: ts) Γ' (js ++ js')) :=
  pgsI (pgs_cons h1 h2 hs) fun vs σ H Q ⟨H0, G, f, en, q, h⟩ => by
    match vs, q with
    | [], q => exact q.elim
    | _ :: _, ⟨r, t⟩ =>
      refine ⟨_, _, rfl, H0, G, f, en, r, fun σ1 en1 o1 => ⟨H0, G, f, en1, t, fun σ2 en2 o2 => h σ2 en2 ⟨o2.1.trans o1.1, fun j hj => ?_⟩⟩⟩
      rw [o2.2 j fun z => hj (List.mem_append_right _ z), o1.2 j fun z => hj (List.mem_append_left _ z)]
theorem tg_tup {es : List Expr} {n : Nat} {k0 : Nat} (c : Cok P w K mg base k X) (h : PGs X es (cGs K W Γ ts Γ' js)) (hl : ts.length = n := by rfl) (hn : (assignEach es X.env).length = n := by rfl) (hst : (assignEach es X.env).findIdx? (·.1) = none := by rfl) : PG X (.Tuple es k0 pos) (cG K W Γ (tupT K ts) Γ' js) :=
  pgI (pg_tup c.hc h hn hst) fun v σ H Q ⟨H0, G, f, en, q, k⟩ => by
    obtain ⟨p, xs, rfl, e, r⟩ := up.now q
    exact ⟨p, xs, rfl, by rw [c.hK]; exact f.seqT e, by rw [← hl]; exact r.length, H0, G, f, en, r, k⟩
/-- a, b, .. = e (a tuple, unpacked) -/
theorem sr_unpack {a tg : Expr} {N B C : As} {R : Ent} (ha : Ev X K W Γ a (.fro t)) (hg : PG X tg (cG K W Γ t Γ' js)) (hs : swapsWithSole [tg] a pos.line X.env = pure false := by rfl) (hw : swappedStores [tg] a X.env = pure none := by rfl) (h1 : (assignEach [tg] X.env).map (·.2) = [assign tg X.env] := by rfl) :
    Sr X K W (.Assign [tg] a pos) (envA W Γ) (envA W Γ') B C R :=
  psI (ps_asg ha hg hs hw h1) fun D σ H ⟨H0, G0, G, s, en, n, r⟩ => ⟨H0, G, s.frm, en, fun v H' G' s' q => ⟨H0, G', s'.frm, en.step s', q, fun σ' en' _ => n σ' H' G' (s.trans s') en'⟩⟩
/-- a, b = e1, e2 -/
theorem sr_par (i j : Nat) {y : Str} {a b : Expr} {px py pt pt2 : Pos} {kt k2 : Nat} {e1 e2 : Ent} {B C : As} {R : Ent} (c : Cok P w K mg base k X) (ha : Ea X K W Γ [a, b] [e1, e2]) (n1 : isFro e1 := by exact True.intro) (n2 : isFro e2 := by exact True.intro)
    (hi : X.N[i]? = some x := by rfl) (hj : X.N[j]? = some y := by rfl) (hij : i ≠ j := by decide) (hx : X.env.scope.names.lookup x = some .local := by rfl) (hy : X.env.scope.names.lookup y = some .local := by rfl)
    (hw : swappedStores [.Tuple [.Name x px, .Name y py] kt pt] (.Tuple [a, b] k2 pt2) X.env = pure (some [x, y]) := by rfl)
    (hs : swapsWithSole [.Tuple [.Name x px, .Name y py] kt pt] (.Tuple [a, b] k2 pt2) pos.line X.env = pure false := by rfl) :
    Sr X K W (.Assign [.Tuple [.Name x px, .Name y py] kt pt] (.Tuple [a, b] k2 pt2) pos) (envA W Γ) (envA W ((Γ.set i (some e1)).set j (some e2))) B C R :=
  psI (ps_par c.hc c.hN hi hj hij hx hy ha hw hs) fun D σ H ⟨H0, G0, G, s, en, n, r⟩ => ⟨H0, G, s.frm, en, fun vs H' G' s' q => by
    match vs, q with
    | [v, u], q =>
      obtain ⟨q1, q2, _⟩ := q
      refine ⟨v, u, rfl, n _ H' G' (s.trans s') ?_⟩
      cases e1 with
      | fro t1 =>
        cases e2 with
        | fro t2 => exact ((en.step s').putF s'.frm q1 i).putF s'.frm q2 j
        | own _ => exact n2.elim
        | bag => exact n2.elim
      | own _ => exact n1.elim
      | bag => exact n1.elim
    | [], q => exact q.elim
    | [_], q => exact q.2.elim
    | _ :: _ :: _ :: _, q => exact q.2.2.elim⟩

/-! ### what is walked -/
/-- the iterator J of H1 gives the items ds -/
structure Gives (K : PySem.W.Frag) (W : Option Addr) (G1 : Hp) (J : It) (ts : List T) : Prop where
  goes : ∀ i H' G', i < ts.length → Frm K W G' H' → Same G1 G' → J.go i H'
  stops : ∀ H' G', Frm K W G' H' → Same G1 G' → J.stop ts.length H'
  yields : ∀ i H' G' v H2, i < ts.length → Frm K W G' H' → Same G1 G' → J.yld i H' v H2 → ∃ G2, Step K W G' H' G2 H2 ∧ ∃ t, ts[i]? = some t ∧ up t G2 v
def cI (K : PySem.W.Frag) (W : Option Addr) (Γ : En) (ts : List T) : TI := fun σ H R => ∃ H0 G, Frm K W G H ∧ EnvOk W H0 G H σ Γ ∧ ∀ J H1 G1, Step K W G H G1 H1 → Gives K W G1 J ts → R J H1
theorem piI {tg iter : Expr} {t t' : TI} (h : PI X tg iter t) (i : ∀ σ H R, t' σ H R → t σ H R) : PI X tg iter t' := ⟨fun pins s σ H R I q => h.run pins s σ H R I (i σ H R q)⟩
variable {tg iter l a b : Expr} {W0 : Option Addr}
theorem gives_lst {G1 : Hp} {p : Addr} {xs : List V} (hs : SqL K G1 p xs) (hd : TsOk G1 xs ts) : Gives K W G1 (Itl K p) ts where
  goes := fun i H' G' lt f s => ⟨xs, xs[i]'(by rw [hd.length]; exact lt), f.seqL (s.seq hs), by simp [show i < xs.length by rw [hd.length]; exact lt]⟩
  stops := fun H' G' f s => ⟨xs, f.seqL (s.seq hs), by rw [hd.length]; exact Nat.le_refl _⟩
  yields := fun i H' G' v H2 lt f s y => by
    obtain ⟨rfl, y⟩ := y
    have e : ts[i]? = some ts[i] := by simp [lt]
    obtain ⟨u, h1, h2⟩ := hd.get e
    have h3 := y xs (f.seqL (s.seq hs))
    rw [h1] at h3
    cases h3
    exact ⟨G', Step.refl f, _, e, h2.lk (Lk.same s)⟩
theorem gives_tup {G1 : Hp} {p : Addr} {xs : List V} (hs : SqT K G1 p xs) (hd : TsOk G1 xs ts) : Gives K W G1 (Itt K p) ts where
  goes := fun i H' G' lt f s => ⟨xs, xs[i]'(by rw [hd.length]; exact lt), f.seqT ((Lk.same s).tup hs), by simp [show i < xs.length by rw [hd.length]; exact lt]⟩
  stops := fun H' G' f s => ⟨xs, f.seqT ((Lk.same s).tup hs), by rw [hd.length]; exact Nat.le_refl _⟩
  yields := fun i H' G' v H2 lt f s y => by
    obtain ⟨rfl, y⟩ := y
    have e : ts[i]? = some ts[i] := by simp [lt]
    obtain ⟨u, h1, h2⟩ := hd.get e
    have h3 := y xs (f.seqT ((Lk.same s).tup hs))
    rw [h1] at h3
    cases h3
    exact ⟨G', Step.refl f, _, e, h2.lk (Lk.same s)⟩
theorem it_lstT (c : Cok P w K mg base k X) (h : Ev X K W Γ l (.fro (lstT K ts))) : PI X tg l (cI K W Γ ts) :=
  piI (pi_list h) fun σ H R ⟨H0, G, f, en, q⟩ => ⟨H0, G, f, en, fun v H1 G1 s1 q1 => by
    obtain ⟨p, xs, rfl, hs, hd⟩ := up.now q1
    refine ⟨p, rfl, ⟨xs, by rw [c.hK]; exact s1.frm.seqL hs⟩, ?_⟩
    rw [c.hK]
    exact q _ H1 G1 s1 (gives_lst hs hd)⟩
theorem it_tupT (c : Cok P w K mg base k X) (h : Ev X K W Γ l (.fro (tupT K ts))) : PI X tg l (cI K W Γ ts) :=
  piI (pi_tup h) fun σ H R ⟨H0, G, f, en, q⟩ => ⟨H0, G, f, en, fun v H1 G1 s1 q1 => by
    obtain ⟨p, xs, rfl, hs, hd⟩ := up.now q1
    refine ⟨p, rfl, ⟨xs, by rw [c.hK]; exact s1.frm.seqT hs⟩, ?_⟩
    rw [c.hK]
    exact q _ H1 G1 s1 (gives_tup hs hd)⟩
/-- over data, told by what they encode -/
theorem it_lst {α : Type} (xs : List α) (enc : α → PyData) (c : Cok P w K mg base k X) (h : Ev X K W Γ l (Dt K (.list (xs.map enc)))) : PI X tg l (cI K W Γ (xs.map fun y => dat K (enc y))) := by
  have e : (xs.map fun y => dat K (enc y)) = (xs.map enc).map (dat K) := by rw [List.map_map]; rfl
  rw [e]
  exact it_lstT c (ev_to h fun _ _ _ _ q => lstT_of q)
theorem it_tup {α : Type} (xs : List α) (enc : α → PyData) (c : Cok P w K mg base k X) (h : Ev X K W Γ l (Dt K (.tuple (xs.map enc)))) : PI X tg l (cI K W Γ (xs.map fun y => dat K (enc y))) := by
  have e : (xs.map fun y => dat K (enc y)) = (xs.map enc).map (dat K) := by rw [List.map_map]; rfl
  rw [e]
  exact it_tupT c (ev_to h fun _ _ _ _ q => tupT_of q)
/-- a tuple of data is unpacked -/
theorem tg_dat {es : List Expr} {n : Nat} {k0 : Nat} (ds : List PyData) (c : Cok P w K mg base k X) (h : PGs X es (cGs K W Γ (ds.map (dat K)) Γ' js)) (hl : ds.length = n := by rfl) (hn : (assignEach es X.env).length = n := by rfl) (hst : (assignEach es X.env).findIdx? (·.1) = none := by rfl) : PG X (.Tuple es k0 pos) (cG K W Γ (dat K (.tuple ds)) Γ' js) :=
  pgI (tg_tup c h (by rw [List.length_map]; exact hl) hn hst) fun v σ H Q ⟨H0, G, f, en, q, k⟩ => ⟨H0, G, f, en, tupT_of q, k⟩
/-- a text's signs -/
def sgn (n : Nat) : PyData := .str (txt [n])
theorem it_str {cs : List Nat} (h : Ev X K W Γ l (Dt K (.str (txt cs)))) : PI X tg l (cI K W Γ (cs.map fun n => dat K (sgn n))) :=
  piI (pi_str h) fun σ H R ⟨H0, G, f, en, q⟩ => ⟨H0, G, f, en, fun v H1 G1 s1 q1 => by
    refine ⟨_, dt_str q1, ?_⟩
    have sz : (txt cs).cps.size = cs.length := by simp [txt]
    refine q _ H1 G1 s1 ⟨fun i H' G' lt f s => ?_, fun H' G' f s => ?_, fun i H' G' v H2 lt f s y => ?_⟩
    · rw [List.length_map] at lt
      exact (by rw [sz]; exact lt : i < (txt cs).cps.size)
    · exact (by rw [sz, List.length_map]; exact Nat.le_refl _ : (txt cs).cps.size ≤ (cs.map fun n => dat K (sgn n)).length)
    · obtain ⟨rfl, n, hn, rfl⟩ := y
      refine ⟨G', Step.refl f, dat K (sgn n), ?_, up_dat (.str _)⟩
      have : cs[i]? = some n := by simpa [txt] using hn
      rw [List.getElem?_map, this]
      rfl⟩
/-- range(n), range(a, b) -/
theorem gives_rng {G1 : Hp} {lo : Int} {n : Nat} : Gives K W G1 (Itr lo n) ((List.range n).map fun i => dat K (.int (lo + (i : Nat)))) where
  goes := fun i H' G' lt f s => by show i < n; simpa using lt
  stops := fun H' G' f s => by show n ≤ _; simp
  yields := fun i H' G' v H2 lt f s y => by
    obtain ⟨rfl, rfl⟩ := y
    refine ⟨G', Step.refl f, dat K (.int (lo + (i : Nat))), ?_, up_dat (.int _)⟩
    have lt' : i < n := by simpa using lt
    simp [lt']
theorem it_range1 {p : Pos} {n : Nat} (c : Cok P w K mg base k X) (hm : mg "range" = none) (ha : Ea X K W Γ [a] [Dt K (.int (n : Nat))]) (hn : n ≤ 1000000 := by omega) (hg : Gl X "range" := by rfl) (hs : starEach [a] X.env = [(false, eval a X.env)] := by rfl) : PI X tg (.Call (.Name "range" p) [a] [] pos) (cI K W Γ ((List.range n).map fun i => dat K (.int ((i : Nat) : Int)))) :=
  piI (pi_range1 hg (by rw [c.hmg]; exact hm) ha hs) fun σ H R ⟨H0, G, f, en, q⟩ => ⟨H0, G, f, en, fun vs H1 G1 s1 q1 => by
    match vs, q1 with
    | [v], q1 =>
      refine ⟨_, by rw [dt_int q1.1], by omega, by omega, ?_⟩
      refine q _ H1 G1 s1 ?_
      have g := gives_rng (K := K) (W := W) (G1 := G1) (lo := 0) (n := n)
      simp only [Int.zero_add] at g
      exact g
    | [], q1 => exact q1.elim
    | _ :: _ :: _, q1 => exact q1.2.elim⟩
theorem it_range2 {p : Pos} {lo hi : Int} (c : Cok P w K mg base k X) (hm : mg "range" = none) (ha : Ea X K W Γ [a, b] [Dt K (.int lo), Dt K (.int hi)]) (h1 : -1000000 ≤ lo) (h2 : hi ≤ 1000000) (h3 : lo ≤ 1000000) (h4 : -1000000 ≤ hi) (hg : Gl X "range" := by rfl) (hs : starEach [a, b] X.env = [(false, eval a X.env), (false, eval b X.env)] := by rfl) (hs2 : starEach [b] X.env = [(false, eval b X.env)] := by rfl) :
    PI X tg (.Call (.Name "range" p) [a, b] [] pos) (cI K W Γ ((List.range (hi - lo).toNat).map fun i => dat K (.int (lo + (i : Nat))))) :=
  piI (pi_range2 hg (by rw [c.hmg]; exact hm) ha hs hs2) fun σ H R ⟨H0, G, f, en, q⟩ => ⟨H0, G, f, en, fun vs H1 G1 s1 q1 => by
    match vs, q1 with
    | [v, u], q1 =>
      refine ⟨_, _, by rw [dt_int q1.1, dt_int q1.2.1], ?_, q _ H1 G1 s1 gives_rng⟩
      omega
    | [], q1 => exact q1.elim
    | [_], q1 => exact q1.2.elim
    | _ :: _ :: _ :: _, q1 => exact q1.2.2.elim⟩
end
end Cs

set_option Elab.async false
set_option linter.all false
set_option autoImplicit false
set_option maxRecDepth 100000
set_option maxHeartbeats 4000000
/-! The layer, part E: for, while, comprehensions. -/
namespace Cs
open PySem PySem.Spec PyProof.Rows L2

theorem psI' {X : Cx} {st : Stmt} {t t' : TS} (h : PS X st t) (i : ∀ D σ H, t' D σ H → t D σ H) : PS X st t' := psI h i
/-- one of many readings -/
theorem pss_ex {X : Cx} {ι : Type} {st : List Stmt} {f : ι → TS} (p : ι → Prop) (h : ∀ i, p i → PSs X st (f i)) : PSs X st (fun D σ H => ∃ i, p i ∧ f i D σ H) :=
  ⟨fun pins s σ H D I q => by obtain ⟨i, hi, q⟩ := q; exact (h i hi).run pins s σ H D I q⟩
theorem pg_ex {X : Cx} {ι : Type} {tg : Expr} {f : ι → TG} (p : ι → Prop) (h : ∀ i, p i → PG X tg (f i)) : PG X tg (fun v σ H Q => ∃ i, p i ∧ f i v σ H Q) :=
  ⟨fun pins s σ H v u Q I r q => by obtain ⟨i, hi, q⟩ := q; exact (h i hi).run pins s σ H v u Q I r q⟩
theorem pe_ex {X : Cx} {ι : Type} {e : Expr} {f : ι → TE} (p : ι → Prop) (h : ∀ i, p i → PE X e (f i)) : PE X e (fun σ H Q => ∃ i, p i ∧ f i σ H Q) :=
  ⟨fun pins s σ H Q I q => by obtain ⟨i, hi, q⟩ := q; exact (h i hi).run pins s σ H Q I q⟩
theorem pts_ex {X : Cx} {ι : Type} {es : List Expr} {f : ι → TT} (p : ι → Prop) (h : ∀ i, p i → PTs X es (f i)) : PTs X es (fun σ H Q => ∃ i, p i ∧ f i σ H Q) :=
  ⟨fun pins s σ H Q I q => by obtain ⟨i, hi, q⟩ := q; exact (h i hi).run pins s σ H Q I q⟩
theorem pi_ex {X : Cx} {ι : Type} {tg e : Expr} {f : ι → TI} (p : ι → Prop) (h : ∀ i, p i → PI X tg e (f i)) : PI X tg e (fun σ H Q => ∃ i, p i ∧ f i σ H Q) :=
  ⟨fun pins s σ H Q I q => by obtain ⟨i, hi, q⟩ := q; exact (h i hi).run pins s σ H Q I q⟩

section
variable {P : Program} {w : World} {K : PySem.W.Frag} {mg : Str → Option Value} {base : Heap} {k : Nat} {X : Cx} {W : Option Addr} {Γ Γ' : En} {d : PyData} {ds : List PyData} {js : List Nat} {x : Str} {pos : Pos} {tg iter : Expr} {body : List Stmt} {N B C : As} {R : Ent} {α : Type}

/-- where the walk stands: i items are gone through -/
theorem split_at {xs : List α} {i : Nat} {y : α} (h : xs[i]? = some y) : xs = xs.take i ++ y :: xs.drop (i + 1) ∧ xs.take (i + 1) = xs.take i ++ [y] := by
  have l : i < xs.length := (List.getElem?_eq_some_iff.mp h).1
  have e : xs[i] = y := (List.getElem?_eq_some_iff.mp h).2
  constructor
  · rw [← e, List.getElem_cons_drop, List.take_append_drop]
  · rw [List.take_succ, h]
    rfl
/-- for tg in iter: body, over the items enc x, x in xs; J pre: the names' entries behind the part pre; Jt pre x: .. with the target stored -/
theorem sr_for (xs : List α) (enc : α → T) (J : List α → En) (Jt : List α → α → En) (c : Cok P w K mg base k X) (hi : PI X tg iter (cI K W Γ (xs.map enc))) (h0 : Sub Γ (J []))
    (hg : ∀ pre y post, xs = pre ++ y :: post → PG X tg (cG K W (J pre) (enc y) (Jt pre y) js)) (hb : ∀ pre y post, xs = pre ++ y :: post → Srs X K W body (envA W (Jt pre y)) (envA W (J (pre ++ [y]))) N (envA W (J (pre ++ [y]))) R)
    (hd : ∀ H0 G H σ, EnvOk W H0 G H σ (J xs) → N H0 G H σ) (hp : PassesOwn (model X.prog X.w) X.A X.env X.xe := by exact PassesOwn.never) (hs : ∀ x, foldedSetIterable iter X.env x = pure x := by intro _; rfl) : Sr X K W (.For tg iter body [] pos) (envA W Γ) N B C R := by
  refine psI (ps_for hp c.hc hi (pg_ex (ι := List α × α) (fun i => ∃ post, xs = i.1 ++ i.2 :: post) fun i ⟨post, e⟩ => hg i.1 i.2 post e) (pss_ex (ι := List α × α) (fun i => ∃ post, xs = i.1 ++ i.2 :: post) fun i ⟨post, e⟩ => hb i.1 i.2 post e) hs) ?_
  intro D σ H ⟨H0, G0, G, s0, en, n, rt, bk, ct⟩
  refine ⟨H0, G, s0.frm, en, fun It H1 G1 s1 gv => ?_⟩
  let Pv : Nat → L2.St → Hp → Prop := fun i σ' H' => ∃ G', Step K W G0 H0 G' H' ∧ Same G1 G' ∧ EnvOk W H0 G' H' σ' (J (xs.take i))
  have ws : Walk It xs.length (fun H' => ∃ G', Frm K W G' H' ∧ Same G1 G') (fun i H' v H2 => ∀ G', Frm K W G' H' → Same G1 G' → ∃ G2, Step K W G' H' G2 H2 ∧ ∃ y, xs[i]? = some y ∧ up (enc y) G2 v) :=
    ⟨fun i H' lt ⟨G', f, s⟩ => gv.goes i H' G' (by rw [List.length_map]; exact lt) f s, fun H' ⟨G', f, s⟩ => by have := gv.stops H' G' f s; rw [List.length_map] at this; exact this, fun i H' v H2 lt _ y G' f s => by
      obtain ⟨G2, s2, d, e, q⟩ := gv.yields i H' G' v H2 (by rw [List.length_map]; exact lt) f s y
      rw [List.getElem?_map] at e
      cases z : xs[i]? with
      | none => rw [z] at e; cases e
      | some y0 => rw [z] at e; cases e; exact ⟨G2, s2, y0, rfl, q⟩⟩
  refine for_it (D := D) (g := fun v σ H Q => ∃ i : List α × α, (∃ post, xs = i.1 ++ i.2 :: post) ∧ cG K W (J i.1) (enc i.2) (Jt i.1 i.2) js v σ H Q)
    (tb := fun D σ H => ∃ i : List α × α, (∃ post, xs = i.1 ++ i.2 :: post) ∧ cS K W (envA W (Jt i.1 i.2)) (envA W (J (i.1 ++ [i.2]))) N (envA W (J (i.1 ++ [i.2]))) R D σ H) ws Pv ⟨G1, s0.trans s1, Same.refl _, (en.step s1).sub h0⟩ (fun i σ' H' _ ⟨G', s, l, _⟩ => ⟨G', s.frm, l⟩) (fun i v σ' H' H2 lt ⟨G', s, l, en'⟩ y => ?_) (fun σ' H' ⟨G', s, l, en'⟩ => ?_)
  · obtain ⟨G2, s2, y0, ey, q⟩ := y G' s.frm l
    obtain ⟨e1, e2⟩ := split_at ey
    have st := s.trans s2
    refine ⟨(xs.take i, y0), ⟨_, e1⟩, H0, G2, s2.frm, en'.step s2, q, fun σ2 en2 _ => ⟨(xs.take i, y0), ⟨_, e1⟩, H0, G2, G2, st.re, en2, fun σ3 H3 G3 s3 en3 => ?_, fun u H3 G3 s3 q3 => rt u H3 G3 (st.cat s3) q3, fun σ3 H3 G3 s3 q3 => n σ3 H3 G3 (st.cat s3) q3, fun σ3 H3 G3 s3 en3 => ?_⟩⟩
    · exact ⟨G3, st.cat s3, (l.trans s2.gro).trans s3.gro, by rw [e2]; exact en3⟩
    · exact ⟨G3, st.cat s3, (l.trans s2.gro).trans s3.gro, by rw [e2]; exact en3⟩
  · rw [List.take_length] at en'
    exact n σ' H' G' s (hd _ _ _ _ en')
/-! ### list comprehensions -/
theorem tsts_nil : PTs X [] (cT K W Γ (fun b => b = true)) := ptsI pts_nil fun σ H Q ⟨H0, G, f, en, k⟩ => k true H G (Step.refl f) rfl
theorem tsts_one {a : Expr} {Bv : Bool → Prop} (h : Tst X K W Γ a Bv) : PTs X [a] (cT K W Γ Bv) := pts_one h
/-- one's own list, some one -/
def exO (K : PySem.W.Frag) (p : List PyData → Prop) : OwnP := fun a G o => ∃ ys, p ys ∧ lstO K ys a G o
theorem ev_still {e : Expr} {o : OwnP} {t : T} (h : Ev X K W Γ e (.own o)) (ht : ∀ G p ho, G p = some ho → (∀ G', Lk G G' → o p G' ho) → up t G (.ref p)) : Ev X K W Γ e (.fro t) :=
  peI h fun σ H Q ⟨H0, G, f, en, k⟩ => ⟨H0, G, f, en, fun v H' G' s q => by
    obtain ⟨p, ho, rfl, h0, gp, hp, nw, q⟩ := q
    exact k _ H' _ (s.still h0 gp hp nw.1) (ht _ p ho upd_same fun G2 l => q G2 ((Lk.same (same_new gp)).trans l))⟩
theorem still_ex {p : List PyData → Prop} {G : Hp} {a : Addr} {ho : HO} (hp : G a = some ho) (h : ∀ G', Lk G G' → exO K p a G' ho) : up (exD K p .list) G (.ref a) := fun G' l => by
  obtain ⟨ys, py, vs, rfl, r⟩ := h G' l
  exact ⟨ys, py, .lst (l.lst (SqL.of hp)) r⟩
theorem still_one {ys : List PyData} {G : Hp} {a : Addr} {ho : HO} (hp : G a = some ho) (h : ∀ G', Lk G G' → exO K (fun z => z = ys) a G' ho) : up (dat K (.list ys)) G (.ref a) := fun G' l => by
  obtain ⟨zs, rfl, vs, rfl, r⟩ := h G' l
  exact .lst (l.lst (SqL.of hp)) r
theorem still_lst {ys : List PyData} {G : Hp} {a : Addr} {ho : HO} (hp : G a = some ho) (h : ∀ G', Lk G G' → lstO K ys a G' ho) : up (dat K (.list ys)) G (.ref a) := fun G' l => by
  obtain ⟨vs, rfl, r⟩ := h G' l
  exact .lst (l.lst (SqL.of hp)) r
abbrev Blk (X : Cx) (scope : Scope) (s : Shared) (H : Hp) (C : Addr) (cl : List (Str × Addr)) (fp : List Addr) : Cx := X.blk s H scope (compEnvC scope cl C X.env) fp
/-- [elt for tg in iter if ..], the result by Pv: what may have been made of a part -/
theorem lc_run {own : List (Str × Nat)} {xs : List α} {enc : α → T} {Pv : List α → List PyData → Prop} {Jt : α → En} {Bt : α → Bool → Prop} {pe : α → PyData → Prop}
    (js2 : ∀ j ∈ js, j ∈ own.map (·.2)) (P0 : Pv [] []) (P1 : ∀ pre y post ys d, xs = pre ++ y :: post → Pv pre ys → Bt y true → pe y d → Pv (pre ++ [y]) (ys ++ [d])) (P2 : ∀ pre y post ys, xs = pre ++ y :: post → Pv pre ys → Bt y false → Pv (pre ++ [y]) ys)
    (hz : xs.length ≤ 16777000) {σ : L2.St} {H : Hp} {Q : VK} (h : cE K W Γ (.own (exO K (Pv xs))) σ H Q) :
    tLc (cI K W Γ (xs.map enc)) (fun v σ H Q => ∃ y : α, y ∈ xs ∧ cG K W (wipeE Γ (own.map (·.2))) (enc y) (Jt y) js v σ H Q) (fun σ H Q => ∃ y : α, y ∈ xs ∧ cT K W (Jt y) (Bt y) σ H Q)
      (fun σ H Q => ∃ y : α, (y ∈ xs ∧ Bt y true) ∧ cE K W (Jt y) (.fro (exD K (pe y) fun d => d)) σ H Q) (own.map (·.2)) σ H Q := by
  obtain ⟨H0, G, f, en, kk⟩ := h
  refine ⟨H0, G, f, en, fun It H1 G1 s1 gv D hD => ?_⟩
  let Pw : Nat → Hp → Prop := fun i H' => ∃ G' vs ys, Step K W G1 H1 G' H' ∧ G' D = none ∧ H' D = some (.lst vs) ∧ DpAll K G' vs ys ∧ Pv (xs.take i) ys ∧ ys.length ≤ i
  have nD : W ≠ some D := s1.frm.neB hD
  have ws : Walk It xs.length (fun H' => ∃ G', Frm K W G' H' ∧ Same G1 G') (fun i H' v H2 => ∀ G', Frm K W G' H' → Same G1 G' → ∃ G2, Step K W G' H' G2 H2 ∧ ∃ y, xs[i]? = some y ∧ up (enc y) G2 v) :=
    ⟨fun i H' lt ⟨G', f, s⟩ => gv.goes i H' G' (by rw [List.length_map]; exact lt) f s, fun H' ⟨G', f, s⟩ => by have := gv.stops H' G' f s; rw [List.length_map] at this; exact this, fun i H' v H2 lt _ y G' f s => by
      obtain ⟨G2, s2, d, e, q⟩ := gv.yields i H' G' v H2 (by rw [List.length_map]; exact lt) f s y
      rw [List.getElem?_map] at e
      cases z : xs[i]? with
      | none => rw [z] at e; cases e
      | some y0 => rw [z] at e; cases e; exact ⟨G2, s2, y0, rfl, q⟩⟩
  have st0 : Step K W G1 H1 G1 (upd H1 D (.lst [])) := Step.mine s1.frm hD
  have freeD : ∀ {G' G'' H' H'' : Hp}, Step K W G' H' G'' H'' → G' D = none → (∃ o, H' D = some (.lst o)) → G'' D = none := fun {G' G'' H' H''} s g ⟨o, e⟩ => by
    cases q : G'' D with
    | none => rfl
    | some u =>
      rcases s.new D u g q with z | ⟨xs, z⟩
      · rw [e] at z
        cases z
      · rw [e] at z
        cases z
  refine lc_it (D := D) (g := fun v σ H Q => ∃ y : α, y ∈ xs ∧ cG K W (wipeE Γ (own.map (·.2))) (enc y) (Jt y) js v σ H Q) (tt := fun σ H Q => ∃ y : α, y ∈ xs ∧ cT K W (Jt y) (Bt y) σ H Q)
    (te := fun σ H Q => ∃ y : α, (y ∈ xs ∧ Bt y true) ∧ cE K W (Jt y) (.fro (exD K (pe y) fun d => d)) σ H Q) ws Pw ⟨G1, [], [], st0, s1.frm.free hD, upd_same, .nil, P0, Nat.le_refl _⟩ (fun i H' _ ⟨G', vs, ys, s, _⟩ => ⟨G', s.frm, s.gro⟩) (fun i v H' H2 lt ⟨G', vs, ys, s, gD, eD, rD, pD, lD⟩ y => ?_) (fun H' ⟨G', vs, ys, s, gD, eD, rD, pD, lD⟩ => ?_)
  · obtain ⟨G2, s2, y0, ey, q⟩ := y G' s.frm s.gro
    obtain ⟨e1, e2⟩ := split_at ey
    have my : y0 ∈ xs := List.mem_of_getElem? ey
    refine ⟨y0, my, H0, G2, s2.frm, ((en.step (s1.trans s)).step s2).wipe _, q, fun σ2 en2 on2 => ⟨?_, y0, my, H0, G2, s2.frm, en2, fun b H3 G3 s3 hb => ?_⟩⟩
    · rw [on2.wipe js2, wipe_wipe]
    · have eD3 : ∃ o, H' D = some (.lst o) := ⟨_, eD⟩
      have s23 := s2.trans s3
      cases b with
      | true =>
        refine iteT ⟨y0, ⟨my, hb⟩, H0, G3, s3.frm, en2.step s3, fun u H4 G4 s4 q4 => ?_⟩
        obtain ⟨d, pd, qd⟩ := ex_get q4
        have s24 := s23.trans s4
        have gD4 := freeD s24 gD eD3
        have eD4 := s24.keep D _ eD nD
        refine ⟨vs, eD4, by rw [rD.length]; have : sizeLine = 16777216 := sizeLine_eq; omega, G4, vs ++ [u], ys ++ [d], (s.trans s24).chg hD gD4 nD, gD4, upd_same, ((Lk.same s24.gro).datAll rD).append (.cons (dt_dp qd) .nil), ?_, ?_⟩
        · rw [e2]; exact P1 _ _ _ _ _ e1 pD hb pd
        · rw [List.length_append]; exact Nat.succ_le_succ lD
      | false =>
        refine iteF ⟨G3, vs, ys, s.trans s23, freeD s23 gD eD3, s23.keep D _ eD nD, (Lk.same s23.gro).datAll rD, ?_, Nat.le_succ_of_le lD⟩
        rw [e2]; exact P2 _ _ _ _ e1 pD hb
  · rw [List.take_length] at pD
    exact kk _ H' G' (s1.trans s) ⟨D, _, rfl, s1.free hD, gD, eD, ⟨nD, True.intro⟩, fun G2 l => ⟨ys, pD, vs, rfl, l.datAll rD⟩⟩
theorem cE_still {o : OwnP} {t : T} (ht : ∀ G p ho, G p = some ho → (∀ G', Lk G G' → o p G' ho) → up t G (.ref p)) {σ : L2.St} {H : Hp} {Q : VK} (h : cE K W Γ (.fro t) σ H Q) : cE K W Γ (.own o) σ H Q := by
  obtain ⟨H0, G, f, en, k⟩ := h
  refine ⟨H0, G, f, en, fun v H' G' s q => ?_⟩
  obtain ⟨p, ho, rfl, h0, gp, hp, nw, q⟩ := q
  exact k _ H' _ (s.still h0 gp hp nw.1) (ht _ p ho upd_same fun G2 l => q G2 ((Lk.same (same_new gp)).trans l))
theorem cE_imp {e1 e2 : Ent} (i : ∀ H0 G H v, EntOk W H0 G H v e1 → EntOk W H0 G H v e2) {σ : L2.St} {H : Hp} {Q : VK} (h : cE K W Γ e2 σ H Q) : cE K W Γ e1 σ H Q := by
  obtain ⟨H0, G, f, en, k⟩ := h
  exact ⟨H0, G, f, en, fun v H' G' s q => k v H' G' s (i _ _ _ _ q)⟩
/-- a list comprehension gives e -/
def LcOk (X : Cx) (K : PySem.W.Frag) (W : Option Addr) (Γ : En) (elt tg iter : Expr) (ifs : List Expr) (scope : Scope) (own : List (Str × Nat)) (e : Ent) : Prop :=
  ∃ (wi : TI) (g : TG) (tt : TT) (te : TE), PI X tg iter wi ∧ BlkOk X.N X.env.scope scope own ∧ (∀ s H C cl fp, PG (Blk X scope s H C cl fp) tg g) ∧ (∀ s H C cl fp, PTs (Blk X scope s H C cl fp) ifs tt) ∧ (∀ s H C cl fp, PE (Blk X scope s H C cl fp) elt te) ∧
    ∀ σ H Q, cE K W Γ e σ H Q → tLc wi g tt te (own.map (·.2)) σ H Q
theorem lc_any {elt : Expr} {ifs : List Expr} {scope : Scope} {own : List (Str × Nat)} {xs : List α} {enc : α → T} (Pv : List α → List PyData → Prop) {Jt : α → En} (Bt : α → Bool → Prop) (pe : α → PyData → Prop)
    (hi : PI X tg iter (cI K W Γ (xs.map enc))) (ok : BlkOk X.N X.env.scope scope own) (hg : ∀ y ∈ xs, ∀ s H C cl fp, PG (Blk X scope s H C cl fp) tg (cG K W (wipeE Γ (own.map (·.2))) (enc y) (Jt y) js))
    (ht : ∀ y ∈ xs, ∀ s H C cl fp, PTs (Blk X scope s H C cl fp) ifs (cT K W (Jt y) (Bt y))) (he : ∀ y ∈ xs, Bt y true → ∀ s H C cl fp, Ev (Blk X scope s H C cl fp) K W (Jt y) elt (.fro (exD K (pe y) fun d => d)))
    (js2 : ∀ j ∈ js, j ∈ own.map (·.2)) (P0 : Pv [] []) (P1 : ∀ pre y post ys d, xs = pre ++ y :: post → Pv pre ys → Bt y true → pe y d → Pv (pre ++ [y]) (ys ++ [d])) (P2 : ∀ pre y post ys, xs = pre ++ y :: post → Pv pre ys → Bt y false → Pv (pre ++ [y]) ys)
    (hz : xs.length ≤ 16777000) : LcOk X K W Γ elt tg iter ifs scope own (.own (exO K (Pv xs))) :=
  ⟨_, _, _, _, hi, ok, fun s H C cl fp => pg_ex (fun y => y ∈ xs) fun y hy => hg y hy s H C cl fp, fun s H C cl fp => pts_ex (fun y => y ∈ xs) fun y hy => ht y hy s H C cl fp, fun s H C cl fp => pe_ex (fun y => y ∈ xs ∧ Bt y true) fun y hy => he y hy.1 hy.2 s H C cl fp,
    fun σ H Q h => lc_run js2 P0 P1 P2 hz h⟩
theorem lc_still {elt : Expr} {ifs : List Expr} {scope : Scope} {own : List (Str × Nat)} {o : OwnP} {t : T} (h : LcOk X K W Γ elt tg iter ifs scope own (.own o)) (ht : ∀ G p ho, G p = some ho → (∀ G', Lk G G' → o p G' ho) → up t G (.ref p)) : LcOk X K W Γ elt tg iter ifs scope own (.fro t) := by
  obtain ⟨wi, g, tt, te, h1, h2, h3, h4, h5, h6⟩ := h
  exact ⟨wi, g, tt, te, h1, h2, h3, h4, h5, fun σ H Q q => h6 σ H Q (cE_still ht q)⟩
theorem lc_to {elt : Expr} {ifs : List Expr} {scope : Scope} {own : List (Str × Nat)} {e1 e2 : Ent} (h : LcOk X K W Γ elt tg iter ifs scope own e1) (i : ∀ H0 G H v, EntOk W H0 G H v e1 → EntOk W H0 G H v e2) : LcOk X K W Γ elt tg iter ifs scope own e2 := by
  obtain ⟨wi, g, tt, te, h1, h2, h3, h4, h5, h6⟩ := h
  exact ⟨wi, g, tt, te, h1, h2, h3, h4, h5, fun σ H Q q => h6 σ H Q (cE_imp i q)⟩
theorem ev_lc {elt : Expr} {ifs : List Expr} {scope : Scope} {own : List (Str × Nat)} {e : Ent} (c : Cok P w K mg base k X) (h : LcOk X K W Γ elt tg iter ifs scope own e) (hs : ∀ x, foldedSetIterable iter X.env x = pure x := by intro _; rfl) : Ev X K W Γ (.ListComp elt [⟨tg, iter, ifs, 0⟩] scope pos) e := by
  obtain ⟨wi, g, tt, te, h1, h2, h3, h4, h5, h6⟩ := h
  exact peI (pe_lc c.hc c.hN h1 h2 h3 h4 h5 hs) h6
/-- y = [..] -/
theorem sr_setLc (i : Nat) {y : Str} {py spos : Pos} {elt : Expr} {ifs : List Expr} {scope : Scope} {own : List (Str × Nat)} {e : Ent} (c : Cok P w K mg base k X) (h : LcOk X K W Γ elt tg iter ifs scope own e) (hy : X.N[i]? = some y := by rfl) (hyl : X.env.scope.names.lookup y = some .local := by rfl)
    (hsw : swapsWith (.ListComp elt [⟨tg, iter, ifs, 0⟩] scope pos) (some (.Name y py)) spos.line X.env = pure true := by exact sw_true rfl rfl rfl (by decide +kernel)) (hs : ∀ x, foldedSetIterable iter X.env x = pure x := by intro _; rfl) :
    Sr X K W (.Assign [.Name y py] (.ListComp elt [⟨tg, iter, ifs, 0⟩] scope pos) spos) (envA W Γ) (envA W (Γ.set i (some e))) B C R := by
  obtain ⟨wi, g, tt, te, h1, h2, h3, h4, h5, h6⟩ := h
  exact psI (ps_setLc c.hc c.hN hy hyl hsw h1 h2 h3 h4 h5 hs) fun D σ H ⟨H0, G0, G, s, en, n, r⟩ => h6 σ H _ ⟨H0, G, s.frm, en, fun v H' G' s' q => n _ H' G' (s.trans s') (en.put s' q (fun a z => s.free z) i)⟩
/-- [f y for y in xs if p y], told exactly -/
theorem lc_sel {elt : Expr} {ifs : List Expr} {scope : Scope} {own : List (Str × Nat)} {xs : List α} {enc : α → T} (p : α → Bool) (f : α → PyData) {Jt : α → En} (hi : PI X tg iter (cI K W Γ (xs.map enc))) (ok : BlkOk X.N X.env.scope scope own)
    (hg : ∀ y ∈ xs, ∀ s H C cl fp, PG (Blk X scope s H C cl fp) tg (cG K W (wipeE Γ (own.map (·.2))) (enc y) (Jt y) js)) (ht : ∀ y ∈ xs, ∀ s H C cl fp, PTs (Blk X scope s H C cl fp) ifs (cT K W (Jt y) (fun b => b = p y)))
    (he : ∀ y ∈ xs, p y = true → ∀ s H C cl fp, Ev (Blk X scope s H C cl fp) K W (Jt y) elt (Dt K (f y))) (js2 : ∀ j ∈ js, j ∈ own.map (·.2)) (hz : xs.length ≤ 16777000) : LcOk X K W Γ elt tg iter ifs scope own (.own (lstO K ((xs.filter p).map f))) :=
  lc_to (lc_any (fun pre ys => ys = (pre.filter p).map f) (fun y b => b = p y) (fun y d => d = f y) hi ok hg ht (fun y hy hb s H C cl fp => ev_to (he y hy hb.symm s H C cl fp) fun _ _ _ _ q => ex_of (enc := fun d => d) rfl q) js2 rfl
    (fun pre y post ys d _ e hb hd => by subst e hd; rw [List.filter_append, List.map_append, List.filter_cons, if_pos hb.symm]; rfl)
    (fun pre y post ys _ e hb => by subst e; rw [List.filter_append, List.map_append, List.filter_cons, if_neg (by rw [← hb]; decide)]; simp) hz) fun _ _ _ _ q => by
      obtain ⟨p, ho, h1, h2, h3, h4, h5, h6⟩ := q
      exact ⟨p, ho, h1, h2, h3, h4, h5, fun G' l => by obtain ⟨ys, rfl, z⟩ := h6 G' l; exact z⟩
/-- [f y for y in xs] -/
theorem lc_map {elt : Expr} {scope : Scope} {own : List (Str × Nat)} {xs : List α} {enc : α → T} (f : α → PyData) {Jt : α → En} (hi : PI X tg iter (cI K W Γ (xs.map enc))) (ok : BlkOk X.N X.env.scope scope own)
    (hg : ∀ y ∈ xs, ∀ s H C cl fp, PG (Blk X scope s H C cl fp) tg (cG K W (wipeE Γ (own.map (·.2))) (enc y) (Jt y) js)) (he : ∀ y ∈ xs, ∀ s H C cl fp, Ev (Blk X scope s H C cl fp) K W (Jt y) elt (Dt K (f y)))
    (js2 : ∀ j ∈ js, j ∈ own.map (·.2)) (hz : xs.length ≤ 16777000) : LcOk X K W Γ elt tg iter [] scope own (.own (lstO K (xs.map f))) := by
  have h := lc_sel (ifs := []) (fun _ => true) f hi ok hg (fun y hy s H C cl fp => tsts_nil) (fun y hy _ => he y hy) js2 hz
  rwa [List.filter_eq_self.mpr (fun _ _ => rfl)] at h
end
end Cs

set_option Elab.async false
set_option linter.all false
set_option autoImplicit false
set_option maxRecDepth 100000
set_option maxHeartbeats 4000000
/-! The layer, part F: built-ins by name, subscripts, slices, texts. -/
namespace Cs
open PySem PySem.Spec PyProof.Rows L2
section
variable {P : Program} {w : World} {K : PySem.W.Frag} {mg : Str → Option Value} {base : Heap} {k : Nat} {X : Cx} {W : Option Addr} {Γ Γ' : En} {d d1 d2 : PyData} {ds es0 : List PyData} {x : Str} {pos p : Pos} {a b : Expr} {es : List Expr} {e e1 e2 : Ent} {as : List Ent} {id : String} {v : V} {G H H0 : Hp}

/-! ### calls of built-ins -/
def RdC (K : PySem.W.Frag) (W : Option Addr) (r : List V → Hp → VK → Prop) (as : List Ent) (e : Ent) : Prop := ∀ H0 G H vs, Frm K W G H → (∀ a, H a = none → H0 a = none) → EntsOk W H0 G H vs as → ∀ Q : VK, (∀ v H' G', Step K W G H G' H' → EntOk W H0 G' H' v e → Q v H') → r vs H Q
theorem ev_callB {r : List V → Hp → VK → Prop} (c : Cok P w K mg base k X) (hc : CallR X (.builtin id) r) (hr : RdC K W r as e) (hm : mg x = none) (hv : bootBuiltins x = some (.builtin id)) (ha : Ea X K W Γ (a :: es) as) (hg : Gl X x := by rfl) (hn : x ≠ "__name__" := by decide) (hdb : (x == ("__debug__" : Str)) = false := by decide)
    (he : starEach (a :: es) X.env = (false, eval a X.env) :: starEach es X.env := by rfl) (hpl : (backTo pos (starEach es X.env)).any (·.1) = false := by rfl) : Ev X K W Γ (.Call (.Name x p) (a :: es) [] pos) e := by
  have h := pe_callB (p := p) (pos := pos) hc hg (by rw [c.hmg]; exact hm) hv ha hn hdb he hpl
  exact peI h fun σ H Q ⟨H0, G, f, en, k⟩ => ⟨H0, G, f, en, fun vs H1 G1 s1 q1 => hr H G1 H1 vs s1.frm (fun _ z => s1.free z) q1 Q fun v H' G' s q => k v H' G' (s1.trans s) q⟩
theorem ev_callT {r : List V → Hp → VK → Prop} {T : String} (c : Cok P w K mg base k X) (hc : CallR X (.type T) r) (hr : RdC K W r as e) (hm : mg x = none) (hv : bootBuiltins x = some (.type T)) (ha : Ea X K W Γ (a :: es) as) (hg : Gl X x := by rfl) (hn : x ≠ "__name__" := by decide) (hdb : (x == ("__debug__" : Str)) = false := by decide)
    (he : starEach (a :: es) X.env = (false, eval a X.env) :: starEach es X.env := by rfl) (hpl : (backTo pos (starEach es X.env)).any (·.1) = false := by rfl) : Ev X K W Γ (.Call (.Name x p) (a :: es) [] pos) e := by
  have h := pe_callTy (p := p) (pos := pos) hc hg (by rw [c.hmg]; exact hm) hv ha hn hdb he hpl
  exact peI h fun σ H Q ⟨H0, G, f, en, k⟩ => ⟨H0, G, f, en, fun vs H1 G1 s1 q1 => hr H G1 H1 vs s1.frm (fun _ z => s1.free z) q1 Q fun v H' G' s q => k v H' G' (s1.trans s) q⟩
theorem args1 {vs : List V} (h : EntsOk W H0 G H vs [e]) : ∃ v, vs = [v] ∧ EntOk W H0 G H v e := by
  match vs, h with
  | [v], h => exact ⟨v, rfl, h.1⟩
  | [], h => exact h.elim
  | _ :: _ :: _, h => exact h.2.elim
theorem args2 {vs : List V} (h : EntsOk W H0 G H vs [e1, e2]) : ∃ v u, vs = [v, u] ∧ EntOk W H0 G H v e1 ∧ EntOk W H0 G H u e2 := by
  match vs, h with
  | [v, u], h => exact ⟨v, u, rfl, h.1, h.2.1⟩
  | [], h => exact h.elim
  | [_], h => exact h.2.elim
  | _ :: _ :: _ :: _, h => exact h.2.2.elim
abbrev A1 (X : Cx) (a : Expr) : Prop := starEach [a] X.env = (false, eval a X.env) :: starEach [] X.env
/-- len -/
theorem ev_lenL (c : Cok P w K mg base k X) (hm : mg "len" = none) (ha : Ea X K W Γ [a] [Dt K (.list ds)]) (hg : Gl X "len" := by rfl) (he : A1 X a := by rfl) : Ev X K W Γ (.Call (.Name "len" p) [a] [] pos) (Dt K (.int ds.length)) :=
  ev_callB c call_len_seq (fun H0 G H vs f hb q Q k => by
    obtain ⟨v, rfl, q1⟩ := args1 q
    obtain ⟨p, xs, rfl, hs, hd⟩ := dt_list q1
    exact ⟨p, xs, rfl, .inl (by rw [c.hK]; exact f.seqL hs), k _ H G (Step.refl f) (dt_of (by rw [hd.length]; exact .int _))⟩) hm PySem.boot_len ha hg (he := he)
theorem ev_lenT (c : Cok P w K mg base k X) (hm : mg "len" = none) (ha : Ea X K W Γ [a] [Dt K (.tuple ds)]) (hg : Gl X "len" := by rfl) (he : A1 X a := by rfl) : Ev X K W Γ (.Call (.Name "len" p) [a] [] pos) (Dt K (.int ds.length)) :=
  ev_callB c call_len_seq (fun H0 G H vs f hb q Q k => by
    obtain ⟨v, rfl, q1⟩ := args1 q
    obtain ⟨p, xs, rfl, hs, hd⟩ := dt_tuple q1
    exact ⟨p, xs, rfl, .inr (by rw [c.hK]; exact f.seqT hs), k _ H G (Step.refl f) (dt_of (by rw [hd.length]; exact .int _))⟩) hm PySem.boot_len ha hg (he := he)
theorem ev_lenS {l : List Nat} (c : Cok P w K mg base k X) (hm : mg "len" = none) (ha : Ea X K W Γ [a] [Dt K (.str (txt l))]) (hz : l.length ≤ 16777216 := by omega) (hg : Gl X "len" := by rfl) (he : A1 X a := by rfl) : Ev X K W Γ (.Call (.Name "len" p) [a] [] pos) (Dt K (.int l.length)) :=
  ev_callB c call_len_str (fun H0 G H vs f hb q Q k => by
    obtain ⟨v, rfl, q1⟩ := args1 q
    exact ⟨txt l, by rw [dt_str q1], by rw [txt_len]; exact hz, k _ H G (Step.refl f) (dt_of (by rw [txt_len]; exact .int _))⟩) hm PySem.boot_len ha hg (he := he)
theorem dpBools {bs : List Bool} : ∀ {vs : List V}, DpAll K G vs (bs.map .bool) → vs = bs.map V.bl := by
  induction bs with
  | nil => intro vs h; cases h; rfl
  | cons b bs ih => intro vs h; cases h with | cons r t => cases r; rw [ih t]; rfl
theorem dpInts {bs : List Int} : ∀ {vs : List V}, DpAll K G vs (bs.map .int) → vs = bs.map V.int := by
  induction bs with
  | nil => intro vs h; cases h; rfl
  | cons b bs ih => intro vs h; cases h with | cons r t => cases r; rw [ih t]; rfl
theorem dpStrs {bs : List Str} : ∀ {vs : List V}, DpAll K G vs (bs.map .str) → vs = bs.map V.str := by
  induction bs with
  | nil => intro vs h; cases h; rfl
  | cons b bs ih => intro vs h; cases h with | cons r t => cases r; rw [ih t]; rfl
/-- all, any of a list of bools -/
theorem ev_all {bs : List Bool} (c : Cok P w K mg base k X) (hm : mg "all" = none) (ha : Ea X K W Γ [a] [Dt K (.list (bs.map .bool))]) (hg : Gl X "all" := by rfl) (he : A1 X a := by rfl) : Ev X K W Γ (.Call (.Name "all" p) [a] [] pos) (Dt K (.bool (bs.all _root_.id))) :=
  ev_callB c (cr_all c.hc) (fun H0 G H vs f hb q Q k => by
    obtain ⟨v, rfl, q1⟩ := args1 q
    obtain ⟨p, xs, rfl, hs, hd⟩ := dt_list q1
    rw [dpBools hd] at hs
    exact ⟨p, bs, rfl, by rw [c.hK]; exact f.seqL hs, k _ H G (Step.refl f) (dt_of (.bl _))⟩) hm (by decide +kernel) ha hg (he := he)
theorem ev_any {bs : List Bool} (c : Cok P w K mg base k X) (hm : mg "any" = none) (ha : Ea X K W Γ [a] [Dt K (.list (bs.map .bool))]) (hg : Gl X "any" := by rfl) (he : A1 X a := by rfl) : Ev X K W Γ (.Call (.Name "any" p) [a] [] pos) (Dt K (.bool (bs.any _root_.id))) :=
  ev_callB c (cr_any c.hc) (fun H0 G H vs f hb q Q k => by
    obtain ⟨v, rfl, q1⟩ := args1 q
    obtain ⟨p, xs, rfl, hs, hd⟩ := dt_list q1
    rw [dpBools hd] at hs
    exact ⟨p, bs, rfl, by rw [c.hK]; exact f.seqL hs, k _ H G (Step.refl f) (dt_of (.bl _))⟩) hm (by decide +kernel) ha hg (he := he)
/-- isinstance of data -/
def tyN : PyData → String
  | .none => "NoneType"
  | .bool _ => "bool"
  | .int _ => "int"
  | .str _ => "str"
  | .list _ => "list"
  | .tuple _ => "tuple"
  | .dict _ => "dict"
theorem dp_ty (f : Frm K W G H) (h : Dp K G v d) : TyX K H v (.type (tyN d)) := by
  cases h with
  | non => exact .base .non
  | bl b => exact .base (.bl b)
  | int i => exact .base (.int i)
  | str x => exact .base (.str x)
  | lst e r =>
    rcases f.seqL e with (e | ⟨o, e⟩) | ⟨o, its, n, hk, hc, _⟩
    · exact .base (.lst e)
    · exact .base (.frz e)
    · exact .kList hk hc
  | tup e r =>
    rcases f.seqT e with (e | ⟨o, e⟩) | ⟨o, its, n, hk, hc, _⟩
    · exact .base (.tup e)
    · exact .fTuple e
    · exact .kTuple hk hc
theorem ev_ty {T : String} (c : Cok P w K mg base k X) (hm : mg x = none) (hv : bootBuiltins x = some (.type T) := by decide +kernel) (hg : Gl X x := by rfl) (hn : x ≠ "__name__" := by decide) (hd : (x == ("__debug__" : Str)) = false := by decide) : Ev X K W Γ (.Name x pos) (.fro fun _ v => v = .ty T) :=
  peI (pe_bltn (v := .ty T) hg (by rw [c.hmg]; exact hm) hv rfl hn hd) fun σ H Q ⟨H0, G, f, en, k⟩ => k _ H G (Step.refl f) fun _ _ => rfl
theorem ev_isi {T : String} {r : Bool} (c : Cok P w K mg base k X) (hm : mg "isinstance" = none) (ha : Ea X K W Γ [a, b] [Dt K d, .fro fun _ v => v = .ty T]) (hr : PySem.W.kitOne K (.type (tyN d)) (.type T) = some r := by rfl) (hg : Gl X "isinstance" := by rfl)
    (he : starEach [a, b] X.env = (false, eval a X.env) :: starEach [b] X.env := by rfl) (hpl : (backTo pos (starEach [b] X.env)).any (·.1) = false := by rfl) : Ev X K W Γ (.Call (.Name "isinstance" p) [a, b] [] pos) (Dt K (.bool r)) :=
  ev_callB c (by have h := call_isi (X := X); rw [c.hK] at h; exact h) (fun H0 G H vs f hb q Q k => by
    obtain ⟨v, u, rfl, q1, q2⟩ := args2 q
    have e : u = .ty T := up.now q2
    subst e
    exact ⟨v, .ty T, .type (tyN d), .type T, r, rfl, .ty T, dp_ty f (dt_dp q1), hr, k _ H G (Step.refl f) (dt_of (.bl _))⟩) hm (by decide +kernel) ha hg (he := he) (hpl := hpl)
/-- tuple(a list), list(a list, a tuple) -/
theorem ev_tupleL (c : Cok P w K mg base k X) (hm : mg "tuple" = none) (ha : Ea X K W Γ [a] [Dt K (.list ds)]) (hg : Gl X "tuple" := by rfl) (he : A1 X a := by rfl) : Ev X K W Γ (.Call (.Name "tuple" p) [a] [] pos) (Dt K (.tuple ds)) :=
  ev_callT c call_tuple_of (fun H0 G H vs f hb q Q k => by
    obtain ⟨v, rfl, q1⟩ := args1 q
    obtain ⟨p, xs, rfl, hs, hd⟩ := dt_list q1
    refine ⟨p, xs, rfl, .inl ⟨by rw [c.hK]; exact f.seqL hs, fun l hl => ?_⟩⟩
    obtain ⟨s2, q2⟩ := new_tup f hd hl
    exact k _ _ _ s2 (q2.back hb)) hm (by decide +kernel) ha hg (he := he)
theorem ev_listL (c : Cok P w K mg base k X) (hm : mg "list" = none) (ha : Ea X K W Γ [a] [Dt K (.list ds)]) (hg : Gl X "list" := by rfl) (he : A1 X a := by rfl) : Ev X K W Γ (.Call (.Name "list" p) [a] [] pos) (Dt K (.list ds)) :=
  ev_callT c call_list_of (fun H0 G H vs f hb q Q k => by
    obtain ⟨v, rfl, q1⟩ := args1 q
    obtain ⟨p, xs, rfl, hs, hd⟩ := dt_list q1
    refine ⟨p, xs, rfl, .inl (by rw [c.hK]; exact f.seqL hs), fun l hl => ?_⟩
    obtain ⟨s2, q2⟩ := new_lst f hd hl
    exact k _ _ _ s2 (q2.back hb)) hm (by decide +kernel) ha hg (he := he)
theorem ev_intB {bv : Bool} (c : Cok P w K mg base k X) (hm : mg "int" = none) (ha : Ea X K W Γ [a] [Dt K (.bool bv)]) (hg : Gl X "int" := by rfl) (he : A1 X a := by rfl) : Ev X K W Γ (.Call (.Name "int" p) [a] [] pos) (Dt K (.int (if bv then 1 else 0))) :=
  ev_callT c call_int1 (fun H0 G H vs f hb q Q k => by
    obtain ⟨v, rfl, q1⟩ := args1 q
    exact .inr ⟨bv, by rw [dt_bool q1], k _ H G (Step.refl f) (dt_of (.int _))⟩) hm (by decide +kernel) ha hg (he := he)
theorem ev_abs {i : Int} (c : Cok P w K mg base k X) (hm : mg "abs" = none) (ha : Ea X K W Γ [a] [Dt K (.int i)]) (hg : Gl X "abs" := by rfl) (he : A1 X a := by rfl) : Ev X K W Γ (.Call (.Name "abs" p) [a] [] pos) (Dt K (.int (if i < 0 then -i else i))) :=
  ev_callB c call_abs (fun H0 G H vs f hb q Q k => by
    obtain ⟨v, rfl, q1⟩ := args1 q
    exact ⟨i, by rw [dt_int q1], k _ H G (Step.refl f) (dt_of (.int _))⟩) hm (by decide +kernel) ha hg (he := he)
/-- max(i, j) -/
theorem ev_max2 {i j : Int} (c : Cok P w K mg base k X) (hm : mg "max" = none) (ha : Ea X K W Γ [a, b] [Dt K (.int i), Dt K (.int j)]) (hg : Gl X "max" := by rfl) (he : starEach [a, b] X.env = (false, eval a X.env) :: starEach [b] X.env := by rfl) (hpl : (backTo pos (starEach [b] X.env)).any (·.1) = false := by rfl) :
    Ev X K W Γ (.Call (.Name "max" p) [a, b] [] pos) (Dt K (.int (if j > i then j else i))) :=
  ev_callB c (call_max2 c.hc) (fun H0 G H vs f hb q Q k => by
    obtain ⟨v, u, rfl, q1, q2⟩ := args2 q
    exact ⟨i, j, by rw [dt_int q1, dt_int q2], k _ H G (Step.refl f) (dt_of (.int _))⟩) hm (by decide +kernel) ha hg (he := he) (hpl := hpl)
/-- min, max of a list of ints that isn't empty -/
theorem ev_minL {ns : List Int} {m : Int} (c : Cok P w K mg base k X) (hm : mg "min" = none) (ha : Ea X K W Γ [a] [Dt K (.list (ns.map .int))]) (h1 : m ∈ ns) (h2 : ∀ y ∈ ns, m ≤ y) (hg : Gl X "min" := by rfl) (he : A1 X a := by rfl) : Ev X K W Γ (.Call (.Name "min" p) [a] [] pos) (Dt K (.int m)) :=
  ev_callB c (cr_min c.hc) (fun H0 G H vs f hb q Q k => by
    obtain ⟨v, rfl, q1⟩ := args1 q
    obtain ⟨p, xs, rfl, hs, hd⟩ := dt_list q1
    rw [dpInts hd] at hs
    refine ⟨p, ns, rfl, by rw [c.hK]; exact f.seqL hs, List.length_pos_of_mem h1, fun m' a1 a2 => ?_⟩
    have e : m' = m := Int.le_antisymm (a2 m h1) (h2 m' a1)
    exact k _ H G (Step.refl f) (dt_of (by rw [e]; exact .int _))) hm (by decide +kernel) ha hg (he := he)
theorem ev_maxL {ns : List Int} {m : Int} (c : Cok P w K mg base k X) (hm : mg "max" = none) (ha : Ea X K W Γ [a] [Dt K (.list (ns.map .int))]) (h1 : m ∈ ns) (h2 : ∀ y ∈ ns, y ≤ m) (hg : Gl X "max" := by rfl) (he : A1 X a := by rfl) : Ev X K W Γ (.Call (.Name "max" p) [a] [] pos) (Dt K (.int m)) :=
  ev_callB c (cr_max c.hc) (fun H0 G H vs f hb q Q k => by
    obtain ⟨v, rfl, q1⟩ := args1 q
    obtain ⟨p, xs, rfl, hs, hd⟩ := dt_list q1
    rw [dpInts hd] at hs
    refine ⟨p, ns, rfl, by rw [c.hK]; exact f.seqL hs, List.length_pos_of_mem h1, fun m' a1 a2 => ?_⟩
    have e : m' = m := Int.le_antisymm (h2 m' a1) (a2 m h1)
    exact k _ H G (Step.refl f) (dt_of (by rw [e]; exact .int _))) hm (by decide +kernel) ha hg (he := he)

/-! ### subscripts, slices -/
theorem dp_atI {vs : List V} {ds : List PyData} {i : Int} {d : PyData} (h : DpAll K G vs ds) (e : atI ds i = some d) : ∃ v, atI vs i = some v ∧ Dp K G v d := by
  unfold atI at e ⊢
  rw [h.length]
  cases q : ixN ds.length i with
  | none => rw [q] at e; cases e
  | some j => rw [q] at e; exact h.get e
theorem ev_ixL {i : Int} (c : Cok P w K mg base k X) (ha : Ev X K W Γ a (Dt K (.list ds))) (hb : Ev X K W Γ b (Dt K (.int i))) (hi : atI ds i = some d) (hp : PlainIx b := by exact fun _ _ => rfl) : Ev X K W Γ (.Subscript a b pos) (Dt K d) :=
  peI (pe_ix ix_list ha hb hp) fun σ H Q ⟨H0, G, f, en, k⟩ => pre2 rfl rfl f en fun x y H2 G2 s q1 q2 => by
    obtain ⟨p, xs, rfl, hs, hd⟩ := dt_list q1
    obtain ⟨v, h1, h2⟩ := dp_atI hd hi
    exact ⟨p, xs, i, v, rfl, dt_int q2, by rw [c.hK]; exact s.frm.seqL hs, h1, k v H2 G2 s (dt_of h2)⟩
theorem ev_ixT {i : Int} (c : Cok P w K mg base k X) (ha : Ev X K W Γ a (Dt K (.tuple ds))) (hb : Ev X K W Γ b (Dt K (.int i))) (hi : atI ds i = some d) (hp : PlainIx b := by exact fun _ _ => rfl) : Ev X K W Γ (.Subscript a b pos) (Dt K d) :=
  peI (pe_ix ix_tup ha hb hp) fun σ H Q ⟨H0, G, f, en, k⟩ => pre2 rfl rfl f en fun x y H2 G2 s q1 q2 => by
    obtain ⟨p, xs, rfl, hs, hd⟩ := dt_tuple q1
    obtain ⟨v, h1, h2⟩ := dp_atI hd hi
    exact ⟨p, xs, i, v, rfl, dt_int q2, by rw [c.hK]; exact s.frm.seqT hs, h1, k v H2 G2 s (dt_of h2)⟩
theorem ev_ixS {i : Int} {l : List Nat} {n : Nat} (ha : Ev X K W Γ a (Dt K (.str (txt l)))) (hb : Ev X K W Γ b (Dt K (.int i))) (hi : atI l i = some n) (hz : l.length ≤ 16777216 := by omega) (hp : PlainIx b := by exact fun _ _ => rfl) : Ev X K W Γ (.Subscript a b pos) (Dt K (sgn n)) :=
  peI (pe_ix ix_str ha hb hp) fun σ H Q ⟨H0, G, f, en, k⟩ => pre2 rfl rfl f en fun x y H2 G2 s q1 q2 => 
    ⟨txt l, i, n, dt_str q1, dt_int q2, by rw [txt_len]; exact hz, by rw [txt_list]; exact hi, k _ H2 G2 s (dt_of (.str _))⟩
def cO (K : PySem.W.Frag) (W : Option Addr) (Γ : En) (o : Option Int) : TO := fun σ H Q => ∃ H0 G, Frm K W G H ∧ EnvOk W H0 G H σ Γ ∧ ∀ H' G', Step K W G H G' H' → Q o H'
theorem poI {ex : Option Expr} {t t' : TO} (h : PO X ex t) (i : ∀ σ H Q, t' σ H Q → t σ H Q) : PO X ex t' := ⟨fun pins s σ H Q I q => h.run pins s σ H Q I (i σ H Q q)⟩
theorem op_none : PO X none (cO K W Γ none) := poI po_none fun σ H Q ⟨H0, G, f, en, k⟩ => k H G (Step.refl f)
theorem op_some {i : Int} (h : Ev X K W Γ a (Dt K (.int i))) : PO X (some a) (cO K W Γ (some i)) := poI (po_some h) fun σ H Q ⟨H0, G, f, en, k⟩ => ⟨H0, G, f, en, fun v H' G' s q => ⟨i, dt_int q, k H' G' s⟩⟩
/-- the cut of a list -/
def cut {α : Type} (xs : List α) (lo hi : Option Int) : List α := (xs.drop (HT.sIx xs.length 0 lo)).take (HT.sIx xs.length xs.length hi - HT.sIx xs.length 0 lo)
theorem ev_slL {lo hi : Option Expr} {l h : Option Int} {p2 : Pos} (c : Cok P w K mg base k X) (ha : Ev X K W Γ a (Dt K (.list ds))) (hl : PO X lo (cO K W Γ l)) (hh : PO X hi (cO K W Γ h)) : Ev X K W Γ (.Subscript a (.Slice lo hi none p2) pos) (Dt K (.list (cut ds l h))) :=
  peI (pe_slice sl_list ha hl hh) fun σ H Q ⟨H0, G, f, en, k⟩ => ⟨H0, G, f, en, fun v H1 G1 s1 q1 => ⟨H0, G1, s1.frm, en.step s1, fun H2 G2 s2 => ⟨H0, G2, s2.frm, (en.step s1).step s2, fun H3 G3 s3 => by
    obtain ⟨p, xs, rfl, hs, hd⟩ := dt_list ((q1.step s2).step s3)
    refine ⟨p, xs, rfl, by rw [c.hK]; exact s3.frm.seqL hs, fun l hl => ?_⟩
    obtain ⟨s4, q4⟩ := new_lst s3.frm ((DpAll.drop _ hd).take _) hl
    refine k _ _ _ ((s1.trans s2).trans (s3.trans s4)) (EntOk.back ?_ fun a z => s1.free (s2.free (s3.free z)))
    rw [hd.length] at q4
    exact (by unfold cutV; rw [hd.length]; exact q4)⟩⟩⟩
theorem ev_slS {lo hi : Option Expr} {l h : Option Int} {p2 : Pos} {m : List Nat} (ha : Ev X K W Γ a (Dt K (.str (txt m)))) (hl : PO X lo (cO K W Γ l)) (hh : PO X hi (cO K W Γ h)) (hz : m.length ≤ 16777216 := by omega) : Ev X K W Γ (.Subscript a (.Slice lo hi none p2) pos) (Dt K (.str (txt (cut m l h)))) :=
  peI (pe_slice sl_str ha hl hh) fun σ H Q ⟨H0, G, f, en, k⟩ => ⟨H0, G, f, en, fun v H1 G1 s1 q1 => ⟨H0, G1, s1.frm, en.step s1, fun H2 G2 s2 => ⟨H0, G2, s2.frm, (en.step s1).step s2, fun H3 G3 s3 =>
    ⟨txt m, dt_str q1, by rw [txt_len]; exact hz, k _ H3 G3 (s1.trans (s2.trans s3)) (dt_of (by
      have e : cutS (txt m) l h = txt (cut m l h) := by unfold cutS cut; rw [txt_list, txt_len]; rfl
      rw [e]; exact .str _))⟩⟩⟩⟩

/-! ### texts -/
theorem rd_addS {l m : List Nat} (hz : l.length + m.length ≤ 16777216) : RdO K W (fun x y H Q => ∃ i j, x = .str i ∧ y = .str j ∧ i.length + j.length ≤ sizeLine ∧ Q (.str (i ++ j)) H) (Dt K (.str (txt l))) (Dt K (.str (txt m))) (Dt K (.str (txt (l ++ m)))) := fun H0 G H x y f hb q1 q2 Q k =>
  ⟨txt l, txt m, dt_str q1, dt_str q2, by rw [txt_len, txt_len]; exact hz, k _ H G (Step.refl f) (dt_of (by
    have e : txt l ++ txt m = txt (l ++ m) := by show (⟨l.toArray ++ m.toArray⟩ : Str) = ⟨(l ++ m).toArray⟩; simp
    rw [e]; exact .str _))⟩
theorem ev_addS {l m : List Nat} (ha : Ev X K W Γ a (Dt K (.str (txt l)))) (hb : Ev X K W Γ b (Dt K (.str (txt m)))) (hz : l.length + m.length ≤ 16777216 := by omega) : Ev X K W Γ (.BinOp a .Add b pos) (Dt K (.str (txt (l ++ m)))) := ev_op op_add_str (rd_addS hz) ha hb
/-- c in a text, c one sign -/
theorem rd_inS {n : Nat} {l : List Nat} : RdO K W rInS (Dt K (sgn n)) (Dt K (.str (txt l))) (Dt K (.bool (decide (n ∈ l)))) := fun H0 G H x y f hb q1 q2 Q k =>
  ⟨n, txt l, dt_str q1, dt_str q2, k _ H G (Step.refl f) (dt_of (by rw [txt_list]; exact .bl _))⟩
theorem rd_niS {n : Nat} {l : List Nat} : RdO K W rNotInS (Dt K (sgn n)) (Dt K (.str (txt l))) (Dt K (.bool (!decide (n ∈ l)))) := fun H0 G H x y f hb q1 q2 Q k =>
  ⟨n, txt l, dt_str q1, dt_str q2, k _ H G (Step.refl f) (dt_of (by rw [txt_list]; exact .bl _))⟩
theorem rd_ltS {l m : List Nat} : RdO K W (fun x y H Q => ∃ i j, x = .str i ∧ y = .str j ∧ Q (.bl (decide (i.cps.toList < j.cps.toList))) H) (Dt K (.str (txt l))) (Dt K (.str (txt m))) (Dt K (.bool (decide (l < m)))) := fun H0 G H x y f hb q1 q2 Q k =>
  ⟨txt l, txt m, dt_str q1, dt_str q2, k _ H G (Step.refl f) (dt_of (by rw [txt_list, txt_list]; exact .bl _))⟩
/-- x in a list, a tuple of data -/
theorem dp_flat {vs : List V} {d : PyData} (h : Dp K G v d) (hf : (match d with | .list _ => false | .tuple _ => false | .dict _ => false | _ => true) = true) : flatV v = true := by
  cases h <;> first | rfl | cases hf
theorem add_txt (l m : List Nat) : txt l ++ txt m = txt (l ++ m) := by show (⟨l.toArray ++ m.toArray⟩ : Str) = ⟨(l ++ m).toArray⟩; simp
theorem join_txt0 : ∀ ys : List (List Nat), Str.join (txt []) (ys.map txt) = txt ys.flatten
  | [] => rfl
  | [x] => by show txt x = _; simp
  | x :: y :: r => by
    show txt x ++ txt [] ++ Str.join (txt []) ((y :: r).map txt) = _
    rw [join_txt0 (y :: r), add_txt, add_txt]
    simp
theorem join_txt (ys : List (List Nat)) : Txt.join (txt []) (ys.map txt) = txt ys.flatten := by rw [TL.join_eq]; exact join_txt0 ys
theorem ev_join {l : List Nat} {xs : List (List Nat)} {apos : Pos} (c : Cok P w K mg base k X) (ha : Ev X K W Γ a (Dt K (.str (txt [])))) (hb : Ev X K W Γ b (Dt K (.list (xs.map fun z => .str (txt z))))) (hz : (xs.map List.length).sum ≤ 16777216)
    (hs : starEach [b] X.env = [(false, eval b X.env)] := by rfl) (hbase : attributeBase a "join" X.env (eval a X.env) = eval a X.env := by rfl) (hline : (apos.endLine == pos.line) = true := by rfl) : Ev X K W Γ (.Call (.Attribute a "join" apos) [b] [] pos) (Dt K (.str (txt xs.flatten))) :=
  peI (pe_join ha hb hs hbase hline) fun σ H Q ⟨H0, G, f, en, k⟩ => ⟨H0, G, f, en, fun v H1 G1 s1 q1 => ⟨⟨txt [], dt_str q1⟩, H0, G1, s1.frm, en.step s1, fun u H2 G2 s2 q2 => by
    obtain ⟨p, vs, rfl, hs, hd⟩ := dt_list q2
    have e0 : xs.map (fun z => PyData.str (txt z)) = (xs.map txt).map .str := by rw [List.map_map]; rfl
    rw [e0] at hd
    rw [dpStrs hd] at hs
    refine ⟨txt [], p, xs.map txt, dt_str q1, rfl, .inl (by rw [c.hK]; exact s2.frm.seqL hs), ?_, k _ H2 G2 (s1.trans s2) (dt_of ?_)⟩
    · have e1 : (xs.map txt).map (·.length) = xs.map List.length := by rw [List.map_map]; exact List.map_congr_left fun z _ => txt_len z
      rw [e1, txt_len]
      simpa using hz
    · rw [join_txt]; exact .str _⟩⟩
end
end Cs

set_option Elab.async false
set_option linter.all false
set_option autoImplicit false
set_option maxRecDepth 100000
set_option maxHeartbeats 4000000
namespace Cs
open PySem PySem.Spec PyProof.Rows L2
def top (i : Nat) : Stmt := PySem.Challenge.pw_cellscript_k68_whole_search_has_all.main.body.getD i (.Pass ⟨0, 0, 0, 0⟩)
abbrev FnP (K : PySem.W.Frag) (x : Str) (st : Stmt) (f : Addr) (fd : FuncData) : Prop := FunD K x x (defArgs st) (defBody st) (defScope st) [] [] f fd
theorem mk_df {P : Program} {w : World} {K : PySem.W.Frag} {mg : Str → Option Value} {base : Heap} {x : Str} {st : Stmt} {f : Addr} {fd : FuncData} {k : Nat} {bg : Bool} {as : List Ent} {r : Ent} {ps : List Str} (Nm : List Str) {N : As} (F : FnP K x st f fd) (hm : mg x = some (.ref f)) (S : FnScope Nm ps (defScope st))
    (bi : ∀ (kV doc pm : Value) (an : Option Addr) (cdv ct : Value) (us : List Value), us.length = ps.length → bindArgs (PySem.W.fnOf x x (defArgs st) (defBody st) (defScope st) .none kV doc pm an cdv ct) ⟨us, []⟩ = pure (ps.zip us))
    (hl : as.length = ps.length) (n : noOwns as)
    (h : ∀ (W : Option Addr) (X : Cx), (bg = false → W = none) → Cok P w K mg base k X → (∃ cdv A outer s H E, X = (cxOf CX0 P w K mg base Nm x (defScope st) f cdv A outer s H E).nox) → Srs X K W (defBody st) (envA W (initE Nm.length as)) N noA noA r)
    (hN : ∀ W H0 G H σ, N H0 G H σ → EntOk W H0 G H .non r) : DfOk P w K mg base x (k + 1) bg as r :=
  ⟨f, fd, ps, hm, F.kp, F.bindsN bi, mk_fn Nm F S hl n h hN⟩
end Cs

set_option Elab.async false
set_option linter.all false
set_option maxRecDepth 100000
set_option maxHeartbeats 4000000
/-! What is looked at of the exceptions' classes. -/
namespace Cs
open PySem PySem.Spec PyProof.Rows L2
def oexB (K : PySem.W.Frag) (C : Addr) : Bool := match K.lookup C with
  | some ⟨.type "type", _, .cls cd, sl⟩ => (match cd.mro, sl.toList with
    | .ref C' :: bm, [_, _, _, _, some (.builtin n), _] => decide (C' = C) && (decide (n = "ValueError.__new__") && (!cd.hasDel && (cd.hasDict && PySem.HandSPX.refsVE bm)))
    | _, _ => false)
  | _ => false
theorem oexB_ok {K : PySem.W.Frag} {C : Addr} (q : oexB K C = true) : ∃ nm qn N bs bm sn sub ab col dd k0 k1 k2 k3 k5, K.lookup C = some (excClassObj nm qn C N bs bm true sn sub ab col dd k0 k1 k2 k3 k5 "ValueError.__new__") ∧ PySem.HandSPX.refsVE bm = true := by
  unfold oexB at q
  split at q
  · rename_i dd cd sl ho
    split at q
    · rename_i C' bm k0 k1 k2 k3 n k5 hm hs
      simp only [Bool.and_eq_true, decide_eq_true_eq, Bool.not_eq_true'] at q
      obtain ⟨rfl, rfl, hdel, hdct, hr⟩ := q
      obtain ⟨nm, bs, mro, ns, qn, hd, sn, sub, ab, col, del⟩ := cd
      dsimp only at hm hdel hdct
      subst hm hdel hdct
      have hsl : sl = #[k0, k1, k2, k3, some (.builtin "ValueError.__new__"), k5] := by
        obtain ⟨l⟩ := sl
        simp only at hs
        rw [hs]
      subst hsl
      exact ⟨nm, qn, ns, bs, bm, sn, sub, ab, col, dd, k0, k1, k2, k3, k5, ho, hr⟩
    · cases q
  · cases q
def oexcB (K : PySem.W.Frag) (C : Addr) : Bool := oexB K C && (decide (PySem.W.findIn K (.ref C) "__setattr__" = some (some (.builtin "object.__setattr__"))) && (decide (PySem.W.subIn K (.ref C) (.type "BaseException") = some true) && (decide (PySem.W.typeIn K (.ref C) = some (.type "type")) && PySem.W.keepIn K (.ref C))))
theorem oexcB_ok {K : PySem.W.Frag} {C : Addr} (q : oexcB K C = true) : OexC K C := by
  simp only [oexcB, Bool.and_eq_true, decide_eq_true_eq] at q
  exact ⟨oexB_ok q.1, q.2.1, q.2.2.1, q.2.2.2.1, q.2.2.2.2⟩
def isxB (K : PySem.W.Frag) (D : Addr) : Bool := decide (PySem.W.findIn K (.ref D) "__getattribute__" = some (some (.builtin "BaseException.__getattribute__"))) && (decide (PySem.W.findIn K (.ref D) "__getattr__" = some none) && (decide (PySem.W.subIn K (.ref D) (.type "BaseException") = some true) && (PySem.W.hasDictIn K D && (decide (PySem.W.findIn K (.ref D) "__class__" = some (some (.builtin "object.__class__"))) && (decide (PySem.W.specialIn K (.builtin "object.__class__") "__get__" = some (some (.builtin "getset_descriptor.__get__"))) && (decide (PySem.W.takesIn K (.builtin "object.__class__") = some true) && decide (PySem.W.mroIn K D (.type "object") = some true)))))))
theorem isxB_ok {K : PySem.W.Frag} {D : Addr} (q : isxB K D = true) : ExcC K D := by
  simp only [isxB, Bool.and_eq_true, decide_eq_true_eq] at q
  obtain ⟨a, b, c, d, e, f, g, h⟩ := q
  exact ⟨a, b, c, d, e, f, g, h⟩
def initB (K : PySem.W.Frag) (C : Addr) : Bool := match PySem.W.findCls K (.ref C) (.type "type") "__init__" with
  | some (.val (.builtin n)) => decide (n = "ValueError.__init__")
  | _ => false
theorem initB_ok {K : PySem.W.Frag} {C : Addr} (q : initB K C = true) : PySem.W.findCls K (.ref C) (.type "type") "__init__" = some (.val (.builtin "ValueError.__init__")) := by
  unfold initB at q
  split at q
  · rename_i n e
    rw [e, of_decide_eq_true q]
  · cases q
def cellB (K : PySem.W.Frag) (C : Addr) : Bool := PySem.W.readsIn K C (.type "type") && (decide (PySem.W.specialIn K (.ref C) "__getattribute__" = some (some (.builtin "type.__getattribute__"))) && initB K C)
def tmB (K : PySem.W.Frag) (T : Addr) : Bool := oexcB K T && (decide (PySem.W.findIn K (.ref T) "__init__" = some (some (.ref (He.ma K T "__init__")))) && (decide (PySem.W.typeIn K (.ref (He.ma K T "__init__")) = some (.type "function")) && (decide (PySem.W.findIn K (.ref T) "most" = some none) && (xfB K T && isxB K T))))
def rlB (K : PySem.W.Frag) (R : Addr) : Bool := PySem.W.excIn K R He.veBase "ValueError.__new__" && (PySem.W.keepIn K (.ref R) && (decide (PySem.W.subIn K (.ref R) (.type "BaseException") = some true) && (decide (PySem.W.typeIn K (.ref R) = some (.type "type")) && isxB K R)))
def relB (K : PySem.W.Frag) (C T R : Addr) : Bool := decide (PySem.W.exmOne K (.ref T) (.ref C) = some true) && (decide (PySem.W.exmOne K (.ref R) (.ref C) = some true) && (decide (PySem.W.kitOne K (.ref T) (.ref T) = some true) && (decide (PySem.W.kitOne K (.ref T) (.ref R) = some false) && (decide (PySem.W.kitOne K (.ref R) (.ref T) = some false) && decide (PySem.W.kitOne K (.ref R) (.ref R) = some true)))))
def excK (K : PySem.W.Frag) : Bool := cellB K (He.ga K "CellError") && (tmB K (He.ga K "TooMany") && (rlB K (He.ga K "Restless") && relB K (He.ga K "CellError") (He.ga K "TooMany") (He.ga K "Restless")))
end Cs

set_option Elab.async false
set_option linter.all false
set_option maxRecDepth 100000
set_option maxHeartbeats 0
/-! What is looked at behind the top's run. (Printed by mkHk.py.) -/
namespace Cs
open PySem PySem.Spec PyProof.Rows L2
def clsB0 : Stmt → List Stmt
  | .ClassDef (body := b) .. => b
  | _ => []
def mth (i j : Nat) : Stmt := (clsB0 (top i)).getD j (.Pass ⟨0, 0, 0, 0⟩)
/-! ### the part of the heap -/
def ref2 (o : Obj) : List Addr := match o.data with
  | .func fd => He.refV fd.code ++ (He.refV fd.defaults ++ He.refV fd.kwdefaults)
  | .cls cd => [cd.ns]
  | .seq its _ => its.toList.flatMap He.refV
  | .dict es _ => es.toList.flatMap fun e => He.refV e.val
  | _ => []
def valR (o : Obj) : List Addr := match o.data with
  | .dict es _ => es.toList.flatMap fun e => He.refV e.val
  | _ => []
def fnR (o : Obj) : List Addr := match o.data with
  | .func fd => He.refV fd.code
  | _ => []
def stepA (g : Addr → Option Obj) (r : Obj → List Addr) (as : List Addr) : List Addr := as.flatMap fun a => match g a with
  | some o => r o
  | none => []
/-- the module's dict, its values, what they name, the classes' values, their codes -/
def lay4 (as a1 a2 a3 a4 : List Addr) : List Addr := as ++ (a1 ++ (a2 ++ (a3 ++ a4)))
def asK (g : Addr → Option Obj) : List Addr :=
  let a1 := stepA g valR [mainGlobals]
  let a2 := stepA g ref2 a1
  let a3 := stepA g valR a2
  let a4 := stepA g fnR a3
  lay4 [mainGlobals, cStatics] a1 a2 a3 a4
def clsB (q : Addr × Obj) : Bool := match q.2.cls with
  | .type c => !decide (c = "list")
  | _ => true
def offB (K : PySem.W.Frag) (q : Str × Int × Int) : Bool := match PySem.W.nsIn K (He.ga K "OFFS") q.1 with
  | some (some (.ref a)) => (match K.lookup a with
    | some ⟨.type c, _, .seq its _, _⟩ => decide (c = "tuple") && (decide (its.size ≤ sizeLine) && He.relAll [.int q.2.1, .int q.2.2] its.toList)
    | _ => false)
  | _ => false
def placesL : List Str := ["n", "ne", "e", "se", "s", "sw", "w", "nw"]
def offsL : List (Str × Int × Int) := [("n", 0, -1), ("ne", 1, -1), ("e", 1, 0), ("se", 1, 1), ("s", 0, 1), ("sw", -1, 1), ("w", -1, 0), ("nw", -1, -1)]
def exK0 (K : PySem.W.Frag) : Bool := He.tupB K "PLACES" (placesL.map He.Dv.str) && (He.tupB K "SORTS" [.str "around", .str "halves", .str "blocks"] && (He.tupB K "STRAIGHT" [.str "n", .str "e", .str "s", .str "w"] && (K.all clsB && offsL.all (offB K))))
def exK (K : PySem.W.Frag) : Bool := exK0 K && excK K
def faK0 : List He.Fa := [.glo "is_whole", .glo "is_from_to", .glo "is_sign", .glo "is_signs", .glo "is_spot", .glo "is_turn", .glo "is_place", .glo "need_good", .glo "is_listed", .glo "are_listed", .glo "need_near", .glo "endless", .glo "is_near", .glo "are_of", .glo "is_test", .glo "is_cell_row", .glo "is_text_of", .glo "is_block_row", .glo "strange_sign", .glo "need_fit", .glo "block_spots", .glo "is_inside", .glo "sign_in_block", .glo "sign_behind", .glo "spots_to_look_at", .glo "step_of", .glo "begun", .glo "moved_cells", .glo "shift_between", .glo "shift_suits"]
def faK1 : List He.Fa := [.glo "word_of", .glo "paper_by", .glo "paper_of", .glo "texts_of", .glo "rows_of", .glo "begins", .glo "cells_of", .glo "search", .glo "_law_bag", .glo "_law_take", .glo "_law_alike", .glo "_law_signs", .glo "_law_some", .glo "_law_near", .glo "_law_test", .glo "_law_row", .glo "_law_block_row", .glo "_law_rule", .glo "_law_holds", .glo "_law_becomes", .glo "_law_block", .glo "_law_sign", .glo "_law_spots", .glo "_law_off", .glo "_law_in_block", .glo "_law_sign_later", .glo "_law_turn", .glo "_law_made", .glo "_law_blocks", .glo "_law_lively"]
def faK2 : List He.Fa := [.glo "_law_later", .glo "_law_seen", .glo "_law_moved", .glo "_law_suits", .glo "_law_paper", .glo "_law_texts", .glo "_law_due", .glo "_law_refused", .glo "_law_full_right", .glo "law", .glo "Field", .glo "Rule", .glo "OFFS", .glo "PLACES", .glo "SORTS", .glo "STRAIGHT", .glo "CellError", .glo "TooMany", .glo "Restless", .free "len", .free "isinstance", .free "all", .free "any", .free "zip", .free "enumerate", .free "range", .free "min", .free "max", .free "sorted", .free "tuple"]
def faK3 : List He.Fa := [.free "list", .free "dict", .free "set", .free "int", .free "str", .free "bool", .free "abs", .free "repr", .int "MOST_FRAME_fields" 200, .int "FARTHEST" 1000000, .int "LATEST" 1000000000, .int "MOST_ROWS" 80, .int "MOST_TESTS" 8, .int "MOST_FRAME_plain" 200, .int "MOST_PICTURES" 256, .str "SIGNS" ".abcdefghijklmnopqrstuvwxyz", .str "GROUND_kinds" ".", .str "GROUND_search" ".", .cls "Field", .mkr "Field", .noat "Field" "form", .noat "Field" "laid", .noat "Field" "when", .noat "Field" "width", .noat "Field" "height", .noat "Field" "rim", .cls "Rule", .mkr "Rule", .noat "Rule" "sort_told", .noat "Rule" "count"]
def faK4 : List He.Fa := [.noat "Rule" "looked_at", .noat "Rule" "listed", .meth "Field" "kind", .meth "Field" "turn", .meth "Field" "edge", .meth "Field" "frame", .meth "Field" "look", .meth "Field" "remade", .meth "Field" "cells", .meth "Rule" "is_row", .meth "Rule" "kind", .meth "Rule" "near", .meth "Rule" "rows", .meth "Rule" "signs", .meth "Rule" "test_holds", .meth "Rule" "fate", .meth "Rule" "fate_of_block", .meth "Rule" "keeps_ground"]
def faK : List He.Fa := faK0 ++ faK1 ++ faK2 ++ faK3 ++ faK4
def fnK0 : List He.DefD := [⟨("is_whole", none), "is_whole", "is_whole", defArgs (top 20), defBody (top 20), defScope (top 20), [], []⟩, ⟨("is_from_to", none), "is_from_to", "is_from_to", defArgs (top 21), defBody (top 21), defScope (top 21), [], []⟩, ⟨("is_sign", none), "is_sign", "is_sign", defArgs (top 22), defBody (top 22), defScope (top 22), [], []⟩, ⟨("is_signs", none), "is_signs", "is_signs", defArgs (top 23), defBody (top 23), defScope (top 23), [], []⟩, ⟨("is_spot", none), "is_spot", "is_spot", defArgs (top 24), defBody (top 24), defScope (top 24), [], []⟩, ⟨("is_turn", none), "is_turn", "is_turn", defArgs (top 25), defBody (top 25), defScope (top 25), [], []⟩, ⟨("is_place", none), "is_place", "is_place", defArgs (top 26), defBody (top 26), defScope (top 26), [], []⟩, ⟨("need_good", none), "need_good", "need_good", defArgs (top 29), defBody (top 29), defScope (top 29), [], []⟩, ⟨("is_listed", none), "is_listed", "is_listed", defArgs (top 30), defBody (top 30), defScope (top 30), [], []⟩, ⟨("are_listed", none), "are_listed", "are_listed", defArgs (top 31), defBody (top 31), defScope (top 31), [], []⟩]
def fnK1 : List He.DefD := [⟨("need_near", none), "need_near", "need_near", defArgs (top 32), defBody (top 32), defScope (top 32), [], []⟩, ⟨("endless", none), "endless", "endless", defArgs (top 34), defBody (top 34), defScope (top 34), [], [("turn", .int 0)]⟩, ⟨("is_near", none), "is_near", "is_near", defArgs (top 40), defBody (top 40), defScope (top 40), [], []⟩, ⟨("are_of", none), "are_of", "are_of", defArgs (top 41), defBody (top 41), defScope (top 41), [], []⟩, ⟨("is_test", none), "is_test", "is_test", defArgs (top 42), defBody (top 42), defScope (top 42), [], []⟩, ⟨("is_cell_row", none), "is_cell_row", "is_cell_row", defArgs (top 43), defBody (top 43), defScope (top 43), [], []⟩, ⟨("is_text_of", none), "is_text_of", "is_text_of", defArgs (top 44), defBody (top 44), defScope (top 44), [], []⟩, ⟨("is_block_row", none), "is_block_row", "is_block_row", defArgs (top 45), defBody (top 45), defScope (top 45), [], []⟩, ⟨("strange_sign", none), "strange_sign", "strange_sign", defArgs (top 49), defBody (top 49), defScope (top 49), [], []⟩, ⟨("need_fit", none), "need_fit", "need_fit", defArgs (top 50), defBody (top 50), defScope (top 50), [], []⟩]
def fnK2 : List He.DefD := [⟨("block_spots", none), "block_spots", "block_spots", defArgs (top 51), defBody (top 51), defScope (top 51), [], []⟩, ⟨("is_inside", none), "is_inside", "is_inside", defArgs (top 52), defBody (top 52), defScope (top 52), [], []⟩, ⟨("sign_in_block", none), "sign_in_block", "sign_in_block", defArgs (top 53), defBody (top 53), defScope (top 53), [], []⟩, ⟨("sign_behind", none), "sign_behind", "sign_behind", defArgs (top 54), defBody (top 54), defScope (top 54), [], []⟩, ⟨("spots_to_look_at", none), "spots_to_look_at", "spots_to_look_at", defArgs (top 55), defBody (top 55), defScope (top 55), [], []⟩, ⟨("step_of", none), "step_of", "step_of", defArgs (top 56), defBody (top 56), defScope (top 56), [], []⟩, ⟨("begun", none), "begun", "begun", defArgs (top 58), defBody (top 58), defScope (top 58), [], []⟩, ⟨("moved_cells", none), "moved_cells", "moved_cells", defArgs (top 59), defBody (top 59), defScope (top 59), [], []⟩, ⟨("shift_between", none), "shift_between", "shift_between", defArgs (top 60), defBody (top 60), defScope (top 60), [], []⟩, ⟨("shift_suits", none), "shift_suits", "shift_suits", defArgs (top 61), defBody (top 61), defScope (top 61), [], []⟩]
def fnK3 : List He.DefD := [⟨("word_of", none), "word_of", "word_of", defArgs (top 62), defBody (top 62), defScope (top 62), [], []⟩, ⟨("paper_by", none), "paper_by", "paper_by", defArgs (top 63), defBody (top 63), defScope (top 63), [], []⟩, ⟨("paper_of", none), "paper_of", "paper_of", defArgs (top 64), defBody (top 64), defScope (top 64), [], []⟩, ⟨("texts_of", none), "texts_of", "texts_of", defArgs (top 68), defBody (top 68), defScope (top 68), [], []⟩, ⟨("rows_of", none), "rows_of", "rows_of", defArgs (top 69), defBody (top 69), defScope (top 69), [], []⟩, ⟨("begins", none), "begins", "begins", defArgs (top 70), defBody (top 70), defScope (top 70), [], []⟩, ⟨("cells_of", none), "cells_of", "cells_of", defArgs (top 71), defBody (top 71), defScope (top 71), [], []⟩, ⟨("search", none), "search", "search", defArgs (top 72), defBody (top 72), defScope (top 72), [], []⟩, ⟨("_law_bag", none), "_law_bag", "_law_bag", defArgs (top 74), defBody (top 74), defScope (top 74), [], []⟩, ⟨("_law_take", none), "_law_take", "_law_take", defArgs (top 75), defBody (top 75), defScope (top 75), [], []⟩]
def fnK4 : List He.DefD := [⟨("_law_alike", none), "_law_alike", "_law_alike", defArgs (top 76), defBody (top 76), defScope (top 76), [], []⟩, ⟨("_law_signs", none), "_law_signs", "_law_signs", defArgs (top 77), defBody (top 77), defScope (top 77), [], []⟩, ⟨("_law_some", none), "_law_some", "_law_some", defArgs (top 78), defBody (top 78), defScope (top 78), [], []⟩, ⟨("_law_near", none), "_law_near", "_law_near", defArgs (top 79), defBody (top 79), defScope (top 79), [], []⟩, ⟨("_law_test", none), "_law_test", "_law_test", defArgs (top 80), defBody (top 80), defScope (top 80), [], []⟩, ⟨("_law_row", none), "_law_row", "_law_row", defArgs (top 81), defBody (top 81), defScope (top 81), [], []⟩, ⟨("_law_block_row", none), "_law_block_row", "_law_block_row", defArgs (top 82), defBody (top 82), defScope (top 82), [], []⟩, ⟨("_law_rule", none), "_law_rule", "_law_rule", defArgs (top 83), defBody (top 83), defScope (top 83), [], []⟩, ⟨("_law_holds", none), "_law_holds", "_law_holds", defArgs (top 84), defBody (top 84), defScope (top 84), [], []⟩, ⟨("_law_becomes", none), "_law_becomes", "_law_becomes", defArgs (top 85), defBody (top 85), defScope (top 85), [], []⟩]
def fnK5 : List He.DefD := [⟨("_law_block", none), "_law_block", "_law_block", defArgs (top 86), defBody (top 86), defScope (top 86), [], []⟩, ⟨("_law_sign", none), "_law_sign", "_law_sign", defArgs (top 87), defBody (top 87), defScope (top 87), [], []⟩, ⟨("_law_spots", none), "_law_spots", "_law_spots", defArgs (top 88), defBody (top 88), defScope (top 88), [], []⟩, ⟨("_law_off", none), "_law_off", "_law_off", defArgs (top 89), defBody (top 89), defScope (top 89), [], []⟩, ⟨("_law_in_block", none), "_law_in_block", "_law_in_block", defArgs (top 90), defBody (top 90), defScope (top 90), [], []⟩, ⟨("_law_sign_later", none), "_law_sign_later", "_law_sign_later", defArgs (top 91), defBody (top 91), defScope (top 91), [], []⟩, ⟨("_law_turn", none), "_law_turn", "_law_turn", defArgs (top 92), defBody (top 92), defScope (top 92), [], []⟩, ⟨("_law_made", none), "_law_made", "_law_made", defArgs (top 93), defBody (top 93), defScope (top 93), [], []⟩, ⟨("_law_blocks", none), "_law_blocks", "_law_blocks", defArgs (top 94), defBody (top 94), defScope (top 94), [], []⟩, ⟨("_law_lively", none), "_law_lively", "_law_lively", defArgs (top 95), defBody (top 95), defScope (top 95), [], []⟩]
def fnK6 : List He.DefD := [⟨("_law_later", none), "_law_later", "_law_later", defArgs (top 96), defBody (top 96), defScope (top 96), [], []⟩, ⟨("_law_seen", none), "_law_seen", "_law_seen", defArgs (top 97), defBody (top 97), defScope (top 97), [], []⟩, ⟨("_law_moved", none), "_law_moved", "_law_moved", defArgs (top 98), defBody (top 98), defScope (top 98), [], []⟩, ⟨("_law_suits", none), "_law_suits", "_law_suits", defArgs (top 99), defBody (top 99), defScope (top 99), [], []⟩, ⟨("_law_paper", none), "_law_paper", "_law_paper", defArgs (top 100), defBody (top 100), defScope (top 100), [], []⟩, ⟨("_law_texts", none), "_law_texts", "_law_texts", defArgs (top 101), defBody (top 101), defScope (top 101), [], []⟩, ⟨("_law_due", none), "_law_due", "_law_due", defArgs (top 102), defBody (top 102), defScope (top 102), [], []⟩, ⟨("_law_refused", none), "_law_refused", "_law_refused", defArgs (top 103), defBody (top 103), defScope (top 103), [], []⟩, ⟨("_law_full_right", none), "_law_full_right", "_law_full_right", defArgs (top 104), defBody (top 104), defScope (top 104), [], []⟩, ⟨("law", none), "law", "law", defArgs (top 105), defBody (top 105), defScope (top 105), [], []⟩]
def fnK7 : List He.DefD := [⟨("Field", some "__init__"), "__init__", "Field.__init__", defArgs (mth 33 0), defBody (mth 33 0), defScope (mth 33 0), [], []⟩, ⟨("Field", some "kind"), "kind", "Field.kind", defArgs (mth 33 4), defBody (mth 33 4), defScope (mth 33 4), [], []⟩, ⟨("Field", some "turn"), "turn", "Field.turn", defArgs (mth 33 5), defBody (mth 33 5), defScope (mth 33 5), [], []⟩, ⟨("Field", some "edge"), "edge", "Field.edge", defArgs (mth 33 6), defBody (mth 33 6), defScope (mth 33 6), [], []⟩, ⟨("Field", some "frame"), "frame", "Field.frame", defArgs (mth 33 9), defBody (mth 33 9), defScope (mth 33 9), [], []⟩, ⟨("Field", some "look"), "look", "Field.look", defArgs (mth 33 10), defBody (mth 33 10), defScope (mth 33 10), [], []⟩, ⟨("Field", some "remade"), "remade", "Field.remade", defArgs (mth 33 12), defBody (mth 33 12), defScope (mth 33 12), [], []⟩, ⟨("Field", some "cells"), "cells", "Field.cells", defArgs (mth 33 14), defBody (mth 33 14), defScope (mth 33 14), [], []⟩, ⟨("Rule", some "__init__"), "__init__", "Rule.__init__", defArgs (mth 46 0), defBody (mth 46 0), defScope (mth 46 0), [], []⟩, ⟨("Rule", some "is_row"), "is_row", "Rule.is_row", defArgs (mth 46 1), defBody (mth 46 1), defScope (mth 46 1), [], []⟩]
def fnK8 : List He.DefD := [⟨("Rule", some "kind"), "kind", "Rule.kind", defArgs (mth 46 2), defBody (mth 46 2), defScope (mth 46 2), [], []⟩, ⟨("Rule", some "near"), "near", "Rule.near", defArgs (mth 46 4), defBody (mth 46 4), defScope (mth 46 4), [], []⟩, ⟨("Rule", some "rows"), "rows", "Rule.rows", defArgs (mth 46 5), defBody (mth 46 5), defScope (mth 46 5), [], []⟩, ⟨("Rule", some "signs"), "signs", "Rule.signs", defArgs (mth 46 6), defBody (mth 46 6), defScope (mth 46 6), [], []⟩, ⟨("Rule", some "test_holds"), "test_holds", "Rule.test_holds", defArgs (mth 46 7), defBody (mth 46 7), defScope (mth 46 7), [], []⟩, ⟨("Rule", some "fate"), "fate", "Rule.fate", defArgs (mth 46 8), defBody (mth 46 8), defScope (mth 46 8), [], []⟩, ⟨("Rule", some "fate_of_block"), "fate_of_block", "Rule.fate_of_block", defArgs (mth 46 9), defBody (mth 46 9), defScope (mth 46 9), [], []⟩, ⟨("Rule", some "keeps_ground"), "keeps_ground", "Rule.keeps_ground", defArgs (mth 46 12), defBody (mth 46 12), defScope (mth 46 12), [], []⟩, ⟨("TooMany", some "__init__"), "__init__", "TooMany.__init__", defArgs (mth 6 0), defBody (mth 6 0), defScope (mth 6 0), [], []⟩]
def fnK : List He.DefD := fnK0 ++ fnK1 ++ fnK2 ++ fnK3 ++ fnK4 ++ fnK5 ++ fnK6 ++ fnK7 ++ fnK8
def loose0 : List Str := ["_wall", "CellError", "Wrong", "BadRow", "TooFar", "TooMany", "Strange", "NoCell", "Unfit", "Fixed", "Restless", "Odd", "SIGNS", "GROUND_kinds", "FARTHEST", "LATEST", "PLACES", "OFFS", "is_whole", "is_from_to", "is_sign", "is_signs", "is_spot", "is_turn", "is_place", "MOST_FRAME_fields", "need_good", "is_listed", "are_listed", "need_near"]
def loose1 : List Str := ["Field", "endless", "SORTS", "STRAIGHT", "MOST_ROWS", "MOST_TESTS", "is_near", "are_of", "is_test", "is_cell_row", "is_text_of", "is_block_row", "Rule", "MOST_FRAME_plain", "strange_sign", "need_fit", "block_spots", "is_inside", "sign_in_block", "sign_behind", "spots_to_look_at", "step_of", "begun", "moved_cells", "shift_between", "shift_suits", "word_of", "paper_by", "paper_of", "MOST_PICTURES"]
def loose2 : List Str := ["GROUND_search", "texts_of", "rows_of", "begins", "cells_of", "search", "_law_bag", "_law_take", "_law_alike", "_law_signs", "_law_some", "_law_near", "_law_test", "_law_row", "_law_block_row", "_law_rule", "_law_holds", "_law_becomes", "_law_block", "_law_sign", "_law_spots", "_law_off", "_law_in_block", "_law_sign_later", "_law_turn", "_law_made", "_law_blocks", "_law_lively", "_law_later", "_law_seen"]
def loose3 : List Str := ["_law_moved", "_law_suits", "_law_paper", "_law_texts", "_law_due", "_law_refused", "_law_full_right"]
def loose : List Str := loose0 ++ loose1 ++ loose2 ++ loose3
def tsK : List He.Tab := [(fun K => He.ga K "OFFS", placesL)]
abbrev AlK : Type := He.AlT × Bool
def obsK (K : PySem.W.Frag) : AlK := (He.obsT faK fnK tsK K, exK K)
def obsKG (g : Addr → Option Obj) : AlK := obsK (He.frG g (asK g))
structure SaysK (w : World) (K : PySem.W.Frag) : Prop where
  t : He.SaysT faK fnK tsK w K
  more : exK K = true
def hkK : PySem.W.Hook where
  α := AlK
  obs := fun s => obsKG s.heap.get?
  val := fun w => (He.valT fnK tsK w, true)
  says := fun w h => ∃ K : PySem.W.Frag, K.In h ∧ SaysK w K
  of := fun w s e => ⟨_, He.frG_in, ⟨congrArg (fun z : AlK => z.1) e, congrArg (fun z : AlK => z.2) e⟩⟩
  keeps := fun _ _ _ ⟨K, hK, c⟩ k => ⟨K, PySem.W.Frag.In.keeps hK k, c⟩
def obK (s : PySem.W.SharedT) : AlK := obsKG (HandSHeadRun.getT s)
theorem obK_eq (s : PySem.W.SharedT) : obK s = hkK.obs s.abs := by
  have e : HandSHeadRun.getT s = s.abs.heap.get? := funext (HandSHeadRun.getT_eq s)
  show obsKG _ = obsKG _
  rw [e]
abbrev RowK : PySem.W.OpenRow := PySem.W.OpenLaw.row PySem.Challenge.rw_cellscript_k68_whole_search_has_all
end Cs

set_option Elab.async false
set_option linter.all false
set_option maxRecDepth 100000
set_option maxHeartbeats 0
namespace Cs
open PySem PySem.Spec PyProof.Rows L2
/-- the top run, looked at (75 to 100 s, 10 GB) -/
theorem run_f (w : World) : HandSHeadRun.RunEq RowK (PySem.W.view RowK.prog [105]) hkK obK 7000 loose (w.withFollow "special-get-raises" false) := fun os => by kernel_rfl
theorem run_t (w : World) : HandSHeadRun.RunEq RowK (PySem.W.view RowK.prog [105]) hkK obK 7000 loose (w.withFollow "special-get-raises" true) := fun os => by kernel_rfl
theorem runK (w : World) : HandSHeadRun.RunEq RowK (PySem.W.view RowK.prog [105]) hkK obK 7000 loose w :=
  PySem.W.byRow2 "special-get-raises" (P := fun w => HandSHeadRun.RunEq RowK (PySem.W.view RowK.prog [105]) hkK obK 7000 loose w) run_f run_t w
end Cs

set_option Elab.async false
set_option linter.all false
set_option autoImplicit false
set_option maxRecDepth 100000
set_option maxHeartbeats 4000000
namespace Cs
open PySem PySem.Spec PyProof.Rows L2
section
variable {P : Program} {w : World} {K : PySem.W.Frag} {mg : Str → Option Value} {base : Heap}
theorem sc_bs : FnScope ["x", "y", "now", "left", "top"] ["x", "y", "now"] (defScope (top 51)) := ⟨rfl, rfl, rfl, by decide +kernel, rfl, by decide +kernel, by decide +kernel⟩
theorem ok_bs {f : Addr} {fd : FuncData} (F : FnP K "block_spots" (top 51) f fd) (hm : mg "block_spots" = some (.ref f)) (x y t : Int) :
    DfOk P w K mg base "block_spots" 1 false [Dt K (.int x), Dt K (.int y), Dt K (.int t)] (Dt K (.list [.tuple [.int (x - (x + t) % 2), .int (y - (y + t) % 2)], .tuple [.int (x - (x + t) % 2 + 1), .int (y - (y + t) % 2)], .tuple [.int (x - (x + t) % 2), .int (y - (y + t) % 2 + 1)], .tuple [.int (x - (x + t) % 2 + 1), .int (y - (y + t) % 2 + 1)]])) := by
  refine mk_df ["x", "y", "now", "left", "top"] (N := noA) F hm sc_bs (fun _ _ _ _ _ _ us hl => match us, hl with | [_, _, _], _ => rfl) rfl ⟨trivial, trivial, trivial, trivial⟩ (fun W X hW c hX => ?_) (fun _ _ _ _ _ z => z.elim)
  obtain ⟨cdv, A, outer, s, H, E, rfl⟩ := hX
  exact srs_cons (sr_par 3 4 c (ea_cons (ev_sub (ev_var 0) (ev_mod (ev_add (ev_var 0) (ev_var 2)) ev_int (by decide))) (ea_cons (ev_sub (ev_var 1) (ev_mod (ev_add (ev_var 1) (ev_var 2)) ev_int (by decide))) ea_nil)))
    (srs_ret (ev_lst (ead_cons (ev_tup (ead_cons (ev_var 3) (ead_cons (ev_var 4) ead_nil))) (ead_cons (ev_tup (ead_cons (ev_add (ev_var 3) ev_int) (ead_cons (ev_var 4) ead_nil))) (ead_cons (ev_tup (ead_cons (ev_var 3) (ead_cons (ev_add (ev_var 4) ev_int) ead_nil)))
      (ead_cons (ev_tup (ead_cons (ev_add (ev_var 3) ev_int) (ead_cons (ev_add (ev_var 4) ev_int) ead_nil))) ead_nil))))))
end
end Cs

set_option Elab.async false
set_option linter.all false
set_option autoImplicit false
set_option maxRecDepth 100000
set_option maxHeartbeats 4000000
/-! The layer, part G: dicts; a dict that stands still is locked for good. -/
namespace Cs
open PySem PySem.Spec PyProof.Rows L2

/-! ### locking for good -/
def fzE (t : TE) : TE := fun σ H Q => t σ H fun v H1 => ∃ d u, H1 d = some u ∧ Mut (some u) ∧ ∀ od, Q v (upd H1 d (.frz od u))
theorem pe_fz {X : Cx} {e : Expr} {t : TE} (h : PE X e t) : PE X e (fzE t) := ⟨fun pins s σ H Q I q => by
  refine thn (h.run pins s σ H _ I q) fun v s1 ⟨x, H1, I1, r, d, u, e1, mu, q1⟩ => ?_
  obtain ⟨od, I2⟩ := I1.lock e1 mu
  exact ⟨x, _, I2, r, q1 od⟩⟩
def fzS (t : TS) : TS := fun D σ H => ∃ d u, H d = some u ∧ Mut (some u) ∧ ∀ od, t D σ (upd H d (.frz od u))
theorem pss_fz {X : Cx} {st : List Stmt} {t : TS} (h : PSs X st t) : PSs X st (fzS t) := ⟨fun pins s σ H D I q => by
  obtain ⟨d, u, e, mu, q⟩ := q
  obtain ⟨od, I1⟩ := I.lock e mu
  exact h.run pins s σ _ D I1 (q od)⟩
section
variable {K : PySem.W.Frag} {W : Option Addr} {G H G' H' H0 G0 : Hp} {v : V} {e : Ent}
theorem Step.frz (s : Step K W G0 H0 G H) {p : Addr} {u : HO} {od : Obj} (h0 : H0 p = none) (gp : G p = none) (hp : H p = some u) (w : W ≠ some p) : Step K W G0 H0 (upd G p (.frz od u)) (upd H p (.frz od u)) where
  keep := fun a o e n => by rw [upd_ne (ne_of_none e h0)]; exact s.keep a o e n
  gro := fun a o e => same_new gp a o (s.gro a o e)
  new := fun a o e e' => by
    by_cases q : a = p
    · subst q; exact .inl h0
    · rw [upd_ne q] at e'; exact s.new a o e e'
  frm := by
    refine ⟨fun a o e => ?_, fun b hb => ?_⟩
    · by_cases q : a = p
      · subst q; rw [upd_same] at e ⊢; exact e
      · rw [upd_ne q] at e ⊢; exact s.frm.1 a o e
    · obtain ⟨h1, x, y, z, c, ns, h2, h3, h4⟩ := s.frm.2 b hb
      have ne : b ≠ p := fun q => w (q ▸ hb)
      exact ⟨by rw [upd_ne ne]; exact h1, x, y, z, c, ns, by rw [upd_ne ne]; exact h2, (same_new gp).seq h3, h4⟩
  bagS := fun b o hb e => by
    obtain ⟨o', e'⟩ := s.bagS b o hb e
    have ne : b ≠ p := fun q => w (q ▸ hb)
    exact ⟨o', by rw [upd_ne ne]; exact e'⟩
/-- the other entries when p is locked -/
theorem EntOk.frz {p : Addr} {ho : HO} {u : HO} {v : V} {e : Ent} (q : EntOk W H0 G H v e) (gp : G p = none) (n : ∀ o, e = .own o → v ≠ .ref p) : EntOk W H0 (upd G p u) (upd H p ho) v e := by
  have l : Lk G (upd G p u) := same_new gp
  cases e with
  | fro t => exact up.lk q l
  | own o =>
    obtain ⟨p', ho', rfl, a1, a2, a3, a4, a5⟩ := q
    have np : p' ≠ p := fun z => n o rfl (by rw [z])
    exact ⟨p', ho', rfl, a1, by rw [upd_ne np]; exact a2, by rw [upd_ne np]; exact a3, a4, fun G' l' => a5 G' (l.trans l')⟩
  | bag => exact q
end
section
variable {P : Program} {w : World} {K : PySem.W.Frag} {mg : Str → Option Value} {base : Heap} {k : Nat} {X : Cx} {W : Option Addr} {Γ Γ' : En} {x : Str} {pos : Pos} {a b : Expr} {e e1 e2 : Ent} {N B C : As} {R : Ent} {rest : List Stmt} {G H H0 : Hp} {v : V}
/-- one's own thing is locked: from here on it stands still -/
theorem ev_frz {o : OwnP} {t : T} (h : Ev X K W Γ a (.own o)) (hm : ∀ p G ho, o p G ho → Mut (some ho)) (ht : ∀ G p od ho, G p = some (.frz od ho) → (∀ G', Lk G G' → o p G' ho) → up t G (.ref p)) : Ev X K W Γ a (.fro t) :=
  peI (pe_fz h) fun σ H Q ⟨H0, G, f, en, k⟩ => ⟨H0, G, f, en, fun v H1 G1 s1 q1 => by
    obtain ⟨p, ho, rfl, h0, gp, hp, nw, q⟩ := q1
    exact ⟨p, ho, hp, hm _ _ _ (q _ (Lk.refl _)), fun od => k _ _ _ (s1.frz h0 gp hp nw.1) (ht _ p od ho upd_same fun G2 l => q G2 ((same_new gp).trans l))⟩⟩
theorem srs_frz (i : Nat) {o : OwnP} {t : T} (he : Γ[i]? = some (some (.own o))) (hm : ∀ p G ho, o p G ho → Mut (some ho)) (ht : ∀ G p od ho, G p = some (.frz od ho) → (∀ G', Lk G G' → o p G' ho) → up t G (.ref p)) (h : Srs X K W rest (envA W (Γ.set i (some (.fro t)))) N B C R) : Srs X K W rest (envA W Γ) N B C R := by
  refine pssI (pss_fz h) fun D σ H ⟨H0, G0, G, s0, en, r⟩ => ?_
  obtain ⟨v, hv, p, ho, rfl, h0, gp, hp, nw, q⟩ := en.at_ i _ he
  refine ⟨p, ho, hp, hm _ _ _ (q _ (Lk.refl _)), fun od => ⟨H0, G0, upd G p (.frz od ho), s0.frz h0 gp hp nw.1, ⟨by rw [List.length_set]; exact en.len, fun j e g => ?_, fun j1 j2 o1 o2 p g1 g2 g3 g4 => ?_⟩, r⟩⟩
  · by_cases z : i = j
    · subst z
      have lt : i < Γ.length := (List.getElem?_eq_some_iff.mp he).1
      rw [List.getElem?_set_self lt] at g
      cases g
      exact ⟨_, hv, ht _ p od ho upd_same fun G' l' => q G' ((same_new gp).trans l')⟩
    · rw [List.getElem?_set_ne z] at g
      obtain ⟨u, hu, qu⟩ := en.at_ j e g
      exact ⟨u, hu, qu.frz gp fun o' eo eu => z (en.sep i j o o' p he (by rw [← eo]; exact g) hv (by rw [hu, eu]))⟩
  · have ne : ∀ (j : Nat) (o : OwnP), (Γ.set i (some (.fro t)))[j]? = some (some (.own o)) → Γ[j]? = some (some (.own o)) := fun j o g => by
      by_cases z : i = j
      · subst z
        have lt : i < Γ.length := (List.getElem?_eq_some_iff.mp he).1
        rw [List.getElem?_set_self lt] at g
        cases g
      · rw [List.getElem?_set_ne z] at g
        exact g
    exact en.sep j1 j2 o1 o2 p (ne _ _ g1) (ne _ _ g2) g3 g4

/-! ### dicts of spots -/
abbrev Spot := Int × Int
def key2 (q : Spot) : List L2.Key := [.inl q.1, .inl q.2]
theorem key2_inj {p q : Spot} (h : key2 p = key2 q) : p = q := by
  obtain ⟨a, b⟩ := p
  obtain ⟨c, d⟩ := q
  simp only [key2, List.cons.injEq, Sum.inl.injEq, and_true] at h
  rw [h.1, h.2]
def kv2 (ps : List (Spot × V)) : List (List L2.Key × V) := ps.map fun q => (key2 q.1, q.2)
theorem kv2_val (ps : List (Spot × V)) (q : Spot) : valV (kv2 ps) (key2 q) = valV ps q := by
  induction ps with
  | nil => rfl
  | cons p r ih =>
    by_cases e : p.1 = q
    · rw [valV_pos e]
      exact valV_pos (show key2 p.1 = key2 q by rw [e])
    · rw [valV_neg e, ← ih]
      exact valV_neg (show ¬ key2 p.1 = key2 q from fun z => e (key2_inj z))
theorem kv2_put (ps : List (Spot × V)) (q : Spot) (u : V) : putK (kv2 ps) (key2 q) u = kv2 (putK ps q u) := by
  have e : (kv2 ps).any (fun kv => decide (kv.1 = key2 q)) = ps.any fun kv => decide (kv.1 = q) := by
    rw [valV_any, valV_any, kv2_val]
  unfold putK
  rw [e]
  split
  · unfold kv2
    rw [List.map_map, List.map_map]
    refine List.map_congr_left fun p _ => ?_
    simp only [Function.comp]
    by_cases z : p.1 = q
    · rw [if_pos z, if_pos (by rw [z])]
    · rw [if_neg z, if_neg fun h => z (key2_inj h)]
  · unfold kv2
    rw [List.map_append]
    rfl
def dctT (ps : List (Spot × V)) : T := fun G v => ∃ p ob, v = .ref p ∧ G p = some (.frz ob (.dT (kv2 ps)))
theorem up_dct {ps : List (Spot × V)} {p : Addr} {ob : Obj} (h : G p = some (.frz ob (.dT (kv2 ps)))) : up (dctT ps) G (.ref p) := fun _ l => ⟨p, ob, rfl, l _ _ h⟩
def dctO (ps : List (Spot × V)) : OwnP := fun _ _ o => o = .dT (kv2 ps)
theorem ev_frzD {ps : List (Spot × V)} (h : Ev X K W Γ a (.own (dctO ps))) : Ev X K W Γ a (.fro (dctT ps)) :=
  ev_frz h (fun _ G ho z => by rw [z]; exact True.intro) fun G p od ho hp z => by
    have e : ho = .dT (kv2 ps) := z _ (Lk.refl _)
    subst e
    exact up_dct hp
theorem srs_frzD (i : Nat) {ps : List (Spot × V)} (h : Srs X K W rest (envA W (Γ.set i (some (.fro (dctT ps))))) N B C R) (he : Γ[i]? = some (some (.own (dctO ps))) := by rfl) : Srs X K W rest (envA W Γ) N B C R :=
  srs_frz i he (fun _ G ho z => by rw [z]; exact True.intro) (fun G p od ho hp z => by
    have e : ho = .dT (kv2 ps) := z _ (Lk.refl _)
    subst e
    exact up_dct hp) h
/-- {} -/
theorem ev_dnew : Ev X K W Γ (.Dict [] [] pos) (.own (dctO [])) :=
  peI pe_dnewT fun σ H Q ⟨H0, G, f, en, k⟩ p hp => k _ _ _ (Step.mine f hp) ⟨p, _, rfl, hp, f.free hp, upd_same, ⟨f.neB hp, True.intro⟩, fun _ _ => rfl⟩
/-- a key: a new tuple of two numbers -/
def keyT (q : Spot) : T := fun G v => ∃ p, v = .ref p ∧ G p = some (.tup [.int q.1, .int q.2])
theorem up_key {q : Spot} {p : Addr} (h : G p = some (.tup [.int q.1, .int q.2])) : up (keyT q) G (.ref p) := fun _ l => ⟨p, rfl, l _ _ h⟩
abbrev sptD (q : Spot) : PyData := .tuple [.int q.1, .int q.2]
theorem key_dat {q : Spot} (h : up (keyT q) G v) : up (dat K (sptD q)) G v := fun G' l => by
  obtain ⟨p, rfl, e⟩ := h G' l
  exact .tup (SqT.of e) (.cons (.int _) (.cons (.int _) .nil))
theorem ev_key {q : Spot} {xs : List Expr} {x1 : Nat} (h : Ead X K W Γ xs [.int q.1, .int q.2]) : Ev X K W Γ (.Tuple xs x1 pos) (.fro (keyT q)) :=
  peI (pe_tup h) fun σ H Q ⟨H0, G, f, en, k⟩ => ⟨H0, G, f, en, fun vs H1 G1 s1 q1 => ⟨by rw [q1.length]; exact Nat.le_of_ble_eq_true rfl, fun p hp => by
    cases q1 with
    | cons r1 t1 => cases t1 with
      | cons r2 t2 =>
        cases t2
        cases r1
        cases r2
        exact k (.ref p) _ _ (s1.trans (Step.lay s1.frm hp)) (up_key upd_same)⟩⟩
theorem key_tup {q : Spot} {p : Addr} (f : Frm K W G H) (h : up (keyT q) G v) : ∃ p, v = .ref p ∧ H p = some (.tup ((key2 q).map kV)) := by
  obtain ⟨p, rfl, e⟩ := up.now h
  exact ⟨p, rfl, f.1 _ _ e⟩
theorem dget2 {ps : List (Spot × V)} {q : Spot} {y : V} (f : Frm K W G H) (hd : up (dctT ps) G v) (hk : up (keyT q) G y) : ∃ p, v = .ref p ∧ DGet H p y (valV ps q) := by
  obtain ⟨p, ob, rfl, e⟩ := up.now hd
  obtain ⟨p', rfl, e'⟩ := key_tup (p := p) f hk
  exact ⟨p, rfl, .inr ⟨kv2 ps, key2 q, p', .inr ⟨ob, f.1 _ _ e⟩, rfl, e', (kv2_val ps q).symm⟩⟩
theorem Cok.two (c : Cok P w K mg base k X) : X.A.units + 1 < cLine := by have := c.hr.units; omega
/-- d[x, y] -/
theorem ev_dget {ps : List (Spot × V)} {q : Spot} {u : V} {d : PyData} (c : Cok P w K mg base k X) (hd : Ev X K W Γ a (.fro (dctT ps))) (hk : Ev X K W Γ b (.fro (keyT q))) (hv : valV ps q = some u) (hu : ∀ G, Dp K G u d) (hs : NoSl b := by intro _ _; rfl) : Ev X K W Γ (.Subscript a b pos) (Dt K d) :=
  peI (pe_dget c.two hd hk hs) fun σ H Q ⟨H0, G, f, en, k⟩ => pre2 rfl rfl f en fun x y H2 G2 s q1 q2 => by
    obtain ⟨p, rfl, g⟩ := dget2 s.frm q1 q2
    rw [hv] at g
    exact ⟨p, u, rfl, g, k u H2 G2 s (dt_of (hu _))⟩
/-- (x, y) in d -/
theorem op_inD (c : Cok P w K mg base k X) : OpR X (compareOp .In) (fun x y H Q => ∃ p o, y = .ref p ∧ DGet H p x o ∧ Q (.bl o.isSome) H) := by
  intro pins s σ H x y v u Q I rx ry h
  obtain ⟨p, o, rfl, g, q⟩ := h
  obtain rfl : u = Value.ref p := ry
  exact d_in c.two I g rx fun s3 I3 => ⟨.bl o.isSome, H, I3, rfl, q⟩
theorem rd_inD {ps : List (Spot × V)} {q : Spot} : RdO K W (fun x y H Q => ∃ p o, y = .ref p ∧ DGet H p x o ∧ Q (.bl o.isSome) H) (.fro (keyT q)) (.fro (dctT ps)) (Dt K (.bool (valV ps q).isSome)) := fun H0 G H x y f hb q1 q2 Q k => by
  obtain ⟨p, rfl, g⟩ := dget2 f q2 q1
  exact ⟨p, _, rfl, g, k _ H G (Step.refl f) (dt_of (.bl _))⟩
end
end Cs

set_option Elab.async false
set_option linter.all false
set_option autoImplicit false
set_option maxRecDepth 100000
set_option maxHeartbeats 4000000
/-! The layer, part H: dicts of spots: storing, walking, list(d). -/
namespace Cs
open PySem PySem.Spec PyProof.Rows L2
section
variable {K : PySem.W.Frag} {W : Option Addr} {G H G' H' H0 G0 : Hp} {v : V} {e : Ent} {Γ : En} {σ : L2.St}
/-- a tuple that is tracked stands still anyway -/
theorem Step.tupIn (s : Step K W G0 H0 G H) {p : Addr} {xs : List V} (hp : H p = some (.tup xs)) : Step K W G0 H0 (upd G p (.tup xs)) H := by
  have sm : Same G (upd G p (.tup xs)) := fun a o e => by
    by_cases q : a = p
    · subst q
      have := s.frm.1 a o e
      rw [hp] at this
      cases this
      exact upd_same
    · rw [upd_ne q]; exact e
  refine ⟨s.keep, s.gro.trans sm, fun a o e e' => ?_, ⟨fun a o e => ?_, fun b hb => ?_⟩, s.bagS⟩
  · by_cases q : a = p
    · subst q
      cases y : H0 a with
      | none => exact .inl rfl
      | some u =>
        by_cases hb : W = some a
        · obtain ⟨_, _, _, _, _, _, e2, _⟩ := s.frm.2 a hb
          rw [hp] at e2
          cases e2
        · have e3 := s.keep a u y hb
          rw [hp] at e3
          cases e3
          exact .inr ⟨xs, rfl⟩
    · rw [upd_ne q] at e'; exact s.new a o e e'
  · by_cases q : a = p
    · subst q; rw [upd_same] at e; cases e; exact hp
    · rw [upd_ne q] at e; exact s.frm.1 a o e
  · obtain ⟨h1, x, y, z, c, ns, h2, h3, h4⟩ := s.frm.2 b hb
    have ne : b ≠ p := fun q => by rw [q, hp] at h2; cases h2
    exact ⟨by rw [upd_ne ne]; exact h1, x, y, z, c, ns, h2, (Lk.same sm).lst h3, h4⟩
theorem EntOk.at_ (q : EntOk W H0 G H v e) {p : Addr} {ho : HO} (n : ∀ o, e = .own o → v ≠ .ref p) : EntOk W H0 G (upd H p ho) v e := by
  cases e with
  | fro t => exact q
  | own o =>
    obtain ⟨p', ho', rfl, a1, a2, a3, a4, a5⟩ := q
    have np : p' ≠ p := fun z => n o rfl (by rw [z])
    exact ⟨p', ho', rfl, a1, a2, by rw [upd_ne np]; exact a3, a4, a5⟩
  | bag => exact q
/-- one's own thing in slot i is changed -/
theorem EnvOk.chg (h : EnvOk W H0 G H σ Γ) {i : Nat} {o o' : OwnP} {p : Addr} {ho : HO} (he : Γ[i]? = some (some (.own o))) (hv : σ[i]? = some (some (.ref p))) (mu : Mut (some ho)) (q : ∀ G', Lk G G' → o' p G' ho) : EnvOk W H0 G (upd H p ho) σ (Γ.set i (some (.own o'))) := by
  have lt : i < Γ.length := (List.getElem?_eq_some_iff.mp he).1
  have ne : ∀ (j : Nat) (o1 : OwnP), (Γ.set i (some (.own o')))[j]? = some (some (.own o1)) → ∃ o2, Γ[j]? = some (some (.own o2)) := fun j o1 g => by
    by_cases z : i = j
    · subst z; exact ⟨o, he⟩
    · rw [List.getElem?_set_ne z] at g; exact ⟨o1, g⟩
  refine ⟨by rw [List.length_set]; exact h.len, fun j e g => ?_, fun j1 j2 o1 o2 p1 g1 g2 g3 g4 => ?_⟩
  · by_cases z : i = j
    · subst z
      rw [List.getElem?_set_self lt] at g
      cases g
      obtain ⟨v, hv', p', ho', rfl, a1, a2, a3, a4, _⟩ := h.at_ i _ he
      rw [hv] at hv'
      cases hv'
      exact ⟨_, hv, p, ho, rfl, a1, a2, upd_same, ⟨a4.1, mu⟩, q⟩
    · rw [List.getElem?_set_ne z] at g
      obtain ⟨u, hu, qu⟩ := h.at_ j e g
      exact ⟨u, hu, qu.at_ fun o1 eo eu => z (h.sep i j o o1 p he (by rw [← eo]; exact g) hv (by rw [hu, eu]))⟩
  · obtain ⟨o3, g1'⟩ := ne j1 o1 g1
    obtain ⟨o4, g2'⟩ := ne j2 o2 g2
    exact h.sep j1 j2 o3 o4 p1 g1' g2' g3 g4
end

/-! ### cells: spots and signs -/
abbrev Cells := List (Spot × Nat)
def sgV (n : Nat) : V := .str (txt [n])
def sgs (c : Cells) : List (Spot × V) := c.map fun q => (q.1, sgV q.2)
def lk (c : Cells) (q : Spot) : Option Nat := (c.find? fun p => decide (p.1 = q)).map (·.2)
theorem sgs_val (c : Cells) (q : Spot) : valV (sgs c) q = (lk c q).map sgV := by
  induction c with
  | nil => rfl
  | cons p r ih =>
    by_cases e : p.1 = q
    · show valV ((p.1, sgV p.2) :: sgs r) q = _
      rw [valV_pos e]
      simp [lk, List.find?_cons, e]
    · show valV ((p.1, sgV p.2) :: sgs r) q = _
      rw [valV_neg e, ih]
      simp [lk, List.find?_cons, e]
section
variable {P : Program} {w : World} {K : PySem.W.Frag} {mg : Str → Option Value} {base : Heap} {k : Nat} {X : Cx} {W : Option Addr} {Γ Γ' : En} {x : Str} {pos pos' p2 apos cpos : Pos} {a b l : Expr} {e e1 e2 : Ent} {N B C : As} {R : Ent} {rest : List Stmt} {G H H0 : Hp} {v : V} {tg : Expr} {ps : List (Spot × V)} {q : Spot}
/-- d.get((x, y), c) -/
theorem ev_dgetD {dd : Expr} {c0 : Cells} {n : Nat} (c : Cok P w K mg base k X) (hd : Ev X K W Γ a (.fro (dctT (sgs c0)))) (hk : Ev X K W Γ b (.fro (keyT q))) (hx : Ev X K W Γ dd (Dt K (sgn n))) (m : M2 X a "get" apos b dd cpos := by exact ⟨rfl, rfl, rfl, rfl⟩) : Ev X K W Γ (.Call (.Attribute a "get" apos) [b, dd] [] cpos) (Dt K (sgn ((lk c0 q).getD n))) :=
  peI (pe_dget2 c.two hd hk hx m) fun σ H Q ⟨H0, G, f, en, k⟩ => ⟨H0, G, f, en, fun v H1 G1 s1 q1 => by
    obtain ⟨p, ob, rfl, e⟩ := up.now q1
    refine ⟨p, rfl, .inr ⟨_, .inr ⟨ob, s1.frm.1 _ _ e⟩⟩, H0, G1, s1.frm, en.step s1, fun y H2 G2 s2 q2 => ⟨H0, G2, (s1.trans s2).frm, en.step (s1.trans s2), fun z H3 G3 s3 q3 => ?_⟩⟩
    obtain ⟨p', e', g⟩ := dget2 (K := K) (W := W) (v := .ref p) s3.frm (q1.step (s2.trans s3) : EntOk W H G3 H3 (.ref p) (.fro (dctT (sgs c0)))) (q2.step s3 : EntOk W H1 G3 H3 y (.fro (keyT q)))
    cases e'
    refine ⟨_, g, k _ H3 G3 (s1.trans (s2.trans s3)) (dt_of ?_)⟩
    rw [dt_str q3, sgs_val]
    cases lk c0 q with
    | none => exact .str _
    | some m => exact .str _⟩
/-- d[x, y] = u, d one's own -/
theorem sr_dput (i : Nat) {dn : Str} {val : Expr} {u : V} {t : T} (c : Cok P w K mg base k X) (hk : Ev X K W Γ b (.fro (keyT q))) (hv : Ev X K W Γ val (.fro t)) (hu : ∀ G v, up t G v → v = u) (hz : ps.length < 16777216)
    (he : Γ[i]? = some (some (.own (dctO ps))) := by rfl) (hN : X.N[i]? = some dn := by rfl) (hvis : Vis X.env.scope dn := by first | exact Or.inl rfl | exact Or.inr (Or.inl rfl) | exact Or.inr (Or.inr rfl)) (hd : (dn == ("__debug__" : Str)) = false := by decide) (hcd : (dn == ("__classdict__" : Str)) = false := by decide)
    (hs : swapsWith val (some (.Subscript (.Name dn p2) b pos')) pos.line X.env = pure false := by rfl) : Sr X K W (.Assign [.Subscript (.Name dn p2) b pos'] val pos) (envA W Γ) (envA W (Γ.set i (some (.own (dctO (putK ps q u)))))) B C R :=
  psI (ps_dput c.two (pe_var hN hvis hd hcd) hk hv hs) fun D σ H ⟨H0, G0, G, s, en, n, r⟩ => ⟨H0, G, s.frm, en, fun v H1 G1 s1 q1 => by
    obtain ⟨vv, hvv, p, ho, rfl, h0, gp, hp, nw, qo⟩ := en.at_ i _ he
    have eho : ho = .dT (kv2 ps) := qo _ (Lk.refl _)
    subst eho
    refine ⟨.ref p, hvv, H0, G1, s1.frm, en.step s1, fun y H2 G2 s2 q2 => ?_⟩
    have s12 := s1.trans s2
    have en2 := en.step s12
    obtain ⟨vv', hvv', p', ho', rfl, b0, bg, bp, bw, bq⟩ := en2.at_ i _ he
    rw [hvv] at hvv'
    cases hvv'
    have eho : ho' = .dT (kv2 ps) := bq _ (Lk.refl _)
    subst eho
    obtain ⟨kp, rfl, hkp⟩ := key_tup (p := p) s2.frm q2
    have ev : v = u := hu _ _ q1
    subst ev
    have hl : (kv2 ps).length < sizeLine := by unfold kv2; rw [List.length_map, sizeLine_eq]; exact hz
    refine ⟨p, _, rfl, DPut.t bp hkp hl, n σ _ G2 ((s.trans s12).chg h0 bg nw.1) ?_⟩
    refine en2.chg he hvv True.intro fun G' _ => ?_
    show _ = _
    rw [kv2_put]⟩
/-- list(d): the keys -/
theorem ev_listD {es : List Expr} {p : Pos} (c : Cok P w K mg base k X) (hm : mg "list" = none) (ha : Ea X K W Γ [a] [.fro (dctT ps)]) (hg : Gl X "list" := by rfl) (he : A1 X a := by rfl) : Ev X K W Γ (.Call (.Name "list" p) [a] [] pos) (Dt K (.list (ps.map fun z => sptD z.1))) :=
  ev_callT c (call_list_dT c.hc) (fun H0 G H vs f hb q Q k => by
    obtain ⟨v, rfl, q1⟩ := args1 q
    obtain ⟨d, ob, rfl, e⟩ := up.now q1
    refine ⟨d, kv2 ps, rfl, .inr ⟨ob, f.1 _ _ e⟩, fun l bs hl ks => ?_⟩
    have hd : ∃ G2, Step K W G H G2 H ∧ ∀ (G' : Hp), Lk G2 G' → DpAll K G' (bs.map V.ref) (ps.map fun z => sptD z.1) := by
      have key : ∀ (ps : List (Spot × V)) (bs : List Addr) (G1 : Hp), Step K W G H G1 H → IsKeys H (kv2 ps) bs → ∃ G2, Step K W G H G2 H ∧ Lk G1 G2 ∧ ∀ (G' : Hp), Lk G2 G' → DpAll K G' (bs.map V.ref) (ps.map fun z => sptD z.1) := by
        intro ps
        induction ps with
        | nil => intro bs G1 s1 ks; cases ks; exact ⟨G1, s1, Lk.refl _, fun _ _ => .nil⟩
        | cons z r ih =>
          intro bs G1 s1 ks
          cases ks with
          | cons h t =>
            rename_i b bs
            have s2 := s1.tupIn h
            obtain ⟨G2, s3, l3, q3⟩ := ih bs _ s2 t
            have g1 : Lk G1 (upd G1 b (.tup ((key2 z.1).map kV))) := fun a o e => by
              by_cases q : a = b
              · subst q
                have := s1.frm.1 a o e
                rw [h] at this
                cases this
                exact upd_same
              · rw [upd_ne q]; exact e
            exact ⟨G2, s3, g1.trans l3, fun G' l => .cons (.tup (SqT.of (l _ _ (l3 _ _ upd_same))) (.cons (.int _) (.cons (.int _) .nil))) (q3 G' l)⟩
      obtain ⟨G2, s2, _, q2⟩ := key ps bs G (Step.refl f) ks
      exact ⟨G2, s2, q2⟩
    obtain ⟨G2, s2, q2⟩ := hd
    obtain ⟨s3, q3⟩ := new_lst s2.frm (q2 _ (Lk.refl _)) hl
    exact k _ _ _ (s2.trans s3) (q3.back hb)) hm (by decide +kernel) ha hg (he := he)
/-- for .. in d -/
theorem it_keys (h : Ev X K W Γ l (.fro (dctT ps))) : PI X tg l (cI K W Γ (ps.map fun z => keyT z.1)) :=
  piI (pi_keys h) fun σ H R' ⟨H0, G, f, en, q⟩ => ⟨H0, G, f, en, fun v H1 G1 s1 q1 => by
    obtain ⟨d, ob, rfl, e⟩ := up.now q1
    refine ⟨d, ob, rfl, .inr ⟨kv2 ps, s1.frm.1 _ _ e, q _ H1 G1 s1 ⟨fun i H' G' lt f' s' => ⟨f'.1 _ _ (s' _ _ e), ?_⟩, fun H' G' f' s' => ⟨f'.1 _ _ (s' _ _ e), ?_⟩, fun i H' G' v H2 lt f' s' y => ?_⟩⟩⟩
    · rw [List.length_map] at lt
      unfold kv2
      rw [List.length_map]
      exact lt
    · unfold kv2
      rw [List.length_map, List.length_map]
      exact Nat.le_refl _
    · obtain ⟨rfl, k, u, b, hk, rfl, hb⟩ := y
      unfold kv2 at hk
      rw [List.getElem?_map] at hk
      cases hz : ps[i]? with
      | none => rw [hz] at hk; cases hk
      | some z =>
        rw [hz] at hk
        cases hk
        refine ⟨upd G' b (.tup ((key2 z.1).map kV)), (Step.refl f').tupIn hb, keyT z.1, ?_, up_key upd_same⟩
        rw [List.getElem?_map, hz]
        rfl⟩
end
end Cs

set_option Elab.async false
set_option linter.all false
set_option autoImplicit false
set_option maxRecDepth 100000
set_option maxHeartbeats 4000000
/-! The layer, part I: dict comprehensions over spots, items. (Printed by mkI.py.) -/
namespace Cs
open PySem PySem.Spec PyProof.Rows L2
/-- d[k] = v by a comprehension, k a tuple -/
theorem d_dictSetT {X : Cx} {pins : List (Addr × Obj)} {σ : L2.St} {H : Hp} {s : Shared} {E : Value → Shared → Prop} {D b : Addr} {kvs : List (List L2.Key × V)} {k : List L2.Key} {v : V} {u r : Value} {Q : Unit → Shared → Prop} (hu : X.A.units + 1 < cLine) (I : Inv X pins σ H s) (hD : H D = some (.dT kvs)) (hb : H b = some (.tup (k.map kV))) (hz : kvs.length < sizeLine)
    (ry : RelV (.ref b) u) (rv : RelV v r) (h : ∀ s', Inv X pins σ (upd H D (.dT (putK kvs k v))) s' → Q () s') : wpAny (model X.prog X.w) X.A (dictSet D u r) Q E s := by
  cases (show u = Value.ref b from ry)
  obtain ⟨z, hd, xs, rel, dd⟩ := L2.dt_of I.hok hD
  have hzv : xs.length ≤ sizeLine := by rw [← Paired.length rel]; exact z
  have hl : (putK kvs k v).length ≤ sizeLine := by have := length_putK kvs k v; omega
  refine wpAny_dictSet_heap (hsz := hzv) (show X.A.units < cLine by omega) (key_of I.hok hb) dd fun h' dd' hs => h _ ?_
  obtain ⟨q, es, ep, hq, h2, h3, h4, _, h5⟩ := dd'
  refine d_write I (by rw [hD]; exact True.intro) hs ⟨q, hq⟩ ⟨hl, hd, _, (rel.put k hb rv).keeps fun c ys ec => ?_, q, es, ep, hq, h2, h3, h4, h5⟩
  rw [upd_ne (ne_of ec hD (fun z => nomatch z))]
  exact ec
section
variable {X : Cx}
/-- a dict comprehension whose keys are tuples: D the new dict (turned from the rule for keys ints and texts) -/
def tDcT (wi : TI) (g : TG) (tt : TT) (tk tv : TE) (vs : List Nat) : TE := fun σ H Q => wi σ H fun J H1 => ∀ D, H1 D = none → ∃ W : Nat → Nat → Hp → Prop, (∃ m, W 0 m (upd H1 D (.dT []))) ∧ ∀ i m H, W i m H →
  (J.stop i H ∧ Q (.ref D) H) ∨ (J.go i H ∧ ∃ Nx : Hp → Prop, (∀ H', Nx H' → ∃ m', m' < m ∧ W (i + 1) m' H') ∧ ∀ x H', J.yld i H x H' → g x (wipe σ vs) H' fun σ2 H2 => wipe σ2 vs = wipe σ vs ∧ tt σ2 H2 fun b H3 =>
    if b = true then tk σ2 H3 fun y H4 => tv σ2 H4 fun z H5 => ∃ kvs k b, y = .ref b ∧ H5 b = some (.tup (k.map kV)) ∧ H5 D = some (.dT kvs) ∧ kvs.length < sizeLine ∧ Nx (upd H5 D (.dT (putK kvs k z))) else Nx H3)
theorem dcT_core {pins : List (Addr × Obj)} {s : Shared} {σ : L2.St} {H : Hp} {Q : VK} {kx vx tg iter : Expr} {ifs : List Expr} {scope : Scope} {own : List (Str × Nat)} {pos pos' : Pos} {wi : TI} {g : TG} {tt : TT} {tk tv : TE} {use : Option (Value → Sem Unit)} {Qf : Value → Shared → Prop}
    (hu : X.A.units + 1 < cLine) (hc : X.calm = true) (hN : X.N.Nodup) (I : Inv X pins σ H s) (hi : PI X tg iter wi) (ok : BlkOk X.N X.env.scope scope own)
    (hg : ∀ (s : Shared) (H : Hp) (C : Addr) (cl : List (Str × Addr)) (fp : List Addr), PG (X.blk s H scope (compEnvC scope cl C X.env) fp) tg g) (ht : ∀ (s : Shared) (H : Hp) (C : Addr) (cl : List (Str × Addr)) (fp : List Addr), PTs (X.blk s H scope (compEnvC scope cl C X.env) fp) ifs tt)
    (hk : ∀ (s : Shared) (H : Hp) (C : Addr) (cl : List (Str × Addr)) (fp : List Addr), PE (X.blk s H scope (compEnvC scope cl C X.env) fp) kx tk)
    (he : ∀ (s : Shared) (H : Hp) (C : Addr) (cl : List (Str × Addr)) (fp : List Addr), PE (X.blk s H scope (compEnvC scope cl C X.env) fp) vx tv) (hs : ∀ x, foldedSetIterable iter X.env x = pure x)
    (h : tDcT wi g tt tk tv (own.map (·.2)) σ H Q)
    (hRR : ∀ D C s' m H', Inv X pins σ H' s' → Q (.ref D) H' → s'.heap.Ns C m → FpOk X pins H' C → compPost (model X.prog X.w) X.A X.xe use Qf (.ref D) C (.ok .next) s') :
    wpAny (model X.prog X.w) X.A (comprehension (.DictComp kx vx [⟨tg, iter, ifs, 0⟩] scope pos) scope X.env pos' newDict false (eval iter X.env) use) Qf X.xe s := by
  have hfree : ∀ y ∈ scope.names, y.2 = .free → ∃ c, X.env.cells.lookup y.1 = some c := fun y hy e => by
    rcases ok.free y hy e with k | k
    · exact I.ok.has _ (.inl k)
    · exact I.ok.has _ (.inr k)
  refine wpAny_comprehension_free (use := use) rfl hs (closure_ok hfree) ok.kind (fun y hy e => by rw [ok.uniq y hy, e])
    (thn (hi.run pins s σ H _ I h) fun xv s1 hx => thn hx fun itv s2 h2 => ?_)
  obtain ⟨it, fp, tn, J, H2, e, I2, T, st2, f2, q⟩ := h2
  subst e
  refine wpAny_newObj_type (newEnv_comp ?_)
  generalize hD : s2.heap.objs.size = D
  have hDn : H2 D = none := I2.hok.fresh (Nat.le_of_eq hD)
  obtain ⟨W, ⟨m0, w0⟩, turn⟩ := q D hDn
  -- the new list
  generalize hs3 : ({ s2 with heap := s2.heap.push { cls := .type "dict", data := .dict #[] } } : Shared) = s3
  have I3 : Inv X pins σ (upd H2 D (.dT [])) s3 := by
    rw [← hs3]
    refine I2.laid (t' := s2.toks) (fun b o e => Heap.get?_push_of_some _ e) (Nat.le_of_eq hD) ?_
    rw [← hD]
    exact dt_empty s2.heap I2.big
  have h3 : s3.heap = s2.heap.push { cls := .type "dict", data := .dict #[] } := by rw [← hs3]
  have sz : ∀ b ∈ fp, b < s2.heap.objs.size := fun b hb => by
    obtain ⟨o, e, _⟩ := T.obj _ _ st2 b hb
    exact Heap.lt_size e
  have f3 : ∀ b ∈ fp, FpOk X pins (upd H2 D (.dT [])) b ∧ b < s3.heap.objs.size := fun b hb => by
    have hlt := sz b hb
    refine ⟨⟨?_, (f2 b hb).2⟩, by rw [h3, Heap.size_push]; exact Nat.lt_succ_of_lt hlt⟩
    rw [upd_ne (by rw [← hD]; exact Nat.ne_of_lt hlt)]
    exact (f2 b hb).1
  have st3 : tn 0 s3.heap := T.keep _ _ _ st2 fun b _ o e => by rw [h3]; exact Heap.get?_push_of_some _ e
  have I4 := block_start I3 ok hN f3
  have pg := hg s3 (upd H2 D (.dT [])) s3.heap.objs.size (cellsFrom (s3.heap.objs.size + 1) scope.names (cloFrom X.env.cells scope.names [])) fp
  have pt := ht s3 (upd H2 D (.dT [])) s3.heap.objs.size (cellsFrom (s3.heap.objs.size + 1) scope.names (cloFrom X.env.cells scope.names [])) fp
  have pk := hk s3 (upd H2 D (.dT [])) s3.heap.objs.size (cellsFrom (s3.heap.objs.size + 1) scope.names (cloFrom X.env.cells scope.names [])) fp
  have pe := he s3 (upd H2 D (.dT [])) s3.heap.objs.size (cellsFrom (s3.heap.objs.size + 1) scope.names (cloFrom X.env.cells scope.names [])) fp
  show codeAny _ _ (.compStart (.DictComp kx vx [⟨tg, iter, ifs, 0⟩] scope pos) 0 (.ref it) (.ref D) (compEnvC scope (cellsFrom (s3.heap.objs.size + 1) scope.names (cloFrom X.env.cells scope.names [])) s3.heap.objs.size X.env)) (compPost (model X.prog X.w) X.A X.xe use Qf (.ref D) s3.heap.objs.size) { s3 with heap := pushCells (s3.heap.push { cls := .type "dict", data := .dict #[] }) scope.names }
  have nfp : ∀ b ∈ fp, (upd H2 D (.dT [])) b = none := fun b hb => (f3 b hb).1.1
  generalize hce : compEnvC scope (cellsFrom (s3.heap.objs.size + 1) scope.names (cloFrom X.env.cells scope.names [])) s3.heap.objs.size X.env = ce at I4 pg pt pk pe ⊢
  have cL : ce.locals = s3.heap.objs.size := by subst hce; rfl
  generalize hH3 : upd H2 D (.dT []) = H3 at I3 I4 pg pt pk pe w0 nfp f3
  generalize hs4 : ({ s3 with heap := pushCells (s3.heap.push { cls := .type "dict", data := .dict #[] }) scope.names } : Shared) = s4 at I4 ⊢
  have st4 : tn 0 s4.heap := T.keep _ _ _ st3 fun b _ o e => by rw [← hs4]; exact pushCells_keeps _ _ _ _ (Heap.get?_push_of_some _ e)
  have stat : ∀ {σ' : L2.St} {H' : Hp} {s' : Shared}, Inv (X.blk s3 H3 scope ce fp) [] σ' H' s' → (∀ b ∈ fp, H' b = none) → ∀ b ∈ fp, FpOk (X.blk s3 H3 scope ce fp) [] H' b := fun {σ' H' s'} I' hn b hb =>
    ⟨hn b hb, (I'.ok.exf b hb).1, I'.ok.exfs b hb, .inl hb, fun x c e => (I'.ok.exf b hb).2 x c e, fun p hp => absurd (show p ∈ ([] : List (Addr × Obj)) ++ [] from hp) (by simp)⟩
  have loop : codeAny (model X.prog X.w) X.A (.compLoop (.DictComp kx vx [⟨tg, iter, ifs, 0⟩] scope pos) 0 (.ref it) (.ref D) ce) (compPost (model X.prog X.w) X.A X.xe use Qf (.ref D) s3.heap.objs.size) s4 := by
    refine compLoop_anyD (fun n s' => ∃ i H', Inv (X.blk s3 H3 scope ce fp) [] (wipe σ (own.map (·.2))) H' s' ∧ tn i s'.heap ∧ (∀ b ∈ fp, H' b = none) ∧ W i n H') ?_ m0 ⟨0, H3, I4, st4, nfp, w0⟩
    rintro n s5 ⟨i, H5, I5, st5, n5, w5⟩
    rcases turn i n H5 w5 with ⟨stop, qq⟩ | ⟨go, Nx, hNx, step⟩
    · have td := T.done (X.blk s3 H3 scope ce fp) rfl rfl rfl hc i [] s5 _ H5 (fun _ _ => False) I5 (stat I5 n5) st5 stop
      refine thnF td fun r s6 ⟨hr, I6⟩ => ?_
      subst hr
      -- back in the def's context
      have I7 : Inv X pins σ H5 s6 := I3.call' (ch := fp) I6.os I6.base I6.hok I6.bare fun b hb => ⟨(f3 b hb).1.2.2.2.1, (f3 b hb).1.2.1, (f3 b hb).1.2.2.2.2.1, (f3 b hb).1.2.2.2.2.2⟩
      have nC : H5 s3.heap.objs.size = none := by
        have z : H5 ce.locals = none := I6.free
        rw [cL] at z
        exact z
      obtain ⟨m, hn, _⟩ := I6.loc
      have hn : s6.heap.Ns ce.locals m := hn
      rw [cL] at hn
      exact hRR D s3.heap.objs.size s6 m H5 I7 qq hn (I3.fpOk (Nat.le_refl _) nC)
    · have ti := T.item (X.blk s3 H3 scope ce fp) rfl rfl rfl hc i [] s5 _ H5 (fun _ _ => False) I5 (stat I5 n5) st5 go
      refine thnF ti fun r s6 ⟨u, hr, h6⟩ => ?_
      subst hr
      refine thnF h6 fun _ s7 ⟨x, H7, I7, r7, y7, st7, n7⟩ => ?_
      have I7' := I7.pinned (stat I7 n7) (T.obj _ _ st7)
      refine thnF (pg.run _ s7 _ H7 x u _ I7' r7 (step x H7 y7)) fun _ s8 ⟨σ8, H8, I8, hw8, q8⟩ => ?_
      refine thnF (pt.run _ s8 σ8 H8 _ I8 q8) fun b s9 ⟨H9, I9, q9⟩ => ?_
      -- the turn's end
      have fin : ∀ {s' : Shared} {H' : Hp}, Inv (X.blk s3 H3 scope ce fp) ([] ++ pinsAt fp s7.heap) σ8 H' s' → Nx H' → ∃ m, m < n ∧ ∃ i H', Inv (X.blk s3 H3 scope ce fp) [] (wipe σ (own.map (·.2))) H' s' ∧ tn i s'.heap ∧ (∀ b ∈ fp, H' b = none) ∧ W i m H' := fun {s' H'} I' nx => by
        obtain ⟨m', hm, w'⟩ := hNx H' nx
        have pin' : ∀ b ∈ fp, ∀ o, s7.heap.get? b = some o → s'.heap.get? b = some o ∧ H' b = none := fun b hb o e =>
          let z := I'.pin (b, o) (List.mem_append_right _ (List.mem_append_right _ (mem_pinsAt hb e)))
          ⟨z.1, z.2.1⟩
        have hl : (wipe σ (own.map (·.2))).length = σ8.length := by rw [← hw8, wipe_length]
        refine ⟨m', hm, i + 1, H', (I'.unpinned (pins := [])).weak hl (fun j v e => ?_), T.keep _ _ _ st7 fun b hb o e => (pin' b hb o e).1, fun b hb => ?_, w'⟩
        · rw [← hw8] at e
          exact (wipe_some e).1
        · obtain ⟨o, e, _⟩ := T.obj _ _ st7 b hb
          exact (pin' b hb o e).2
      cases b with
      | false =>
        simp only [Bool.false_eq_true, if_false] at q9 ⊢
        exact fin I9 q9
      | true =>
        simp only [if_true] at q9 ⊢
        refine thnF (pk.run _ s9 σ8 H9 _ I9 q9) fun z s10 ⟨yk, H10, I10, r10, q10⟩ => ?_
        refine thnF (pe.run _ s10 σ8 H10 _ I10 q10) fun z2 s11 ⟨yv, H11, I11, r11, kvs, k, bk, ek, hbk, hD11, hz11, nx⟩ => ?_
        subst ek
        exact d_dictSetT (X := X.blk s3 H3 scope ce fp) hu I11 hD11 hbk hz11 r10 r11 fun s12 I12 => fin I12 nx
  exact codeAny_compStart_dict loop (T.self X.A 0 _ _ _ st4 loop)
/-- as a value -/
theorem pe_dcT {kx vx tg iter : Expr} {ifs : List Expr} {scope : Scope} {own : List (Str × Nat)} {pos : Pos} {wi : TI} {g : TG} {tt : TT} {tk tv : TE} (hu : X.A.units + 1 < cLine) (hc : X.calm = true) (hN : X.N.Nodup) (hi : PI X tg iter wi) (ok : BlkOk X.N X.env.scope scope own)
    (hg : ∀ (s : Shared) (H : Hp) (C : Addr) (cl : List (Str × Addr)) (fp : List Addr), PG (X.blk s H scope (compEnvC scope cl C X.env) fp) tg g) (ht : ∀ (s : Shared) (H : Hp) (C : Addr) (cl : List (Str × Addr)) (fp : List Addr), PTs (X.blk s H scope (compEnvC scope cl C X.env) fp) ifs tt)
    (hk : ∀ (s : Shared) (H : Hp) (C : Addr) (cl : List (Str × Addr)) (fp : List Addr), PE (X.blk s H scope (compEnvC scope cl C X.env) fp) kx tk)
    (he : ∀ (s : Shared) (H : Hp) (C : Addr) (cl : List (Str × Addr)) (fp : List Addr), PE (X.blk s H scope (compEnvC scope cl C X.env) fp) vx tv) (hs : ∀ x, foldedSetIterable iter X.env x = pure x := by intro _; rfl) :
    PE X (.DictComp kx vx [⟨tg, iter, ifs, 0⟩] scope pos) (tDcT wi g tt tk tv (own.map (·.2))) := by
  refine ⟨fun pins s σ H Q I h => ?_⟩
  rw [arm_eval_DictComp]
  refine dcT_core hu hc hN I hi ok hg ht hk he hs h fun D C s' m H' I' q hn f => ⟨m, hn, fun h'' sb => ?_⟩
  obtain ⟨f0, f1, f2, f3, f4, f5⟩ := f
  exact ⟨.ref D, H', I'.turned (t' := s'.toks) (fun b o hb e => (sb.2 b hb).trans e) f0 f1 f3 f4 f5, rfl, q⟩
end

/-! ### d.items(), the keys tuples -/
theorem frzT2 {X : Cx} {pins : List (Addr × Obj)} {σ : L2.St} {H : Hp} {s : Shared} {d : Addr} {o : Obj} {kvs : List (List L2.Key × V)} (I : Inv X pins σ H s) (h : H d = some (.frz o (.dT kvs))) :
    (d == sysModules) = false ∧ ∃ (es : Array DictEntry) (ep : Nat), DT.Raw s.heap d es ep ∧ es.size = kvs.length ∧ kvs.length ≤ sizeLine ∧ o.data = .dict es ep ∧
      ∀ (i : Nat) (k : List L2.Key) (v : V), kvs[i]? = some (k, v) → ∃ (en : DictEntry) (q : Addr), es[i]? = some en ∧ en.key = .ref q ∧ H q = some (.tup (k.map kV)) ∧ RelV v en.val := by
  obtain ⟨hd, z, hs, xs, pr, o', es, ep, ho, hx, hdt, he, _⟩ := I.hok d _ h
  rw [hd] at ho
  cases ho
  refine ⟨hs, es, ep, ⟨o, hd, hx, hdt⟩, ?_, z, hdt, fun i k v e => ?_⟩
  · have l1 : es.size = xs.length := size_of_entries he
    have l2 : kvs.length = xs.length := Paired.length pr
    omega
  · obtain ⟨b, hb, e1, e2, e3⟩ := paired_get pr e
    have q := entry_at he i
    rw [hb] at q
    exact ⟨_, b.2.1, q, rfl, e2, e3⟩
def Itit (d : Addr) (o : Obj) (kvs : List (List L2.Key × V)) : It :=
  ⟨fun i H => H d = some (.frz o (.dT kvs)) ∧ i < kvs.length, fun i H x H' => ∃ (T : Addr) (k : List L2.Key) (v : V) (q : Addr), kvs[i]? = some (k, v) ∧ x = .ref T ∧ H T = none ∧ H q = some (.tup (k.map kV)) ∧ H' = upd H T (.tup [.ref q, v]), fun i H => H d = some (.frz o (.dT kvs)) ∧ kvs.length ≤ i⟩
theorem turn_itemsT {P : Program} {w : World} {K : PySem.W.Frag} {d : Addr} {o : Obj} {es : Array DictEntry} {ep : Nat} {kvs : List (List L2.Key × V)} {elts : List Expr} {kk : Nat} {tpos : Pos} (it : Addr) (hod : o.data = .dict es ep) :
    Turn P w K (.Tuple elts kk tpos) (Itit d o kvs) [it] it (fun i h => ∃ ok ov, IsItemIter h it d i kvs.length ep ok ov) where
  mem := by simp
  obj := fun i h st b hb => by
    have e : b = it := by simpa using hb
    subst e
    obtain ⟨ok, ov, e⟩ := st
    exact ⟨_, e, fun v z => nomatch z⟩
  keep := fun i h h' st k => let ⟨ok, ov, e⟩ := st; ⟨ok, ov, k it (by simp) _ e⟩
  item := by
    intro X hP hw hK hc i pins s σ H E I hf st hg
    subst hP hw hK
    obtain ⟨hd, hi⟩ := hg
    obtain ⟨hs, es', ep', raw, hsz, hzz, hdt, ent⟩ := frzT2 I hd
    obtain ⟨rfl, rfl⟩ := dict_ep hod hdt
    obtain ⟨⟨k, v⟩, hkv⟩ : ∃ p, kvs[i]? = some p := ⟨kvs[i], List.getElem?_eq_getElem hi⟩
    obtain ⟨en, q, hen, ekey, hq, rv⟩ := ent i k v hkv
    obtain ⟨ok, ov, he⟩ := st
    rw [← hsz] at he
    have hlt : it < s.heap.objs.size := Heap.lt_size he
    have his : i < es'.size := by rw [hsz]; exact hi
    have een : es'[i] = en := by rw [Array.getElem?_eq_getElem his] at hen; exact Option.some.inj hen
    refine DT.nextI he raw his fun h' ho hT hz hk => ?_
    rw [een, ekey] at ho hT
    refine ⟨_, rfl, wpAny_letOwnedTupleGo_items (s := { s with heap := h' }) ho fun h'' he' sb => ?_⟩
    have hT2 : h''.get? s.heap.objs.size = some { cls := .type "tuple", data := .seq #[.ref q, en.val] } := (sb.2 _ (Nat.ne_of_gt hlt)).trans hT
    have new : ObjOk X.prog X.w (upd H s.heap.objs.size (.tup [.ref q, v])) h'' s.heap.objs.size (.tup [.ref q, v]) :=
      ⟨by show 2 ≤ sizeLine; decide, [.ref q, en.val], .cons rfl (.cons rv .nil), ⟨_, hT2, rfl, _, rfl⟩⟩
    have I1 : Inv X pins σ (upd H s.heap.objs.size (.tup [.ref q, v])) { s with heap := h'' } :=
      I.turnedNew (t' := s.toks) (ch := [it]) (fun b ob hb e => (sb.2 b (by simpa using hb)).trans (hk b ob (by simpa using hb) e)) hf (Nat.le_refl _) new
    refine ⟨.ref s.heap.objs.size, _, I1, rfl, ⟨_, k, v, q, hkv, rfl, I.hok.fresh (Nat.le_refl _), hq, rfl⟩, ⟨.ref q, en.val, ?_⟩, fun b hb => ?_⟩
    · rw [← hsz]; exact he'
    · have e : b = it := by simpa using hb
      rw [e, upd_ne (Nat.ne_of_lt hlt)]
      exact (hf it (by simp)).1
  done := by
    intro X hP hw hK hc i pins s σ H E I hf st hg
    subst hP hw hK
    obtain ⟨hd, hi⟩ := hg
    obtain ⟨f0, f1, f2, f3, f4, f5⟩ := hf it (by simp)
    obtain ⟨hs, es', ep', raw, hsz, hzz, hdt, ent⟩ := frzT2 I hd
    obtain ⟨rfl, rfl⟩ := dict_ep hod hdt
    obtain ⟨ok, ov, he⟩ := st
    rw [← hsz] at he
    exact DT.endI (I.ok.hd hc) he raw (by rw [hsz]; exact hi) fun h' eb => ⟨rfl, I.turned (t' := s.toks) (fun b ob hb e => eb b ob hb e) f0 f1 f3 f4 f5⟩
  self := fun A i s Q E st h => let ⟨_, _, e⟩ := st; PySem.W.kcp_self e h
def iItemsT (td : TE) : TI := fun σ H R => td σ H fun x H1 => ∃ d o kvs, x = .ref d ∧ H1 d = some (.frz o (.dT kvs)) ∧ R (Itit d o kvs) H1
theorem pi_itemsT {X : Cx} {e : Expr} {td : TE} {apos cpos : Pos} {elts : List Expr} {kk : Nat} {tpos : Pos} (he : PE X e td) (hbase : attributeBase e "items" X.env (eval e X.env) = eval e X.env := by rfl) (hline : (apos.endLine == cpos.line) = true := by rfl) :
    PI X (.Tuple elts kk tpos) (.Call (.Attribute e "items" apos) [] [] cpos) (iItemsT td) := by
  refine ⟨fun pins s σ H R I h => ?_⟩
  refine wpAny_Call_method (T := "dict") (id := "dict.items") hbase rfl hline PySem.F.plainAttrs_dict PySem.F.slot_dict_items PySem.F.type_dict_items (thn (he.run pins s σ H _ I h) fun u s1 ⟨x, H1, I1, rx, d, o, kvs, ex, hd, q⟩ => ?_)
  subst ex
  obtain rfl : u = Value.ref d := rx
  obtain ⟨hs, es, ep, raw, hsz, hzz, hdt, ent⟩ := frzT2 I1 hd
  refine ⟨raw.typeIs, (isD_at I1 (.inr ⟨kvs, .inr ⟨o, hd⟩⟩)).2.1, ?_⟩
  have I2 : Inv X pins σ H1 { s1 with heap := s1.heap.push { cls := .type "dict_items", data := .fields #[.ref d] } } := I1.kept (t' := s1.toks) fun b ob q => Heap.get?_push_of_some _ q
  have fin : wpAny (model X.prog X.w) X.A (pyIter (.ref s1.heap.objs.size)) (PIE X pins σ (.Tuple elts kk tpos) R) X.xe { s1 with heap := s1.heap.push { cls := .type "dict_items", data := .fields #[.ref d] } } := by
    refine DT.iterI (s := { s1 with heap := s1.heap.push { cls := .type "dict_items", data := .fields #[.ref d] } }) (d := d) (es := es) (ep := ep) ⟨_, Heap.get?_push_size _ rfl, rfl, rfl⟩ (raw.push _) ?_
    refine pi_one (s := { s1 with heap := s1.heap.push { cls := .type "dict_items", data := .fields #[.ref d] } }) (tk := s1.toks) I2 _ (turn_itemsT _ hdt) ⟨.none, .none, ?_⟩ q
    rw [← hsz]
    exact Heap.get?_push_size _ rfl
  show wpAny _ _ (callWith cpos (.builtin "dict.items") [.ref d] [] []) _ X.xe s1
  exact method_meetsIn PySem.F.slot_dict_items PySem.F.entry_dict_items rfl (PySem.evalArgs_none ⟨rfl, raw.typeIs, PySem.F.args_dict_items_1 _, _, DT.meetsItems (es := es) (ep := ep) hs, ⟨raw, fin⟩⟩)
section
variable {P : Program} {w : World} {K : PySem.W.Frag} {mg : Str → Option Value} {base : Heap} {k : Nat} {X : Cx} {W : Option Addr} {Γ Γ' : En} {x : Str} {pos apos cpos tpos : Pos} {l : Expr} {elts : List Expr} {kk : Nat}
/-- a pair (key, sign) of a walk through items -/
def itemT (K : PySem.W.Frag) (z : Spot × Nat) : T := tupT K [keyT z.1, dat K (sgn z.2)]
theorem it_items {c0 : Cells} (h : Ev X K W Γ l (.fro (dctT (sgs c0)))) (hbase : attributeBase l "items" X.env (eval l X.env) = eval l X.env := by rfl) (hline : (apos.endLine == cpos.line) = true := by rfl) :
    PI X (.Tuple elts kk tpos) (.Call (.Attribute l "items" apos) [] [] cpos) (cI K W Γ (c0.map (itemT K))) :=
  piI (pi_itemsT h hbase hline) fun σ H R' ⟨H0, G, f, en, q⟩ => ⟨H0, G, f, en, fun v H1 G1 s1 q1 => by
    obtain ⟨d, ob, rfl, e⟩ := up.now q1
    have hl : (kv2 (sgs c0)).length = c0.length := by unfold kv2 sgs; rw [List.length_map, List.length_map]
    refine ⟨d, ob, kv2 (sgs c0), rfl, s1.frm.1 _ _ e, q _ H1 G1 s1 ⟨fun i H' G' lt f' s' => ⟨f'.1 _ _ (s' _ _ e), ?_⟩, fun H' G' f' s' => ⟨f'.1 _ _ (s' _ _ e), ?_⟩, fun i H' G' v H2 lt f' s' y => ?_⟩⟩
    · rw [List.length_map] at lt
      rw [hl]
      exact lt
    · rw [hl, List.length_map]
      exact Nat.le_refl _
    · obtain ⟨T, k, u, b, hk, rfl, hT, hb, rfl⟩ := y
      unfold kv2 sgs at hk
      rw [List.map_map, List.getElem?_map] at hk
      cases hz : c0[i]? with
      | none => rw [hz] at hk; cases hk
      | some z =>
        rw [hz] at hk
        cases hk
        have s2 := (Step.refl f').tupIn hb
        have s3 := s2.trans (Step.lay (o := .tup [.ref b, sgV z.2]) s2.frm hT)
        refine ⟨_, s3, itemT K z, ?_, fun G2 l2 => ⟨T, _, rfl, SqT.of (l2 _ _ upd_same), ?_⟩⟩
        · rw [List.getElem?_map, hz]
          rfl
        · have bT : b ≠ T := fun q => by rw [q, hT] at hb; cases hb
          refine ⟨up_key (l2 _ _ ?_), up_dat (.str _), trivial⟩
          rw [upd_ne bT]
          exact upd_same⟩
end
end Cs

set_option Elab.async false
set_option linter.all false
set_option autoImplicit false
set_option maxRecDepth 100000
set_option maxHeartbeats 4000000
/-! The layer, part J: {(x, y): sign for ..}. -/
namespace Cs
open PySem PySem.Spec PyProof.Rows L2
section
variable {X : Cx}
/-- name = {k: v for ..} on one line, keys tuples (turned from the rule for lists) -/
theorem ps_setDcT {i : Nat} {y : Str} {py : Pos} {kx vx tg iter : Expr} {ifs : List Expr} {scope : Scope} {own : List (Str × Nat)} {pos spos : Pos} {wi : TI} {g : TG} {tt : TT} {tk tv : TE} (hu : X.A.units + 1 < cLine) (hc : X.calm = true) (hN : X.N.Nodup) (hy : X.N[i]? = some y) (hyl : X.env.scope.names.lookup y = some .local)
    (hsw : swapsWith (.DictComp kx vx [⟨tg, iter, ifs, 0⟩] scope pos) (some (.Name y py)) spos.line X.env = pure true) (hi : PI X tg iter wi) (ok : BlkOk X.N X.env.scope scope own)
    (hg : ∀ (s : Shared) (H : Hp) (C : Addr) (cl : List (Str × Addr)) (fp : List Addr), PG (X.blk s H scope (compEnvC scope cl C X.env) fp) tg g) (ht : ∀ (s : Shared) (H : Hp) (C : Addr) (cl : List (Str × Addr)) (fp : List Addr), PTs (X.blk s H scope (compEnvC scope cl C X.env) fp) ifs tt)
    (hk : ∀ (s : Shared) (H : Hp) (C : Addr) (cl : List (Str × Addr)) (fp : List Addr), PE (X.blk s H scope (compEnvC scope cl C X.env) fp) kx tk)
    (he : ∀ (s : Shared) (H : Hp) (C : Addr) (cl : List (Str × Addr)) (fp : List Addr), PE (X.blk s H scope (compEnvC scope cl C X.env) fp) vx tv) (hs : ∀ x, foldedSetIterable iter X.env x = pure x := by intro _; rfl) :
    PS X (.Assign [.Name y py] (.DictComp kx vx [⟨tg, iter, ifs, 0⟩] scope pos) spos) (tAsg (tDcT wi g tt tk tv (own.map (·.2))) (gName i)) := by
  refine ⟨fun pins s σ H D I h => ?_⟩
  rw [exec_Assign_Name_used _ _ _ _ hsw]
  refine wpAny_bind (wpAny_standAt (wpAny_bind ?_))
  show wpAny _ X.A (do let _ ← comprehension (.DictComp kx vx [⟨tg, iter, ifs, 0⟩] scope pos) scope X.env (firstIterPos [⟨tg, iter, ifs, 0⟩] pos) newDict false (eval iter X.env) (some (assign (.Name y py) X.env))) _ _ s
  have h : tDcT wi g tt tk tv (own.map (·.2)) σ H (fun x H1 => gName i x σ H1 D.nx) := h
  refine wpAny_bind (thn (dcT_core (Qf := fun _ s' => SP X pins D .next s') hu hc hN I hi ok hg ht hk he hs h fun L C s' m H' I' q hn f => ?_) fun _ s' hq => wpAny_pure (wpAny_pure hq))
  show wpAny _ _ (assign (.Name y py) X.env (.ref L)) _ _ _
  refine wpAny_assign_Name (store_ok2 (v := V.ref L) I' hN hy (.inl hyl) rfl (fun s2 I2 ⟨a, sb, ha⟩ => ?_) (.inr hyl))
  obtain ⟨f0, f1, f2, f3, f4, f5⟩ := f
  have haC : C ≠ a := by
    rcases ha with z | z
    · rw [z]; exact f1
    · exact fun e => f4 y a z e.symm
  refine ⟨m, hn.sameBut sb haC, fun h3 sb3 => ?_⟩
  exact ⟨_, H', I2.turned (t' := s2.toks) (fun b o hb e => (sb3.2 b hb).trans e) f0 f1 f3 f4 f5, q⟩
theorem swD_true {kx vx : Expr} {gs : List Comprehension} {scope : Scope} {pos py : Pos} {y : Str} {l : Nat} {env : Env} (hk : env.scope.kind = .function) (hy : env.scope.names.lookup y = some .local) (hl : (py.line == pos.line) = true)
    (ha : (scope.names.any fun (n, k) => n == y && (k == .local || k == .cell)) = false) : swapsWith (.DictComp kx vx gs scope pos) (some (.Name y py)) l env = pure true := by
  have ky : env.kindOf y = some .local := hy
  have hb : env.blockKind = .function := by unfold Env.blockKind; rw [hk]; rfl
  unfold swapsWith
  simp only [hb, ky, ha, Expr.pos, hl]
  all_goals rfl
end
def vlT (u : V) : T := fun _ v => v = u
theorem up_vl {u : V} {G : Hp} : up (vlT u) G u := fun _ _ => rfl
/-- what a dict comprehension has stored -/
def resD {α : Type} (p : α → Bool) (key : α → Spot) (val : α → V) (xs : List α) : List (Spot × V) := (xs.filter p).foldl (fun acc y => putK acc (key y) (val y)) []
theorem resD_step {α : Type} {p : α → Bool} {key : α → Spot} {val : α → V} {pre : List α} {y : α} : resD p key val (pre ++ [y]) = if p y = true then putK (resD p key val pre) (key y) (val y) else resD p key val pre := by
  unfold resD
  rw [List.filter_append, List.foldl_append, List.filter_cons]
  split <;> rfl
theorem put_len {κ : Type} [DecidableEq κ] (kvs : List (κ × V)) (k : κ) (v : V) : (putK kvs k v).length ≤ kvs.length + 1 := by
  unfold putK
  split
  · rw [List.length_map]; omega
  · rw [List.length_append]; exact Nat.le_refl _
theorem resD_len {α : Type} {p : α → Bool} {key : α → Spot} {val : α → V} (xs : List α) : (resD p key val xs).length ≤ xs.length := by
  have key' : ∀ (ys : List α) (acc : List (Spot × V)), (ys.foldl (fun acc y => putK acc (key y) (val y)) acc).length ≤ acc.length + ys.length := by
    intro ys
    induction ys with
    | nil => intro acc; exact Nat.le_refl _
    | cons y r ih =>
      intro acc
      have h1 := ih (putK acc (key y) (val y))
      have h2 := put_len acc (key y) (val y)
      rw [List.length_cons, List.foldl_cons]
      omega
  have h1 := key' (xs.filter p) []
  have h2 := List.length_filter_le p xs
  unfold resD
  simp only [List.length_nil] at h1
  omega
section
variable {P : Program} {w : World} {K : PySem.W.Frag} {mg : Str → Option Value} {base : Heap} {k : Nat} {X : Cx} {W : Option Addr} {Γ Γ' : En} {x : Str} {pos spos : Pos} {tg iter kx vx : Expr} {ifs : List Expr} {scope : Scope} {own : List (Str × Nat)} {α : Type} {js : List Nat} {B C : As} {R : Ent}
theorem dc_run {xs : List α} {enc : α → T} {Jt : α → En} {p : α → Bool} {key : α → Spot} {val : α → V} (js2 : ∀ j ∈ js, j ∈ own.map (·.2)) (hz : xs.length ≤ 16777000) {σ : L2.St} {H : Hp} {Q : VK} (h : cE K W Γ (.own (dctO (resD p key val xs))) σ H Q) :
    tDcT (cI K W Γ (xs.map enc)) (fun v σ H Q => ∃ y : α, y ∈ xs ∧ cG K W (wipeE Γ (own.map (·.2))) (enc y) (Jt y) js v σ H Q) (fun σ H Q => ∃ y : α, y ∈ xs ∧ cT K W (Jt y) (fun b => b = p y) σ H Q)
      (fun σ H Q => ∃ y : α, (y ∈ xs ∧ p y = true) ∧ cE K W (Jt y) (.fro (keyT (key y))) σ H Q) (fun σ H Q => ∃ y : α, (y ∈ xs ∧ p y = true) ∧ cE K W (Jt y) (.fro (vlT (val y))) σ H Q) (own.map (·.2)) σ H Q := by
  obtain ⟨H0, G, f, en, kk⟩ := h
  refine ⟨H0, G, f, en, fun It H1 G1 s1 gv D hD => ?_⟩
  have nD : W ≠ some D := s1.frm.neB hD
  let Pw : Nat → Hp → Prop := fun i H' => ∃ G', Step K W G1 H1 G' H' ∧ G' D = none ∧ H' D = some (.dT (kv2 (resD p key val (xs.take i))))
  have freeD : ∀ {G' G'' H' H'' : Hp}, Step K W G' H' G'' H'' → G' D = none → (∃ o, H' D = some (.dT o)) → G'' D = none := fun {G' G'' H' H''} s g ⟨o, e⟩ => by
    cases q : G'' D with
    | none => rfl
    | some u =>
      rcases s.new D u g q with z | ⟨xs, z⟩
      · rw [e] at z
        cases z
      · rw [e] at z
        cases z
  refine ⟨fun i m H' => m = xs.length - i ∧ i ≤ xs.length ∧ Pw i H', ⟨xs.length, by simp, Nat.zero_le _, G1, Step.mine s1.frm hD, s1.frm.free hD, upd_same⟩, ?_⟩
  rintro i m H' ⟨rfl, hi, G', s, gD, eD⟩
  by_cases lt : i < xs.length
  · refine .inr ⟨gv.goes i H' G' (by rw [List.length_map]; exact lt) s.frm s.gro, Pw (i + 1), fun H2 p' => ⟨xs.length - (i + 1), by omega, rfl, lt, p'⟩, fun v H2 y => ?_⟩
    obtain ⟨G2, s2, t, e, q⟩ := gv.yields i H' G' v H2 (by rw [List.length_map]; exact lt) s.frm s.gro y
    rw [List.getElem?_map, List.getElem?_eq_getElem lt] at e
    cases e
    have my : xs[i] ∈ xs := List.getElem_mem lt
    obtain ⟨e1, e2⟩ := split_at (List.getElem?_eq_getElem lt)
    refine ⟨xs[i], my, H0, G2, s2.frm, ((en.step s1).step (s.trans s2)).wipe _, q, fun σ2 en2 on2 => ⟨?_, xs[i], my, H0, G2, s2.frm, en2, fun b H3 G3 s3 hb => ?_⟩⟩
    · rw [on2.wipe js2, wipe_wipe]
    · have eD3 : ∃ o, H' D = some (.dT o) := ⟨_, eD⟩
      have s23 := s2.trans s3
      subst hb
      cases hp : p xs[i] with
      | true =>
        refine iteT ⟨xs[i], ⟨my, hp⟩, H0, G3, s3.frm, en2.step s3, fun u H4 G4 s4 q4 => ⟨xs[i], ⟨my, hp⟩, H0, G4, s4.frm, (en2.step s3).step s4, fun z H5 G5 s5 q5 => ?_⟩⟩
        have s25 := s23.trans (s4.trans s5)
        have gD5 := freeD s25 gD eD3
        have eD5 := s25.keep D _ eD nD
        obtain ⟨kp, rfl, hk⟩ := key_tup (K := K) (W := W) (p := D) s5.frm (q4.step s5 : EntOk W _ G5 H5 u (.fro (keyT (key xs[i]))))
        have ez : z = val xs[i] := up.now q5
        subst ez
        have hl : (kv2 (resD p key val (xs.take i))).length < sizeLine := by
          have h1 := resD_len (p := p) (key := key) (val := val) (xs.take i)
          have h2 : (xs.take i).length ≤ xs.length := by rw [List.length_take]; omega
          unfold kv2
          rw [List.length_map, sizeLine_eq]
          omega
        refine ⟨_, key2 (key xs[i]), kp, rfl, hk, eD5, hl, G5, (s.trans s25).chg hD gD5 nD, gD5, ?_⟩
        rw [upd_same, e2, resD_step, if_pos hp, kv2_put]
      | false =>
        refine iteF ⟨G3, s.trans s23, freeD s23 gD eD3, ?_⟩
        rw [e2, resD_step, if_neg (by rw [hp]; decide)]
        exact s23.keep D _ eD nD
  · have e : i = xs.length := by omega
    subst e
    rw [List.take_length] at eD
    refine .inl ⟨?_, kk _ H' G' (s1.trans s) ⟨D, _, rfl, s1.free hD, gD, eD, ⟨nD, True.intro⟩, fun G2 l => rfl⟩⟩
    have := gv.stops H' G' s.frm s.gro
    rw [List.length_map] at this
    exact this
/-- {key y: val y for y in xs if p y} -/
theorem ev_dc (xs : List α) (enc : α → T) (p : α → Bool) (key : α → Spot) (val : α → V) {Jt : α → En} (c : Cok P w K mg base k X) (hi : PI X tg iter (cI K W Γ (xs.map enc))) (ok : BlkOk X.N X.env.scope scope own)
    (hg : ∀ y ∈ xs, ∀ s H C cl fp, PG (Blk X scope s H C cl fp) tg (cG K W (wipeE Γ (own.map (·.2))) (enc y) (Jt y) js)) (ht : ∀ y ∈ xs, ∀ s H C cl fp, PTs (Blk X scope s H C cl fp) ifs (cT K W (Jt y) (fun b => b = p y)))
    (hk : ∀ y ∈ xs, p y = true → ∀ s H C cl fp, Ev (Blk X scope s H C cl fp) K W (Jt y) kx (.fro (keyT (key y)))) (he : ∀ y ∈ xs, p y = true → ∀ s H C cl fp, Ev (Blk X scope s H C cl fp) K W (Jt y) vx (.fro (vlT (val y))))
    (js2 : ∀ j ∈ js, j ∈ own.map (·.2)) (hz : xs.length ≤ 16777000) (hs : ∀ x, foldedSetIterable iter X.env x = pure x := by intro _; rfl) : Ev X K W Γ (.DictComp kx vx [⟨tg, iter, ifs, 0⟩] scope pos) (.own (dctO (resD p key val xs))) :=
  peI (pe_dcT c.two c.hc c.hN hi ok (fun s H C cl fp => pg_ex (fun y => y ∈ xs) fun y hy => hg y hy s H C cl fp) (fun s H C cl fp => pts_ex (fun y => y ∈ xs) fun y hy => ht y hy s H C cl fp)
    (fun s H C cl fp => pe_ex (fun y => y ∈ xs ∧ p y = true) fun y hy => hk y hy.1 hy.2 s H C cl fp) (fun s H C cl fp => pe_ex (fun y => y ∈ xs ∧ p y = true) fun y hy => he y hy.1 hy.2 s H C cl fp) hs) fun σ H Q h => dc_run js2 hz h
/-- n = {key y: val y for y in xs if p y} -/
theorem sr_setDc (i : Nat) (xs : List α) (enc : α → T) (p : α → Bool) (key : α → Spot) (val : α → V) {y : Str} {py : Pos} {Jt : α → En} (c : Cok P w K mg base k X) (hi : PI X tg iter (cI K W Γ (xs.map enc))) (ok : BlkOk X.N X.env.scope scope own)
    (hg : ∀ y ∈ xs, ∀ s H C cl fp, PG (Blk X scope s H C cl fp) tg (cG K W (wipeE Γ (own.map (·.2))) (enc y) (Jt y) js)) (ht : ∀ y ∈ xs, ∀ s H C cl fp, PTs (Blk X scope s H C cl fp) ifs (cT K W (Jt y) (fun b => b = p y)))
    (hk : ∀ y ∈ xs, p y = true → ∀ s H C cl fp, Ev (Blk X scope s H C cl fp) K W (Jt y) kx (.fro (keyT (key y)))) (he : ∀ y ∈ xs, p y = true → ∀ s H C cl fp, Ev (Blk X scope s H C cl fp) K W (Jt y) vx (.fro (vlT (val y))))
    (js2 : ∀ j ∈ js, j ∈ own.map (·.2)) (hz : xs.length ≤ 16777000) (hy : X.N[i]? = some y := by rfl) (hyl : X.env.scope.names.lookup y = some .local := by rfl)
    (hsw : swapsWith (.DictComp kx vx [⟨tg, iter, ifs, 0⟩] scope pos) (some (.Name y py)) spos.line X.env = pure true := by exact swD_true rfl rfl rfl (by decide +kernel)) (hs : ∀ x, foldedSetIterable iter X.env x = pure x := by intro _; rfl) :
    Sr X K W (.Assign [.Name y py] (.DictComp kx vx [⟨tg, iter, ifs, 0⟩] scope pos) spos) (envA W Γ) (envA W (Γ.set i (some (.own (dctO (resD p key val xs)))))) B C R :=
  psI (ps_setDcT c.two c.hc c.hN hy hyl hsw hi ok (fun s H C cl fp => pg_ex (fun y => y ∈ xs) fun y hy => hg y hy s H C cl fp) (fun s H C cl fp => pts_ex (fun y => y ∈ xs) fun y hy => ht y hy s H C cl fp)
    (fun s H C cl fp => pe_ex (fun y => y ∈ xs ∧ p y = true) fun y hy => hk y hy.1 hy.2 s H C cl fp) (fun s H C cl fp => pe_ex (fun y => y ∈ xs ∧ p y = true) fun y hy => he y hy.1 hy.2 s H C cl fp) hs) fun D σ H ⟨H0, G0, G, s, en, n, r⟩ =>
      dc_run js2 hz ⟨H0, G, s.frm, en, fun v H' G' s' q => n _ H' G' (s.trans s') (en.put s' q (fun a z => s.free z) i)⟩
end
end Cs

set_option Elab.async false
set_option linter.all false
set_option autoImplicit false
set_option maxRecDepth 100000
set_option maxHeartbeats 4000000
/-! The layer, part K: one's own lists; borrowing; while; is None. -/
namespace Cs
open PySem PySem.Spec PyProof.Rows L2

section
variable {K : PySem.W.Frag} {W : Option Addr} {G H G' H' H0 G0 : Hp} {v : V} {e : Ent} {Γ : En} {σ : L2.St}
/-! ### borrowing -/
def flatD : PyData → Bool
  | .none => true
  | .bool _ => true
  | .int _ => true
  | .str _ => true
  | _ => false
def noL : PyData → Bool
  | .tuple ds => ds.all flatD
  | d => flatD d
def cutH (G : Hp) (p : Addr) : Hp := fun a => if a = p then none else G a
theorem cutH_ne {G : Hp} {p a : Addr} (h : a ≠ p) : cutH G p a = G a := if_neg h
theorem cutH_same {G : Hp} {p : Addr} : cutH G p p = none := if_pos rfl
theorem flat_dp {G1 G2 : Hp} {d : PyData} (h : Dp K G1 v d) (f : flatD d = true) : Dp K G2 v d := by
  cases h with
  | non => exact .non
  | bl b => exact .bl b
  | int i => exact .int i
  | str x => exact .str x
  | lst _ _ => cases f
  | tup _ _ => cases f
theorem flat_dpAll {G1 G2 : Hp} {ds : List PyData} : ∀ {vs : List V}, DpAll K G1 vs ds → ds.all flatD = true → DpAll K G2 vs ds := by
  induction ds with
  | nil => intro vs h _; cases h; exact .nil
  | cons d ds ih =>
    intro vs h f
    rw [List.all_cons, Bool.and_eq_true] at f
    cases h with
    | cons r t => exact .cons (flat_dp r f.1) (ih t f.2)
theorem cut_dp {p : Addr} {vs : List V} {d : PyData} (h : Dp K G v d) (f : noL d = true) (hp : G p = some (.lst vs)) : Dp K (cutH G p) v d := by
  cases h with
  | tup e r =>
    refine .tup ?_ (flat_dpAll r f)
    rcases e with (e | ⟨ob, e⟩) | e
    · exact .inl (.inl (by rw [cutH_ne (fun z => by rw [z, hp] at e; cases e)]; exact e))
    · exact .inl (.inr ⟨ob, by rw [cutH_ne (fun z => by rw [z, hp] at e; cases e)]; exact e⟩)
    · exact .inr e
  | lst _ _ => cases f
  | non => exact .non
  | bl b => exact .bl b
  | int i => exact .int i
  | str x => exact .str x
def onlyF : Option Ent → Option Ent
  | some (.fro t) => some (.fro t)
  | _ => none
/-- the entries while one's own list in slot i is lent -/
def borE (K : PySem.W.Frag) (Γ : En) (i : Nat) (ds : List PyData) : En := (Γ.map onlyF).set i (some (Dt K (.list ds)))
theorem env_bor {i : Nat} {ds : List PyData} {p : Addr} {ho : HO} (en : EnvOk W H0 G H σ Γ) (f : Frm K W G H) (he : Γ[i]? = some (some (.own (lstO K ds)))) (hv : σ[i]? = some (some (.ref p))) (gp : G p = none) (hp : H p = some ho) (q : ∀ G', Lk G G' → lstO K ds p G' ho) :
    EnvOk none H0 (upd G p ho) H σ (borE K Γ i ds) := by
  have lt : i < Γ.length := (List.getElem?_eq_some_iff.mp he).1
  have l : Lk G (upd G p ho) := same_new gp
  have at_ : ∀ (j : Nat) (e : Ent), (borE K Γ i ds)[j]? = some (some e) → (j = i ∧ e = Dt K (.list ds)) ∨ (j ≠ i ∧ isFro e ∧ Γ[j]? = some (some e)) := fun j e g => by
    unfold borE at g
    by_cases z : i = j
    · subst z
      rw [List.getElem?_set_self (by rw [List.length_map]; exact lt)] at g
      cases g
      exact .inl ⟨rfl, rfl⟩
    · rw [List.getElem?_set_ne z, List.getElem?_map] at g
      refine .inr ⟨fun y => z y.symm, ?_⟩
      cases y : Γ[j]? with
      | none => rw [y] at g; cases g
      | some oe =>
        rw [y] at g
        cases oe with
        | none => cases g
        | some e0 =>
          cases e0 with
          | fro t => cases g; exact ⟨trivial, rfl⟩
          | own o => cases g
          | bag => cases g
  refine ⟨?_, fun j e g => ?_, fun j1 j2 o1 o2 p1 g1 g2 g3 g4 => ?_⟩
  · unfold borE
    rw [List.length_set, List.length_map]
    exact en.len
  · rcases at_ j e g with ⟨rfl, rfl⟩ | ⟨ne, fr, g'⟩
    · refine ⟨_, hv, ?_⟩
      obtain ⟨vs, rfl, r⟩ := q _ l
      exact up_dat (.lst (SqL.of upd_same) r)
    · obtain ⟨u, hu, qu⟩ := en.at_ j e g'
      cases e with
      | fro t => exact ⟨u, hu, up.lk qu l⟩
      | own o => exact fr.elim
      | bag => exact fr.elim
  · rcases at_ j1 _ g1 with ⟨_, e1⟩ | ⟨_, fr, _⟩
    · cases e1
    · exact fr.elim
theorem Step.unborrow {p : Addr} {vs : List V} (s : Step K none (upd G p (.lst vs)) H G' H') (f : Frm K none G H) (gp : G p = none) (hp : H p = some (.lst vs)) : Step K none G H (cutH G' p) H' where
  keep := s.keep
  gro := fun a o e => by
    have ne : a ≠ p := fun z => by rw [z, gp] at e; cases e
    rw [cutH_ne ne]
    exact s.gro a o (by rw [upd_ne ne]; exact e)
  new := fun a o e e' => by
    by_cases ne : a = p
    · subst ne; rw [cutH_same] at e'; cases e'
    · rw [cutH_ne ne] at e'
      exact s.new a o (by rw [upd_ne ne]; exact e) e'
  frm := ⟨fun a o e => by
    by_cases ne : a = p
    · subst ne; rw [cutH_same] at e; cases e
    · rw [cutH_ne ne] at e; exact s.frm.1 a o e, fun b hb => nomatch hb⟩
  bagS := fun b o hb e => nomatch hb
end

section
variable {P : Program} {w : World} {K : PySem.W.Frag} {mg : Str → Option Value} {base : Heap} {k : Nat} {X : Cx} {W : Option Addr} {Γ Γ' : En} {x dn : Str} {pos pos' p2 apos cpos p : Pos} {a b l : Expr} {e e1 e2 : Ent} {N B C : As} {R : Ent} {rest body : List Stmt} {G H H0 : Hp} {v : V} {tg : Expr} {ds : List PyData} {d : PyData}
/-- an expression that reads one's own list as data and hands back data without a list in it -/
theorem ev_borrow (i : Nat) (he : Γ[i]? = some (some (.own (lstO K ds)))) (h : Ev X K none (borE K Γ i ds) a (Dt K d)) (f0 : noL d = true := by rfl) : Ev X K W Γ a (Dt K d) :=
  peI h fun σ H Q ⟨H0, G, f, en, k⟩ => by
    obtain ⟨v, hv, p, ho, rfl, h0, gp, hp, nw, q⟩ := en.at_ i _ he
    obtain ⟨vs, eho, _⟩ := q _ (Lk.refl _)
    refine ⟨H0, upd G p ho, ⟨fun a o e => ?_, fun b hb => nomatch hb⟩, env_bor en f he hv gp hp q, fun v H' G' s qv => ?_⟩
    · by_cases z : a = p
      · subst z; rw [upd_same] at e; cases e; exact hp
      · rw [upd_ne z] at e; exact f.1 a o e
    · subst eho
      have g' : G' p = some (.lst vs) := s.gro _ _ upd_same
      exact k v H' _ ((s.unborrow f.low gp hp).lift f) (up_dat (cut_dp (dt_dp qv) f0 g'))
/-- the same of a test -/
theorem tst_borrow (i : Nat) {Bv : Bool → Prop} (he : Γ[i]? = some (some (.own (lstO K ds)))) (h : Tst X K none (borE K Γ i ds) a Bv) : Tst X K W Γ a Bv :=
  ptI h fun σ H Q ⟨H0, G, f, en, k⟩ => by
    obtain ⟨v, hv, p, ho, rfl, h0, gp, hp, nw, q⟩ := en.at_ i _ he
    obtain ⟨vs, eho, _⟩ := q _ (Lk.refl _)
    refine ⟨H0, upd G p ho, ⟨fun a o e => ?_, fun b hb => nomatch hb⟩, env_bor en f he hv gp hp q, fun v H' G' s qv => ?_⟩
    · by_cases z : a = p
      · subst z; rw [upd_same] at e; cases e; exact hp
      · rw [upd_ne z] at e; exact f.1 a o e
    · subst eho
      exact k v H' _ ((s.unborrow f.low gp hp).lift f) qv
/-! ### one's own list changed -/
/-- the item of one's own list (it stands still itself) -/
theorem ev_ixO (i : Nat) {j : Int} (c : Cok P w K mg base k X) (hb : Ev X K W Γ b (Dt K (.int j))) (hj : atI ds j = some d) (he : Γ[i]? = some (some (.own (lstO K ds))) := by rfl) (hp : PlainIx b := by exact fun _ _ => rfl)
    (hN : X.N[i]? = some dn := by rfl) (hvis : Vis X.env.scope dn := by first | exact Or.inl rfl | exact Or.inr (Or.inl rfl) | exact Or.inr (Or.inr rfl)) (hd : (dn == ("__debug__" : Str)) = false := by decide) (hcd : (dn == ("__classdict__" : Str)) = false := by decide) : Ev X K W Γ (.Subscript (.Name dn p2) b pos) (Dt K d) :=
  peI (pe_ix ix_list (pe_var hN hvis hd hcd) hb hp) fun σ H Q ⟨H0, G, f, en, k⟩ => by
    obtain ⟨v, hv, _⟩ := en.at_ i _ he
    refine ⟨v, hv, H0, G, f, en, fun y H1 G1 s1 q1 => ?_⟩
    obtain ⟨v', hv', p, ho, rfl, h0, gp, hp, nw, q⟩ := (en.step s1).at_ i _ he
    rw [hv] at hv'
    cases hv'
    obtain ⟨vs, rfl, r⟩ := q _ (Lk.refl _)
    obtain ⟨u, h1, h2⟩ := dp_atI r hj
    exact ⟨p, vs, j, u, rfl, dt_int q1, SqL.of hp, h1, k u H1 G1 s1 (dt_of h2)⟩
theorem sr_append (i : Nat) (c : Cok P w K mg base k X) (hv : Ev X K W Γ a (Dt K d)) (hz : ds.length < 16777216) (he : Γ[i]? = some (some (.own (lstO K ds))) := by rfl)
    (hN : X.N[i]? = some dn := by rfl) (hvis : Vis X.env.scope dn := by first | exact Or.inl rfl | exact Or.inr (Or.inl rfl) | exact Or.inr (Or.inr rfl)) (hd : (dn == ("__debug__" : Str)) = false := by decide) (hcd : (dn == ("__classdict__" : Str)) = false := by decide)
    (hbase : attributeBase (.Name dn p2) "append" X.env (eval (.Name dn p2) X.env) = eval (.Name dn p2) X.env := by rfl)
    (hfew : ((backTo cpos (starEach [a] X.env)).all (fun x => !x.1) && (backToKw cpos (keywordEach [] X.env)).all (fun x => x.1.isSome)
      && decide ([a].length + ([] : List Keyword).length + (if ([] : List Keyword).isEmpty then 0 else 1) < 30)) = true := by rfl)
    (hline : (apos.endLine == cpos.line) = true := by rfl) (hs1 : starEach [a] X.env = (false, eval a X.env) :: starEach [] X.env := by rfl) (hs : swapsWith (.Call (.Attribute (.Name dn p2) "append" apos) [a] [] cpos) none pos.line X.env = pure false := by rfl) :
    Sr X K W (.Expr (.Call (.Attribute (.Name dn p2) "append" apos) [a] [] cpos) pos) (envA W Γ) (envA W (Γ.set i (some (.own (lstO K (ds ++ [d])))))) B C R :=
  psI (ps_expr (pe_bm PySem.F.plainAttrs_list PySem.F.slot_list_append PySem.F.type_list_append mt_append (pe_var hN hvis hd hcd) (ea_cons hv ea_nil hs1) hbase hfew hline hs1 rfl) hs) fun D σ H ⟨H0, G0, G, s, en, n, r⟩ => by
    obtain ⟨v, hv, p, ho, rfl, h0, gp, hp, nw, q⟩ := en.at_ i _ he
    obtain ⟨vs0, rfl, r0⟩ := q _ (Lk.refl _)
    refine ⟨.ref p, hv, .inl ⟨rfl, vs0, SqL.of hp⟩, H0, G, s.frm, en, fun xs H1 G1 s1 q1 => ?_⟩
    obtain ⟨y, rfl, qy⟩ := args1 q1
    have en1 := en.step s1
    have gp1 : G1 p = none := by
      obtain ⟨v', hv', p', ho', rfl, a0, a1, _⟩ := en1.at_ i _ he
      rw [hv] at hv'
      cases hv'
      exact a1
    have hp1 := s1.keep p _ hp nw.1
    refine ⟨p, vs0, y, rfl, rfl, hp1, by rw [r0.length, sizeLine_eq]; exact hz, n σ _ G1 ((s.trans s1).chg h0 gp1 nw.1) (en1.chg he hv True.intro fun G' l => ⟨_, rfl, (Lk.datAll (Lk.trans s1.gro l) r0).append (.cons (qy G' l) .nil)⟩)⟩
end
end Cs

set_option Elab.async false
set_option linter.all false
set_option autoImplicit false
set_option maxRecDepth 100000
set_option maxHeartbeats 4000000
/-! The layer, part L: extend, reverse, while, is None, list + list. -/
namespace Cs
open PySem PySem.Spec PyProof.Rows L2
section
variable {P : Program} {w : World} {K : PySem.W.Frag} {mg : Str → Option Value} {base : Heap} {k : Nat} {X : Cx} {W : Option Addr} {Γ Γ' : En} {x dn : Str} {pos pos' p2 apos cpos p : Pos} {a b l cnd : Expr} {e e1 e2 : Ent} {N B C : As} {R : Ent} {rest body : List Stmt} {G H H0 : Hp} {v : V} {tg : Expr} {ds es : List PyData} {d : PyData}
theorem sr_extend (i : Nat) (c : Cok P w K mg base k X) (hv : Ev X K W Γ a (.own (lstO K es))) (hz : ds.length + es.length ≤ 16777216) (he : Γ[i]? = some (some (.own (lstO K ds))) := by rfl)
    (hN : X.N[i]? = some dn := by rfl) (hvis : Vis X.env.scope dn := by first | exact Or.inl rfl | exact Or.inr (Or.inl rfl) | exact Or.inr (Or.inr rfl)) (hd : (dn == ("__debug__" : Str)) = false := by decide) (hcd : (dn == ("__classdict__" : Str)) = false := by decide)
    (hbase : attributeBase (.Name dn p2) "extend" X.env (eval (.Name dn p2) X.env) = eval (.Name dn p2) X.env := by rfl)
    (hfew : ((backTo cpos (starEach [a] X.env)).all (fun x => !x.1) && (backToKw cpos (keywordEach [] X.env)).all (fun x => x.1.isSome)
      && decide ([a].length + ([] : List Keyword).length + (if ([] : List Keyword).isEmpty then 0 else 1) < 30)) = true := by rfl)
    (hline : (apos.endLine == cpos.line) = true := by rfl) (hs1 : starEach [a] X.env = (false, eval a X.env) :: starEach [] X.env := by rfl) (hs : swapsWith (.Call (.Attribute (.Name dn p2) "extend" apos) [a] [] cpos) none pos.line X.env = pure false := by rfl) :
    Sr X K W (.Expr (.Call (.Attribute (.Name dn p2) "extend" apos) [a] [] cpos) pos) (envA W Γ) (envA W (Γ.set i (some (.own (lstO K (ds ++ es)))))) B C R :=
  psI (ps_expr (pe_bm PySem.F.plainAttrs_list PySem.F.slot_list_extend PySem.F.type_list_extend mt_extend (pe_var hN hvis hd hcd) (pa_cons hv pa_nil hs1) hbase hfew hline hs1 rfl) hs) fun D σ H ⟨H0, G0, G, s, en, n, r⟩ => by
    obtain ⟨v, hv, p, ho, rfl, h0, gp, hp, nw, q⟩ := en.at_ i _ he
    obtain ⟨vs0, rfl, r0⟩ := q _ (Lk.refl _)
    refine ⟨.ref p, hv, .inl ⟨rfl, vs0, SqL.of hp⟩, H0, G, s.frm, en, fun y H1 G1 s1 q1 => ?_⟩
    obtain ⟨b, ho1, rfl, b0, gb, hb, nb, qb⟩ := q1
    obtain ⟨vs1, rfl, r1⟩ := qb _ (Lk.refl _)
    have en1 := en.step s1
    have gp1 : G1 p = none := by
      obtain ⟨v', hv', p', ho', rfl, a0, a1, _⟩ := en1.at_ i _ he
      rw [hv] at hv'
      cases hv'
      exact a1
    have hp1 := s1.keep p _ hp nw.1
    refine ⟨p, b, vs0, vs1, rfl, rfl, hp1, hb, by rw [r0.length, r1.length, sizeLine_eq]; exact hz, n σ _ G1 ((s.trans s1).chg h0 gp1 nw.1) (en1.chg he hv True.intro fun G' l => ⟨_, rfl, (Lk.datAll (Lk.trans s1.gro l) r0).append ?_⟩)⟩
    obtain ⟨vs2, e2, r2⟩ := qb G' l
    cases e2
    exact r2
theorem sr_reverse (i : Nat) (c : Cok P w K mg base k X) (he : Γ[i]? = some (some (.own (lstO K ds))) := by rfl)
    (hN : X.N[i]? = some dn := by rfl) (hvis : Vis X.env.scope dn := by first | exact Or.inl rfl | exact Or.inr (Or.inl rfl) | exact Or.inr (Or.inr rfl)) (hd : (dn == ("__debug__" : Str)) = false := by decide) (hcd : (dn == ("__classdict__" : Str)) = false := by decide)
    (hbase : attributeBase (.Name dn p2) "reverse" X.env (eval (.Name dn p2) X.env) = eval (.Name dn p2) X.env := by rfl)
    (hline : (apos.endLine == cpos.line) = true := by rfl) (hs : swapsWith (.Call (.Attribute (.Name dn p2) "reverse" apos) [] [] cpos) none pos.line X.env = pure false := by rfl) :
    Sr X K W (.Expr (.Call (.Attribute (.Name dn p2) "reverse" apos) [] [] cpos) pos) (envA W Γ) (envA W (Γ.set i none)) B C R :=
  psI (ps_expr (pe_bm0 PySem.F.plainAttrs_list PySem.F.slot_list_reverse PySem.F.type_list_reverse mt_reverse (pe_var hN hvis hd hcd) hbase hline) hs) fun D σ H ⟨H0, G0, G, s, en, n, r⟩ => by
    obtain ⟨v, hv, p, ho, rfl, h0, gp, hp, nw, q⟩ := en.at_ i _ he
    obtain ⟨vs0, rfl, r0⟩ := q _ (Lk.refl _)
    refine ⟨.ref p, hv, .inl ⟨rfl, vs0, SqL.of hp⟩, p, vs0, rfl, rfl, hp, n σ _ G (s.chg h0 gp nw.1) ?_⟩
    have en2 := en.chg (o' := fun _ _ o => o = .lst vs0.reverse) (ho := .lst vs0.reverse) he hv True.intro fun G' l => rfl
    refine en2.sub ?_
    have key : ∀ (Γ : En) (i : Nat) (a : Option Ent), Sub (Γ.set i a) (Γ.set i none) := by
      intro Γ
      induction Γ with
      | nil => intro i a; exact trivial
      | cons e es ih =>
        intro i a
        cases i with
        | zero => exact ⟨.inl rfl, Sub.refl _⟩
        | succ i => exact ⟨.inr rfl, ih i a⟩
    exact key _ _ _
/-- while c: body; m turns -/
theorem sr_while (m : Nat) (J : Nat → En) (hp : PassesOwn (model X.prog X.w) X.A X.env X.xe := by exact PassesOwn.never) (hc : ∀ n, n ≤ m → Tst X K W (J n) cnd (fun b => b = decide (n < m))) (hb : ∀ n, n < m → Srs X K W body (envA W (J n)) (envA W (J (n + 1))) noA noA R) :
    Sr X K W (.While cnd body [] pos) (envA W (J 0)) (envA W (J m)) B C R := by
  have hcx : PT X cnd (fun σ H Q => ∃ n, n ≤ m ∧ cT K W (J n) (fun b => b = decide (n < m)) σ H Q) := ⟨fun pins s σ H Q I q => by obtain ⟨n, hn, q⟩ := q; exact (hc n hn).run pins s σ H Q I q⟩
  refine psI (ps_while hp hcx (pss_ex (ι := Nat) (fun n => n < m) fun n hn => hb n hn)) fun D σ H ⟨H0, G0, G, s0, en, nx, rt, bk, ct⟩ => ?_
  refine ⟨fun k σ' H' => ∃ n, k = m - n ∧ n ≤ m ∧ ∃ G', Step K W G0 H0 G' H' ∧ EnvOk W H0 G' H' σ' (J n), ⟨m, 0, by omega, Nat.zero_le _, G, s0, en⟩, ?_⟩
  rintro k σ' H' ⟨n, rfl, hn, G', s, en'⟩
  refine ⟨n, hn, H0, G', s.frm, en', fun b H2 G2 s2 hb' => ?_⟩
  subst hb'
  by_cases lt : n < m
  · rw [decide_eq_true lt]
    refine iteT ⟨fun σ3 H3 => ∃ G3, Step K W G0 H0 G3 H3 ∧ EnvOk W H0 G3 H3 σ3 (J (n + 1)), fun σ3 H3 ⟨G3, s3, en3⟩ => ⟨m - (n + 1), by omega, n + 1, rfl, lt, G3, s3, en3⟩, n, lt, H0, G0, G2, s.trans s2, en'.step s2, fun σ3 H3 G3 s3 q3 => ⟨G3, s3, q3⟩, rt, (fun _ _ _ _ z => z.elim), (fun _ _ _ _ z => z.elim)⟩
  · have e : n = m := by omega
    subst e
    rw [decide_eq_false lt]
    exact iteF (nx σ' H2 G2 (s.trans s2) (en'.step s2))
/-! ### is None -/
def isN : PyData → Bool
  | .none => true
  | _ => false
theorem rd_isN : RdO K W (fun x y H Q => y = .non ∧ Q (.bl (decide (x = .non))) H) (Dt K d) (Dt K .none) (Dt K (.bool (isN d))) := fun H0 G H x y f hb q1 q2 Q k => by
  refine ⟨dt_none q2, k _ H G (Step.refl f) (dt_of ?_)⟩
  have e : decide (x = V.non) = isN d := by
    cases (dt_dp q1) <;> first | rfl | simp [isN]
  rw [e]
  exact .bl _
theorem rd_notN : RdO K W (fun x y H Q => y = .non ∧ Q (.bl (!decide (x = .non))) H) (Dt K d) (Dt K .none) (Dt K (.bool (!isN d))) := fun H0 G H x y f hb q1 q2 Q k => by
  refine ⟨dt_none q2, k _ H G (Step.refl f) (dt_of ?_)⟩
  have e : decide (x = V.non) = isN d := by
    cases (dt_dp q1) <;> first | rfl | simp [isN]
  rw [e]
  exact .bl _
/-! ### list + list -/
def NoKL (K : PySem.W.Frag) : Prop := ∀ a o, K.lookup a = some o → o.cls ≠ .type "list"
theorem exL (nk : NoKL K) {q : Addr} {xs : List V} (h : SqL K H q xs) : Rd H q (.lst xs) := h.resolve_right fun ⟨o, its, n, h1, h2, _⟩ => nk q o h1 h2
theorem op_catK (nk : NoKL K) (c : Cok P w K mg base k X) : OpR X (binaryOp .Add) (fun x y H Q => ∃ l b xs zs, x = .ref l ∧ y = .ref b ∧ SqL K H l xs ∧ SqL K H b zs ∧ xs.length + zs.length ≤ sizeLine ∧ ∀ p, H p = none → Q (.ref p) (upd H p (.lst (xs ++ zs)))) := by
  intro pins s σ H x y v u Q I rx ry h
  obtain ⟨l, b, xs, zs, rfl, rfl, hH, hB, hz, q⟩ := h
  cases rx
  cases ry
  obtain ⟨z, its, n, r, e⟩ := (exL nk hH).ok I.hok
  obtain ⟨z2, its2, n2, r2, e2⟩ := (exL nk hB).ok I.hok
  have hl := r.length
  have hl2 := r2.length
  refine PySem.P.add_list e e2 ?_ (by rw [List.size_toArray, List.size_toArray]; omega)
  have ea : its.toArray ++ its2.toArray = (its ++ its2).toArray := by simp
  rw [ea]
  exact ⟨.ref _, _, I.lnew (t' := s.toks) (r.append r2) (by rw [List.length_append]; omega), rfl, q _ I.fresh⟩
theorem ev_cat (nk : NoKL K) (c : Cok P w K mg base k X) (ha : Ev X K W Γ a (Dt K (.list ds))) (hb : Ev X K W Γ b (Dt K (.list es))) (hz : ds.length + es.length ≤ 16777216) : Ev X K W Γ (.BinOp a .Add b pos) (Dt K (.list (ds ++ es))) :=
  ev_op (op_catK nk c) (fun H0 G H x y f hb q1 q2 Q k => by
    obtain ⟨p, xs, rfl, hs, hd⟩ := dt_list q1
    obtain ⟨p', ys, rfl, hs', hd'⟩ := dt_list q2
    refine ⟨p, p', xs, ys, rfl, rfl, f.seqL hs, f.seqL hs', by rw [hd.length, hd'.length, sizeLine_eq]; exact hz, fun l hl => ?_⟩
    obtain ⟨s2, q2⟩ := new_lst f (hd.append hd') hl
    exact k _ _ _ s2 (q2.back hb)) ha hb
end
end Cs

set_option Elab.async false
set_option linter.all false
set_option autoImplicit false
set_option maxRecDepth 100000
set_option maxHeartbeats 4000000
/-! The layer, part M: zip and enumerate over texts and tuples. -/
namespace Cs
open PySem PySem.Spec PyProof.Rows L2
open PySem.W (ktu_apart)

set_option maxHeartbeats 1000000 in
theorem meets_enum_new1 {v : Value} {o : Obj} {H : Heap → Prop} (B : Begins v o H) :
    Meets (Builtin.«enumerate.__new__» ⟨[.type "enumerate", v], []⟩) (fun _ R s => H s.heap ∧
      R (.ok (.ret (.ref (s.heap.push o).objs.size))) { s with heap := (s.heap.push o).push { cls := .type "enumerate", data := .fields #[.none, .bool false, .ref s.heap.objs.size, rawInt 0, .none, .none] } }) :=
  .of_wp fun prog w A R s h => by
    obtain ⟨hp, g, d, tk, os⟩ := s; obtain ⟨h1, h⟩ := h
    have hsub := sub_enumerate
    have q1 : ∀ {A' : Around} {E : Value → Shared → Prop} {Q : Value → Shared → Prop}, Q (.ref hp.objs.size) ⟨hp.push o, g, d, tk, os⟩ → wpAny (model prog w) A' (pyIter v) Q E ⟨hp, g, d, tk, os⟩ :=
      fun q => B.iter prog w _ _ ⟨hp, g, d, tk, os⟩ _ h1 q
    wp_walk using q1
    refine wpAny_stack_any fun st => wpAny_pure ?_
    split
    · rename_i c _ _ _ _ _
      cases (c == Value.type "enumerate")
      · wp_walk using q1
        exact ⟨_, rfl, h⟩
      · wp_walk using q1
        exact ⟨_, rfl, h⟩
    · wp_walk using q1
      exact ⟨_, rfl, h⟩
theorem enum_begins1 {prog : Program} {w : World} {A : Around} {E : Value → Shared → Prop} {s : Shared} {v : Value} {o : Obj} {H : Heap → Prop} {Q : Value → Shared → Prop} (B : Begins v o H) (h1 : H s.heap)
    (h : ∀ h', IsEnum h' (s.heap.objs.size + 1) s.heap.objs.size 0 .none → h'.get? s.heap.objs.size = some o → h'.objs.size = s.heap.objs.size + 2 →
      (∀ b o, s.heap.get? b = some o → h'.get? b = some o) → Q (.ref (s.heap.objs.size + 1)) { s with heap := h' }) :
    wpAny (model prog w) A (call (.type "enumerate") [v]) Q E s := by
  refine callType_new PySem.F.called_enumerate (by decide) (PySem.F.typeCall_enumerate_1 _) (PySem.F.newCall_enumerate_1 _) (fun obj => PySem.F.args_object_init_2 obj _) PySem.F.entry_enumerate_new
    (meets_enum_new1 B) ⟨h1, ?_⟩
  have hz : (s.heap.push o).objs.size = s.heap.objs.size + 1 := Heap.size_push ..
  show _ ∧ _
  rw [hz]
  have he : IsEnum ((s.heap.push o).push
      { cls := .type "enumerate", data := .fields #[.none, .bool false, .ref s.heap.objs.size, rawInt 0, .none, .none] }) (s.heap.objs.size + 1) s.heap.objs.size 0 .none := by
    have := Heap.get?_push_size (s.heap.push o)
      (o := { cls := .type "enumerate", data := .fields #[.none, .bool false, .ref s.heap.objs.size, rawInt 0, .none, .none] }) rfl
    rw [hz] at this; exact this
  refine ⟨⟨_, he, rfl⟩, h _ he (Heap.get?_push_of_some _ (Heap.get?_push_size _ B.free)) (by rw [Heap.size_push, hz]) fun b o x => Heap.get?_push_of_some _ (Heap.get?_push_of_some _ x)⟩

/-! ### what is walked in step -/
inductive Src where
  | txt (x : Str) (t : Tok)
  | tup (a : Addr)
def Src.val : Src → Value
  | .txt x t => .str x t
  | .tup a => .ref a
def Src.tn : Src → Addr → Nat → Heap → Prop
  | .txt x t, it, i, h => h.IsStrIter it (strIterType x) x t i
  | .tup a, it, i, h => h.IsTupleIter it a i
def Src.ok (K : PySem.W.Frag) (H : Hp) : Src → List V → Prop
  | .txt x _, xs => xs = x.cps.toList.map fun c => V.str ⟨#[c]⟩
  | .tup a, xs => SqT K H a xs
def Src.off : Src → Addr → Prop
  | .txt _ _, _ => True
  | .tup a, b => a ≠ b
theorem Src.tn_keep {S : Src} {it : Addr} {i : Nat} {h h' : Heap} (x : S.tn it i h) (k : ∀ o, h.get? it = some o → h'.get? it = some o) : S.tn it i h' := by
  cases S with
  | txt x0 t => obtain ⟨o, e, r⟩ := x; exact ⟨o, k o e, r⟩
  | tup a => obtain ⟨o, e, r⟩ := x; exact ⟨o, k o e, r⟩
theorem Src.tn_obj {S : Src} {it : Addr} {i : Nat} {h : Heap} (x : S.tn it i h) : ∃ o, h.get? it = some o ∧ ∀ v, o.data ≠ .cell v := by
  cases S with
  | txt x0 t => obtain ⟨o, e, _, d⟩ := x; exact ⟨o, e, fun v q => by rw [d] at q; cases q⟩
  | tup a => obtain ⟨o, e, _, d⟩ := x; exact ⟨o, e, fun v q => by rw [d] at q; cases q⟩
section
variable {X : Cx} {pins : List (Addr × Obj)} {σ : L2.St} {H : Hp} {s : Shared}
theorem Src.inj {S : Src} {xs ys : List V} (I : Inv X pins σ H s) (h : S.ok X.K H xs) (h' : S.ok X.K H ys) : xs = ys := by
  cases S with
  | txt x t => exact (show xs = _ from h).trans (show ys = _ from h').symm
  | tup a => exact I.tuple_inj h h'
/-- the iterator at it draws the items -/
theorem Src.draws {S : Src} {xs : List V} {A : Around} (I : Inv X pins σ H s) (h : S.ok X.K H xs) (hh : A.handled = none) (it : Addr) (ne : S.off it) :
    ∃ (fp : List Addr) (P : Nat → Value → Prop) (St : Nat → Heap → Prop), Draws X.prog X.w A it fp xs.length P St ∧ it ∈ fp ∧ (∀ b ∈ fp, b = it ∨ ¬ S.off b) ∧ (∀ j h, St j h → S.tn it j h) ∧ (∀ j, S.tn it j s.heap → St j s.heap) ∧
      ∀ j v, P j v → ∃ x, xs[j]? = some x ∧ RelV x v := by
  cases S with
  | txt x t =>
    have e : xs = x.cps.toList.map fun c => V.str ⟨#[c]⟩ := h
    subst e
    have D := Draws.text (prog := X.prog) (w := X.w) hh it x t
    have l : (x.cps.toList.map fun c => V.str ⟨#[c]⟩).length = x.cps.size := by simp
    rw [← l] at D
    refine ⟨_, _, _, D, by simp, fun b hb => .inl (by simpa using hb), fun j h q => q, fun j q => q, fun j v ⟨c, u, hc, ev⟩ => ⟨V.str ⟨#[c]⟩, ?_, u, ev⟩⟩
    rw [List.getElem?_map, Array.getElem?_toList, hc]
    rfl
  | tup a =>
    obtain ⟨its, rv, p, _⟩ := I.tuple h
    have D := Draws.tuple (prog := X.prog) (w := X.w) hh it a ne its.toArray
    have l : its.toArray.size = xs.length := by rw [List.size_toArray]; exact rv.length.symm
    rw [l] at D
    refine ⟨_, _, _, D, by simp, fun b hb => ?_, fun j h q => q.1, fun j q => ⟨q, p⟩, fun j v hv => ?_⟩
    · have e : b = it ∨ b = a := by simpa using hb
      exact e.imp id fun z => fun y => y z.symm
    · have hv' : its[j]? = some v := by simpa using hv
      have lt : j < xs.length := by rw [← l, List.size_toArray]; exact (List.getElem?_eq_some_iff.mp hv').1
      obtain ⟨u, hu, ru⟩ := rv.get (List.getElem?_eq_getElem lt)
      rw [hv'] at hu
      cases hu
      exact ⟨xs[j], List.getElem?_eq_getElem lt, ru⟩
theorem Src.begins {S : Src} {xs : List V} (I : Inv X pins σ H s) (h : S.ok X.K H xs) : ∃ (o : Obj) (B : Heap → Prop), Begins S.val o B ∧ B s.heap ∧ (∀ h' it, h'.get? it = some o → S.tn it 0 h') ∧ ∀ b, s.heap.objs.size ≤ b → S.off b := by
  cases S with
  | txt x t => exact ⟨_, _, begins_text x t, trivial, fun h' it e => ⟨_, e, rfl, rfl⟩, fun _ _ => trivial⟩
  | tup a =>
    obtain ⟨its, rv, p, _⟩ := I.tuple h
    refine ⟨_, _, begins_tuple a its.toArray, p, fun h' it e => ⟨_, e, rfl, rfl⟩, fun b hb => ?_⟩
    obtain ⟨o, ho, _⟩ := p
    exact Nat.ne_of_lt (Nat.lt_of_lt_of_le (Heap.lt_size ho) hb)
theorem Src.of_rel {x : V} {u : Value} (r : RelV x u) (h : (∃ z, x = .str z) ∨ ∃ a, x = .ref a) : ∃ S : Src, u = S.val ∧ (∀ z, x = .str z → ∃ t, S = .txt z t) ∧ ∀ a, x = .ref a → S = .tup a := by
  rcases h with ⟨z, rfl⟩ | ⟨a, rfl⟩
  · obtain ⟨t, rfl⟩ := r
    exact ⟨.txt z t, rfl, fun z' e => by cases e; exact ⟨t, rfl⟩, fun a e => by cases e⟩
  · cases r
    exact ⟨.tup a, rfl, fun z' e => (by cases e), fun a e => by cases e; rfl⟩
end

/-! ### enumerate -/
def ItE (K : PySem.W.Frag) (S : Src) : It :=
  ⟨fun i H => ∃ xs, S.ok K H xs ∧ i < xs.length, fun i H v H' => ∃ (T : Addr) (x : V), v = .ref T ∧ H T = none ∧ H' = upd H T (.tup [.int (i : Nat), x]) ∧ ∀ xs, S.ok K H xs → xs[i]? = some x, fun i H => ∃ xs, S.ok K H xs ∧ i = xs.length⟩
theorem turn_E {P : Program} {w : World} {K : PySem.W.Frag} {elts : List Expr} {kk : Nat} {tpos : Pos} (S : Src) (e it : Addr) (ne : S.off it) (ne2 : S.off e) (hei : e ≠ it) :
    Turn P w K (.Tuple elts kk tpos) (ItE K S) [e, it] e (fun i h => (∃ old, IsEnum h e it ((i : Nat) : Int) old) ∧ S.tn it i h) where
  mem := by simp
  obj := fun i h st b hb => by
    obtain ⟨⟨old, he⟩, hi⟩ := st
    have e' : b = e ∨ b = it := by simpa using hb
    rcases e' with z | z
    · rw [z]; exact ⟨_, he, fun v q => nomatch q⟩
    · rw [z]; exact Src.tn_obj hi
  keep := fun i h h' st k => let ⟨⟨old, he⟩, hi⟩ := st; ⟨⟨old, k e (by simp) _ he⟩, Src.tn_keep hi fun o q => k it (by simp) o q⟩
  item := by
    intro X hP hw hK hc i pins s σ H E I hf st hg
    subst hP hw hK
    obtain ⟨xs, hq, hx⟩ := hg
    obtain ⟨fp, P, St, D, m1, m2, t1, t2, vals⟩ := Src.draws (A := X.A.in1) I hq (I.ok.hd hc) it ne
    have hef : e ∉ fp := fun z => by
      rcases m2 e z with y | y
      · exact hei y
      · exact y ne2
    obtain ⟨⟨old, he⟩, hit⟩ := st
    have hel : e < s.heap.objs.size := Heap.lt_size he
    have hil : it < s.heap.objs.size := by obtain ⟨_, q, _⟩ := Src.tn_obj hit; exact Heap.lt_size q
    refine wpAny_pyNext_enum_itemD D he (t2 i hit) hx hei hef fun x h' tk hP ho hs' hT hsz hk => ?_
    obtain ⟨xv, hxv, rx⟩ := vals i x hP
    refine ⟨_, rfl, wpAny_letOwnedTupleGo_enum ho fun h'' he' sb => ?_⟩
    have hT2 : h''.get? s.heap.objs.size = some { cls := .type "tuple", data := .seq #[.int i tk, x] } := (sb.2 _ (Nat.ne_of_gt hel)).trans hT
    have new : ObjOk X.prog X.w (upd H s.heap.objs.size (.tup [.int (i : Nat), xv])) h'' s.heap.objs.size (.tup [.int (i : Nat), xv]) :=
      ⟨by show 2 ≤ sizeLine; decide, [.int i tk, x], .cons ⟨_, rfl⟩ (.cons rx .nil), ⟨_, hT2, rfl, _, rfl⟩⟩
    have I1 : Inv X pins σ (upd H s.heap.objs.size (.tup [.int (i : Nat), xv])) { s with heap := h'', toks := tk + 1 } :=
      I.turnedNew (ch := [e, it]) (fun b ob hb q => (sb.2 b (fun z => hb (by simp [z]))).trans (hk b ob (fun z => hb (by simp [z])) (fun z => hb (by simp [z])) q)) hf (Nat.le_refl _) new
    refine ⟨.ref s.heap.objs.size, _, I1, rfl, ⟨_, xv, rfl, I.hok.fresh (Nat.le_refl _), rfl, fun ys hy => by rw [Src.inj I hy hq]; exact hxv⟩, ⟨⟨x, ?_⟩, Src.tn_keep (t1 _ _ hs') fun o q => (sb.2 it (Ne.symm hei)).trans q⟩, fun b hb => ?_⟩
    · have e1 : ((i + 1 : Nat) : Int) = (i : Int) + 1 := by omega
      rw [e1]; exact he'
    · have hb' : b < s.heap.objs.size := by
        have e' : b = e ∨ b = it := by simpa using hb
        rcases e' with z | z
        · rw [z]; exact hel
        · rw [z]; exact hil
      rw [upd_ne (Nat.ne_of_lt hb')]
      exact (hf b hb).1
  done := by
    intro X hP hw hK hc i pins s σ H E I hf st hg
    subst hP hw hK
    obtain ⟨xs, hq, hx⟩ := hg
    obtain ⟨fp, P, St, D, m1, m2, t1, t2, vals⟩ := Src.draws (A := X.A.in1) I hq (I.ok.hd hc) it ne
    obtain ⟨⟨old, he⟩, hit⟩ := st
    obtain ⟨f0, f1, f2, f3, f4, f5⟩ := hf it (by simp)
    subst hx
    exact wpAny_pyNext_enum_endD D he (t2 _ hit) fun h' eb => ⟨rfl, I.turned (t' := s.toks) (fun b o hb q => eb b o hb q) f0 f1 f3 f4 f5⟩
  self := fun A i s Q E st h => let ⟨⟨_, he⟩, _⟩ := st; wpAny_pyIter_enum he h
def iE (K : PySem.W.Frag) (ta : TA) : TI := fun σ H R => ta σ H fun vs H1 => ∃ (x : V) (xs : List V), vs = [x] ∧ ((∃ z, x = .str z) ∨ ∃ a, x = .ref a) ∧ (∀ S : Src, (∀ z, x = .str z → ∃ t, S = .txt z t) → (∀ a, x = .ref a → S = .tup a) → S.ok K H1 xs ∧ R (ItE K S) H1)
theorem pi_E {X : Cx} {e : Expr} {ta : TA} {p pos tpos : Pos} {elts : List Expr} {kk : Nat} (hg : Gl X "enumerate") (hm : X.mg "enumerate" = none) (ha : PA X [e] ta) (hs : starEach [e] X.env = [(false, eval e X.env)] := by rfl) :
    PI X (.Tuple elts kk tpos) (.Call (.Name "enumerate" p) [e] [] pos) (iE X.K ta) := by
  refine ⟨fun pins s σ H R I h => ?_⟩
  refine Call_ (ld_blt I hg hm boot_enumerate (PyProof.Rows.callWith_type1 (thn (ha.run pos pins s σ H _ I h) fun us s1 ⟨vs, H1, I1, r1, q1⟩ => ?_) hs rfl))
  obtain ⟨x, xs, ex, kd, q⟩ := q1
  subst ex
  cases r1 with
  | cons r rr =>
    cases rr
    obtain ⟨S, rfl, a1, a2⟩ := Src.of_rel r kd
    obtain ⟨hq, q⟩ := q S a1 a2
    obtain ⟨o, B, bg, hB, t0, off⟩ := Src.begins I1 hq
    refine enum_begins1 bg hB fun h' he hit hsz hk => wpAny_pyIter_enum he ?_
    have I2 : Inv X pins σ H1 { s1 with heap := h' } := I1.kept (t' := s1.toks) hk
    refine ⟨s1.heap.objs.size + 1, [s1.heap.objs.size + 1, s1.heap.objs.size], _, _, H1, rfl, I2, turn_E S (s1.heap.objs.size + 1) s1.heap.objs.size (off _ (Nat.le_refl _)) (off _ (Nat.le_add_right _ _)) (Nat.succ_ne_self _), ⟨⟨.none, he⟩, t0 _ _ hit⟩, fun b hb => ?_, q⟩
    have e' : b = s1.heap.objs.size + 1 ∨ b = s1.heap.objs.size := by simpa using hb
    have hle : s1.heap.objs.size ≤ b := by
      rcases e' with z | z
      · rw [z]; exact Nat.le_add_right _ _
      · rw [z]; exact Nat.le_refl _
    exact I1.fpOk hle (I1.hok.fresh hle)
end Cs

set_option Elab.async false
set_option linter.all false
set_option autoImplicit false
set_option maxRecDepth 100000
set_option maxHeartbeats 4000000
/-! The layer, part N: zip over texts and tuples; the readings of zip and enumerate. -/
namespace Cs
open PySem PySem.Spec PyProof.Rows L2
def ItZ (K : PySem.W.Frag) (S S2 : Src) : It :=
  ⟨fun i H => ∃ xs ys, S.ok K H xs ∧ S2.ok K H ys ∧ i < xs.length ∧ i < ys.length, fun i H v H' => ∃ (T : Addr) (x y : V), v = .ref T ∧ H T = none ∧ H' = upd H T (.tup [x, y]) ∧ (∀ xs, S.ok K H xs → xs[i]? = some x) ∧ ∀ ys, S2.ok K H ys → ys[i]? = some y,
    fun i H => ∃ xs ys, S.ok K H xs ∧ S2.ok K H ys ∧ i = min xs.length ys.length⟩
theorem turn_Z {P : Program} {w : World} {K : PySem.W.Frag} {elts : List Expr} {kk : Nat} {tpos : Pos} (S S2 : Src) (b : Nat) (o1 : ∀ c : Nat, b ≤ c → S.off c) (o2 : ∀ c : Nat, b ≤ c → S2.off c) :
    Turn P w K (.Tuple elts kk tpos) (ItZ K S S2) [b + 4, b + 2, b + 3, b, b + 1] (b + 4) (fun i h => IsZip h (b + 4) (b + 2) (b + 3) .none ∧ IsTupOf2 h (b + 2) (.ref b) (.ref (b + 1)) ∧ (∃ x y, IsTupOf2 h (b + 3) x y) ∧ S.tn b i h ∧ S2.tn (b + 1) i h) where
  mem := by simp
  obj := fun i h st c hc => by
    obtain ⟨hz, hTI, ⟨x, y, hTO⟩, h1, h2⟩ := st
    have e' : c = b + 4 ∨ c = b + 2 ∨ c = b + 3 ∨ c = b ∨ c = b + 1 := by simpa using hc
    rcases e' with q | q | q | q | q
    · rw [q]; exact ⟨_, hz, fun v q => nomatch q⟩
    · rw [q]; exact ⟨_, hTI, fun v q => nomatch q⟩
    · rw [q]; exact ⟨_, hTO, fun v q => nomatch q⟩
    · rw [q]; exact Src.tn_obj h1
    · rw [q]; exact Src.tn_obj h2
  keep := fun i h h' st k => by
    obtain ⟨hz, hTI, ⟨x, y, hTO⟩, h1, h2⟩ := st
    exact ⟨k _ (by simp) _ hz, k _ (by simp) _ hTI, ⟨x, y, k _ (by simp) _ hTO⟩, Src.tn_keep h1 fun o q => k b (by simp) o q, Src.tn_keep h2 fun o q => k (b + 1) (by simp) o q⟩
  item := by
    intro X hP hw hK hc i pins s σ H E I hf st hg
    subst hP hw hK
    obtain ⟨hz, hTI, ⟨x0, y0, hTO⟩, h1, h2⟩ := st
    obtain ⟨xs, ys, hq, hq2, hx, hy⟩ := hg
    obtain ⟨fp, P, St, D, m1, m2, t1, t2, vals⟩ := Src.draws (A := X.A.in1) I hq (I.ok.hd hc) b (o1 _ (Nat.le_refl _))
    obtain ⟨fp', P', St', D', m1', m2', t1', t2', vals'⟩ := Src.draws (A := X.A.in1) I hq2 (I.ok.hd hc) (b + 1) (o2 _ (Nat.le_add_right _ _))
    have nin : ∀ c : Nat, b ≤ c → c ≠ b → c ∉ fp := fun c hc hn z => (m2 c z).elim hn fun y => y (o1 c hc)
    have nin' : ∀ c : Nat, b ≤ c → c ≠ b + 1 → c ∉ fp' := fun c hc hn z => (m2' c z).elim hn fun y => y (o2 c hc)
    have Z : ZipSep2 (b + 4) (b + 2) (b + 3) b (b + 1) fp fp' := ⟨by (first | omega | (show @Ne Nat _ _; omega) | (show @LE.le Nat _ _ _; omega) | (show @LT.lt Nat _ _ _; omega)), by (first | omega | (show @Ne Nat _ _; omega) | (show @LE.le Nat _ _ _; omega) | (show @LT.lt Nat _ _ _; omega)), by (first | omega | (show @Ne Nat _ _; omega) | (show @LE.le Nat _ _ _; omega) | (show @LT.lt Nat _ _ _; omega)), by (first | omega | (show @Ne Nat _ _; omega) | (show @LE.le Nat _ _ _; omega) | (show @LT.lt Nat _ _ _; omega)), m1, nin _ (by (first | omega | (show @Ne Nat _ _; omega) | (show @LE.le Nat _ _ _; omega) | (show @LT.lt Nat _ _ _; omega))) (by (first | omega | (show @Ne Nat _ _; omega) | (show @LE.le Nat _ _ _; omega) | (show @LT.lt Nat _ _ _; omega))), nin _ (by (first | omega | (show @Ne Nat _ _; omega) | (show @LE.le Nat _ _ _; omega) | (show @LT.lt Nat _ _ _; omega))) (by (first | omega | (show @Ne Nat _ _; omega) | (show @LE.le Nat _ _ _; omega) | (show @LT.lt Nat _ _ _; omega))), by (first | omega | (show @Ne Nat _ _; omega) | (show @LE.le Nat _ _ _; omega) | (show @LT.lt Nat _ _ _; omega)), m1', nin' _ (by (first | omega | (show @Ne Nat _ _; omega) | (show @LE.le Nat _ _ _; omega) | (show @LT.lt Nat _ _ _; omega))) (by (first | omega | (show @Ne Nat _ _; omega) | (show @LE.le Nat _ _ _; omega) | (show @LT.lt Nat _ _ _; omega))), nin' _ (by (first | omega | (show @Ne Nat _ _; omega) | (show @LE.le Nat _ _ _; omega) | (show @LT.lt Nat _ _ _; omega))) (by (first | omega | (show @Ne Nat _ _; omega) | (show @LE.le Nat _ _ _; omega) | (show @LT.lt Nat _ _ _; omega))), nin' _ (by (first | omega | (show @Ne Nat _ _; omega) | (show @LE.le Nat _ _ _; omega) | (show @LT.lt Nat _ _ _; omega))) (by (first | omega | (show @Ne Nat _ _; omega) | (show @LE.le Nat _ _ _; omega) | (show @LT.lt Nat _ _ _; omega))), nin _ (by (first | omega | (show @Ne Nat _ _; omega) | (show @LE.le Nat _ _ _; omega) | (show @LT.lt Nat _ _ _; omega))) (by (first | omega | (show @Ne Nat _ _; omega) | (show @LE.le Nat _ _ _; omega) | (show @LT.lt Nat _ _ _; omega)))⟩
    have hzl : b + 4 < s.heap.objs.size := Heap.lt_size hz
    refine wpAny_pyNext_zipD2_item Z D D' hz hTI hTO (t2 i h1) (t2' i h2) hx hy fun u u2 h' tk hP hP2 z' TO' h1' h2' hT hsz hk => ?_
    obtain ⟨xv, hxv, ru⟩ := vals i u hP
    obtain ⟨yv, hyv, ru2⟩ := vals' i u2 hP2
    refine ⟨_, rfl, wpAny_letOwnedTupleGo_zip (s := { s with heap := h', toks := tk }) z' fun h'' z'' sb => ?_⟩
    have hT2 : h''.get? s.heap.objs.size = some { cls := .type "tuple", data := .seq #[u, u2] } := (sb.2 _ (Nat.ne_of_gt hzl)).trans hT
    have new : ObjOk X.prog X.w (upd H s.heap.objs.size (.tup [xv, yv])) h'' s.heap.objs.size (.tup [xv, yv]) :=
      ⟨by show 2 ≤ sizeLine; decide, [u, u2], .cons ru (.cons ru2 .nil), ⟨_, hT2, rfl, _, rfl⟩⟩
    have I1 : Inv X pins σ (upd H s.heap.objs.size (.tup [xv, yv])) { s with heap := h'', toks := tk } :=
      I.turnedNew (ch := [b + 4, b + 2, b + 3, b, b + 1]) (fun c o hb q => (sb.2 c (fun q' => hb (by simp [q']))).trans (hk c o (fun q' => hb (by simp [q'])) (fun q' => hb (by simp [q'])) (fun q' => hb (by simp [q'])) (fun q' => hb (by simp [q'])) q)) hf (Nat.le_refl _) new
    refine ⟨.ref s.heap.objs.size, _, I1, rfl, ⟨_, xv, yv, rfl, I.hok.fresh (Nat.le_refl _), rfl, fun l hl => by rw [Src.inj I hl hq]; exact hxv, fun l hl => by rw [Src.inj I hl hq2]; exact hyv⟩, ⟨z'', ?_, ⟨u, u2, ?_⟩, ?_, ?_⟩, fun c hcm => ?_⟩
    · exact (sb.2 _ Z.TIz).trans (hk _ _ Z.TIz Z.TITO Z.TIi1 Z.TIi2 hTI)
    · exact (sb.2 _ Z.TOz).trans TO'
    · exact Src.tn_keep (t1 _ _ h1') fun o q => (sb.2 _ (by (first | omega | (show @Ne Nat _ _; omega) | (show @LE.le Nat _ _ _; omega) | (show @LT.lt Nat _ _ _; omega)))).trans q
    · exact Src.tn_keep (t1' _ _ h2') fun o q => (sb.2 _ (by (first | omega | (show @Ne Nat _ _; omega) | (show @LE.le Nat _ _ _; omega) | (show @LT.lt Nat _ _ _; omega)))).trans q
    · have hlt : c < s.heap.objs.size := by
        have hzl' : (b : Nat) + 4 < s.heap.objs.size := hzl
        have e' : (c : Nat) = b + 4 ∨ (c : Nat) = b + 2 ∨ (c : Nat) = b + 3 ∨ (c : Nat) = b ∨ (c : Nat) = b + 1 := by simpa using hcm
        rcases e' with q | q | q | q | q <;> rw [q] <;> (show @LT.lt Nat _ _ _; omega)
      rw [upd_ne (Nat.ne_of_lt hlt)]
      exact (hf c hcm).1
  done := by
    intro X hP hw hK hc i pins s σ H E I hf st hg
    subst hP hw hK
    obtain ⟨hz, hTI, ⟨x0, y0, hTO⟩, h1, h2⟩ := st
    obtain ⟨xs, ys, hq, hq2, hx⟩ := hg
    obtain ⟨fp, P, St, D, m1, m2, t1, t2, vals⟩ := Src.draws (A := X.A.in1) I hq (I.ok.hd hc) b (o1 _ (Nat.le_refl _))
    obtain ⟨fp', P', St', D', m1', m2', t1', t2', vals'⟩ := Src.draws (A := X.A.in1) I hq2 (I.ok.hd hc) (b + 1) (o2 _ (Nat.le_add_right _ _))
    have nin : ∀ c : Nat, b ≤ c → c ≠ b → c ∉ fp := fun c hc hn z => (m2 c z).elim hn fun y => y (o1 c hc)
    have nin' : ∀ c : Nat, b ≤ c → c ≠ b + 1 → c ∉ fp' := fun c hc hn z => (m2' c z).elim hn fun y => y (o2 c hc)
    have Z : ZipSep2 (b + 4) (b + 2) (b + 3) b (b + 1) fp fp' := ⟨by (first | omega | (show @Ne Nat _ _; omega) | (show @LE.le Nat _ _ _; omega) | (show @LT.lt Nat _ _ _; omega)), by (first | omega | (show @Ne Nat _ _; omega) | (show @LE.le Nat _ _ _; omega) | (show @LT.lt Nat _ _ _; omega)), by (first | omega | (show @Ne Nat _ _; omega) | (show @LE.le Nat _ _ _; omega) | (show @LT.lt Nat _ _ _; omega)), by (first | omega | (show @Ne Nat _ _; omega) | (show @LE.le Nat _ _ _; omega) | (show @LT.lt Nat _ _ _; omega)), m1, nin _ (by (first | omega | (show @Ne Nat _ _; omega) | (show @LE.le Nat _ _ _; omega) | (show @LT.lt Nat _ _ _; omega))) (by (first | omega | (show @Ne Nat _ _; omega) | (show @LE.le Nat _ _ _; omega) | (show @LT.lt Nat _ _ _; omega))), nin _ (by (first | omega | (show @Ne Nat _ _; omega) | (show @LE.le Nat _ _ _; omega) | (show @LT.lt Nat _ _ _; omega))) (by (first | omega | (show @Ne Nat _ _; omega) | (show @LE.le Nat _ _ _; omega) | (show @LT.lt Nat _ _ _; omega))), by (first | omega | (show @Ne Nat _ _; omega) | (show @LE.le Nat _ _ _; omega) | (show @LT.lt Nat _ _ _; omega)), m1', nin' _ (by (first | omega | (show @Ne Nat _ _; omega) | (show @LE.le Nat _ _ _; omega) | (show @LT.lt Nat _ _ _; omega))) (by (first | omega | (show @Ne Nat _ _; omega) | (show @LE.le Nat _ _ _; omega) | (show @LT.lt Nat _ _ _; omega))), nin' _ (by (first | omega | (show @Ne Nat _ _; omega) | (show @LE.le Nat _ _ _; omega) | (show @LT.lt Nat _ _ _; omega))) (by (first | omega | (show @Ne Nat _ _; omega) | (show @LE.le Nat _ _ _; omega) | (show @LT.lt Nat _ _ _; omega))), nin' _ (by (first | omega | (show @Ne Nat _ _; omega) | (show @LE.le Nat _ _ _; omega) | (show @LT.lt Nat _ _ _; omega))) (by (first | omega | (show @Ne Nat _ _; omega) | (show @LE.le Nat _ _ _; omega) | (show @LT.lt Nat _ _ _; omega))), nin _ (by (first | omega | (show @Ne Nat _ _; omega) | (show @LE.le Nat _ _ _; omega) | (show @LT.lt Nat _ _ _; omega))) (by (first | omega | (show @Ne Nat _ _; omega) | (show @LE.le Nat _ _ _; omega) | (show @LT.lt Nat _ _ _; omega)))⟩
    exact wpAny_pyNext_zipD2_end Z D D' hz hTI hTO (t2 i h1) (t2' i h2) (by (first | omega | (show @Ne Nat _ _; omega) | (show @LE.le Nat _ _ _; omega) | (show @LT.lt Nat _ _ _; omega))) (by (first | omega | (show @Ne Nat _ _; omega) | (show @LE.le Nat _ _ _; omega) | (show @LT.lt Nat _ _ _; omega))) (by (first | omega | (show @Ne Nat _ _; omega) | (show @LE.le Nat _ _ _; omega) | (show @LT.lt Nat _ _ _; omega))) fun h' tk hk => ⟨rfl, I.turnedL (t' := tk) (ch := [b + 4, b + 2, b + 3, b, b + 1]) (fun c o hb q =>
      hk c o (fun q' => hb (by simp [q'])) (fun q' => hb (by simp [q'])) (fun q' => hb (by simp [q'])) (fun q' => hb (by simp [q'])) q) hf⟩
  self := fun A i s Q E st h => wpAny_pyIter_zip st.1 h
def knd (x : V) : Prop := (∃ z, x = .str z) ∨ ∃ a, x = .ref a
def fits (S : Src) (x : V) : Prop := (∀ z, x = .str z → ∃ t, S = .txt z t) ∧ ∀ a, x = .ref a → S = .tup a
def iZ (K : PySem.W.Frag) (ta : TA) : TI := fun σ H R => ta σ H fun vs H1 => ∃ (x y : V) (xs ys : List V), vs = [x, y] ∧ knd x ∧ knd y ∧ ∀ S S2 : Src, fits S x → fits S2 y → S.ok K H1 xs ∧ S2.ok K H1 ys ∧ R (ItZ K S S2) H1
theorem pi_Z {X : Cx} {e e2 : Expr} {ta : TA} {p pos tpos : Pos} {elts : List Expr} {kk : Nat} (hg : Gl X "zip") (hm : X.mg "zip" = none) (ha : PA X [e, e2] ta)
    (hs : starEach [e, e2] X.env = (false, eval e X.env) :: starEach [e2] X.env := by rfl) (hpl : (backTo pos (starEach [e2] X.env)).any (·.1) = false := by rfl) :
    PI X (.Tuple elts kk tpos) (.Call (.Name "zip" p) [e, e2] [] pos) (iZ X.K ta) := by
  refine ⟨fun pins s σ H R I h => ?_⟩
  refine Call_ (ld_blt I hg hm PyProof.Rows.boot_zip (PyProof.Rows.callWith_type1 (thn (ha.run pos pins s σ H _ I h) fun us s1 ⟨vs, H1, I1, r1, q1⟩ => ?_) hs hpl))
  obtain ⟨x, y, xs, ys, ex, k1, k2, q⟩ := q1
  subst ex
  cases r1 with
  | cons r rr =>
    cases rr with
    | cons r' rr =>
      cases rr
      obtain ⟨S, rfl, a1, a2⟩ := Src.of_rel r k1
      obtain ⟨S2, rfl, b1, b2⟩ := Src.of_rel r' k2
      obtain ⟨hq, hq2, q⟩ := q S S2 ⟨a1, a2⟩ ⟨b1, b2⟩
      obtain ⟨o, B, bg, hB, t0, off⟩ := Src.begins I1 hq
      obtain ⟨o', B', bg', hB', t0', off'⟩ := Src.begins I1 hq2
      refine zip_begins2 bg bg' hB hB' fun h' hz hTI hTO h1 h2 hsz hk => wpAny_pyIter_zip hz ?_
      have I2 : Inv X pins σ H1 { s1 with heap := h' } := I1.kept (t' := s1.toks) hk
      refine ⟨s1.heap.objs.size + 4, [s1.heap.objs.size + 4, s1.heap.objs.size + 2, s1.heap.objs.size + 3, s1.heap.objs.size, s1.heap.objs.size + 1], _, _, H1, rfl, I2, turn_Z S S2 s1.heap.objs.size off off', ⟨hz, hTI, ⟨_, _, hTO⟩, t0 _ _ h1, t0' _ _ h2⟩, fun c hcm => ?_, q⟩
      have e' : c = s1.heap.objs.size + 4 ∨ c = s1.heap.objs.size + 2 ∨ c = s1.heap.objs.size + 3 ∨ c = s1.heap.objs.size ∨ c = s1.heap.objs.size + 1 := by simpa using hcm
      have hle : s1.heap.objs.size ≤ c := by
        rcases e' with z | z | z | z | z
        · rw [z]; exact Nat.le_add_right _ _
        · rw [z]; exact Nat.le_add_right _ _
        · rw [z]; exact Nat.le_add_right _ _
        · rw [z]; exact Nat.le_refl _
        · rw [z]; exact Nat.le_add_right _ _
      exact I1.fpOk hle (I1.hok.fresh hle)

theorem Src.ok_frm {K : PySem.W.Frag} {G H : Hp} {S : Src} {xs : List V} (h : S.ok K G xs) (s : Same G H) : S.ok K H xs := by
  cases S with
  | txt x t => exact h
  | tup a => exact (Lk.same s).tup h
/-! ### the layer's readings -/
section
variable {P : Program} {w : World} {K : PySem.W.Frag} {mg : Str → Option Value} {base : Heap} {k : Nat} {X : Cx} {W : Option Addr} {Γ : En} {pos p tpos : Pos} {a b : Expr} {elts : List Expr} {kk : Nat} {G H H0 : Hp} {v : V} {d : PyData} {ds es : List PyData}
/-- data that is walked: a text or a tuple -/
def items : PyData → Option (List PyData)
  | .str x => some (x.cps.toList.map fun c => .str ⟨#[c]⟩)
  | .tuple ds => some ds
  | _ => none
theorem src_of (h : Dp K G v d) (hd : items d = some ds) : knd v ∧ ∃ xs, DpAll K G xs ds ∧ ∀ (G' : Hp) (S : Src), Same G G' → fits S v → S.ok K G' xs := by
  cases h with
  | str x =>
    cases hd
    refine ⟨.inl ⟨_, rfl⟩, x.cps.toList.map fun c => V.str ⟨#[c]⟩, ?_, fun G' S _ f => ?_⟩
    · have key : ∀ l : List Nat, DpAll K G (l.map fun c => V.str ⟨#[c]⟩) (l.map fun c => PyData.str ⟨#[c]⟩) := by
        intro l
        induction l with
        | nil => exact .nil
        | cons c r ih => exact .cons (.str _) ih
      exact key _
    · obtain ⟨t, rfl⟩ := f.1 x rfl
      exact rfl
  | tup e r =>
    cases hd
    refine ⟨.inr ⟨_, rfl⟩, _, r, fun G' S s f => ?_⟩
    cases f.2 _ rfl
    exact (Lk.same s).tup e
  | non => cases hd
  | bl _ => cases hd
  | int _ => cases hd
  | lst _ _ => cases hd
theorem it_enum (c : Cok P w K mg base k X) (hm : mg "enumerate" = none) (ha : Ea X K W Γ [a] [Dt K d]) (hd : items d = some ds) (hg : Gl X "enumerate" := by rfl) (hs : starEach [a] X.env = [(false, eval a X.env)] := by rfl) :
    PI X (.Tuple elts kk tpos) (.Call (.Name "enumerate" p) [a] [] pos) (cI K W Γ ((List.range ds.length).map fun i => dat K (.tuple [.int (i : Nat), ds.getD i .none]))) :=
  piI (pi_E hg (by rw [c.hmg]; exact hm) ha hs) fun σ H R ⟨H0, G, f, en, q⟩ => ⟨H0, G, f, en, fun vs H1 G1 s1 q1 => by
    obtain ⟨v, rfl, q2⟩ := args1 q1
    obtain ⟨kd, xs, hx, sok⟩ := src_of (dt_dp q2) hd
    have hl := hx.length
    refine ⟨v, xs, rfl, kd, fun S f1 f2 => ⟨by rw [c.hK]; exact (Src.ok_frm (sok G1 S (Same.refl _) ⟨f1, f2⟩) s1.frm.1), ?_⟩⟩
    rw [c.hK]
    refine q _ H1 G1 s1 ⟨fun i H' G' lt f' s' => ⟨xs, Src.ok_frm (sok G' S s' ⟨f1, f2⟩) f'.1, ?_⟩, fun H' G' f' s' => ⟨xs, Src.ok_frm (sok G' S s' ⟨f1, f2⟩) f'.1, ?_⟩, fun i H' G' v2 H2 lt f' s' y => ?_⟩
    · rw [List.length_map, List.length_range] at lt; rw [hl]; exact lt
    · rw [List.length_map, List.length_range]; exact hl.symm
    · obtain ⟨T, x, rfl, hT, rfl, hx'⟩ := y
      have lt' : i < ds.length := by rw [List.length_map, List.length_range] at lt; exact lt
      have hxi := hx' xs (Src.ok_frm (sok G' S s' ⟨f1, f2⟩) f'.1)
      obtain ⟨u, hu, du⟩ := hx.get (List.getElem?_eq_getElem lt')
      rw [hxi] at hu
      cases hu
      obtain ⟨s3, q3⟩ := new_tup (ds := [.int (i : Nat), ds[i]]) f' (.cons (.int _) (.cons ((Lk.same s').dat du) .nil)) hT
      refine ⟨_, s3, dat K (.tuple [.int (i : Nat), ds[i]]), ?_, q3⟩
      rw [List.getElem?_map, List.getElem?_range lt']
      simp [lt']⟩
theorem it_zip (c : Cok P w K mg base k X) (hm : mg "zip" = none) {d2 : PyData} (ha : Ea X K W Γ [a, b] [Dt K d, Dt K d2]) (hd : items d = some ds) (hd2 : items d2 = some es) (hg : Gl X "zip" := by rfl)
    (hs : starEach [a, b] X.env = (false, eval a X.env) :: starEach [b] X.env := by rfl) (hpl : (backTo pos (starEach [b] X.env)).any (·.1) = false := by rfl) :
    PI X (.Tuple elts kk tpos) (.Call (.Name "zip" p) [a, b] [] pos) (cI K W Γ ((ds.zip es).map fun z => dat K (.tuple [z.1, z.2]))) :=
  piI (pi_Z hg (by rw [c.hmg]; exact hm) ha hs hpl) fun σ H R ⟨H0, G, f, en, q⟩ => ⟨H0, G, f, en, fun vs H1 G1 s1 q1 => by
    obtain ⟨v, v', rfl, q2, q2'⟩ := args2 q1
    obtain ⟨kd, xs, hx, sok⟩ := src_of (dt_dp q2) hd
    obtain ⟨kd', ys, hy, sok'⟩ := src_of (dt_dp q2') hd2
    have hl := hx.length
    have hl' := hy.length
    refine ⟨v, v', xs, ys, rfl, kd, kd', fun S S2 f1 f2 => ⟨by rw [c.hK]; exact (Src.ok_frm (sok G1 S (Same.refl _) f1) s1.frm.1), by rw [c.hK]; exact (Src.ok_frm (sok' G1 S2 (Same.refl _) f2) s1.frm.1), ?_⟩⟩
    rw [c.hK]
    have hlen : ((ds.zip es).map fun z => dat K (.tuple [z.1, z.2])).length = min ds.length es.length := by rw [List.length_map, List.length_zip]
    refine q _ H1 G1 s1 ⟨fun i H' G' lt f' s' => ⟨xs, ys, Src.ok_frm (sok G' S s' f1) f'.1, Src.ok_frm (sok' G' S2 s' f2) f'.1, ?_⟩, fun H' G' f' s' => ⟨xs, ys, Src.ok_frm (sok G' S s' f1) f'.1, Src.ok_frm (sok' G' S2 s' f2) f'.1, ?_⟩, fun i H' G' v2 H2 lt f' s' y => ?_⟩
    · rw [hlen] at lt; omega
    · rw [hlen, hl, hl']
    · obtain ⟨T, x, y0, rfl, hT, rfl, hx', hy'⟩ := y
      have lt1 : i < ds.length := by rw [hlen] at lt; omega
      have lt2 : i < es.length := by rw [hlen] at lt; omega
      have hxi := hx' xs (Src.ok_frm (sok G' S s' f1) f'.1)
      have hyi := hy' ys (Src.ok_frm (sok' G' S2 s' f2) f'.1)
      obtain ⟨u, hu, du⟩ := hx.get (List.getElem?_eq_getElem lt1)
      obtain ⟨u', hu', du'⟩ := hy.get (List.getElem?_eq_getElem lt2)
      rw [hxi] at hu
      cases hu
      rw [hyi] at hu'
      cases hu'
      obtain ⟨s3, q3⟩ := new_tup (ds := [ds[i], es[i]]) f' (.cons ((Lk.same s').dat du) (.cons ((Lk.same s').dat du') .nil)) hT
      refine ⟨_, s3, dat K (.tuple [ds[i], es[i]]), ?_, q3⟩
      have e : (ds.zip es)[i]? = some (ds[i], es[i]) := List.getElem?_zip_eq_some.mpr ⟨List.getElem?_eq_getElem lt1, List.getElem?_eq_getElem lt2⟩
      rw [List.getElem?_map, e]
      rfl⟩
end
end Cs

set_option Elab.async false
set_option linter.all false
set_option autoImplicit false
set_option maxRecDepth 100000
set_option maxHeartbeats 4000000
/-! The layer, part O: sorted of data. -/
namespace Cs
open PySem PySem.Spec PyProof.Rows L2
open PySem.W (EachIs AllAlike Sortable dataLe sorted_data alike alikeAll)

section
variable {X : Cx} {pins : List (Addr × Obj)} {σ : L2.St} {H : Hp} {s : Shared} {β : Type} {enc : β → PyData}
theorem each_of {G : Hp} : ∀ {xs : List V} {us : List Value} {bs : List β}, Vals xs us → DpAll X.K G xs (bs.map enc) → EachIs (fun u b => ∃ x, RelV x u ∧ Dp X.K G x (enc b)) us bs
  | _, _, [], rv, hd => by cases hd; cases rv; exact .nil
  | _, _, b :: bs, rv, hd => by
    cases hd with
    | cons r t => cases rv with | cons rr rt => exact .cons ⟨_, rr, r⟩ (each_of rt t)
theorem of_each {G : Hp} : ∀ {us : List Value} {bs : List β}, EachIs (fun u b => ∃ x, RelV x u ∧ Dp X.K G x (enc b)) us bs → ∃ xs, Vals xs us ∧ DpAll X.K G xs (bs.map enc)
  | _, _, .nil => ⟨[], .nil, .nil⟩
  | _, _, .cons ⟨x, r, d⟩ t => by
    obtain ⟨xs, a, b⟩ := of_each t
    exact ⟨x :: xs, .cons r a, .cons d b⟩
/-- sorted(xs), xs a list of data -/
def rSortedD (K : PySem.W.Frag) (β : Type) (enc : β → PyData) (lim : Nat) : List V → Hp → VK → Prop := fun vs H Q => ∃ (a : Addr) (xs : List V) (bs : List β) (G : Hp), vs = [V.ref a] ∧ SqL K H a xs ∧ DpAll K H xs (bs.map enc) ∧ DpAll K G xs (bs.map enc) ∧ AllAlike (bs.map enc) ∧ Sortable (bs.map enc) ∧ (∀ b ∈ bs, (enc b).depth ≤ lim) ∧
  ∀ p zs, H p = none → DpAll K G zs ((bs.mergeSort (dataLe false enc)).map enc) → Q (.ref p) (upd H p (.lst zs))
theorem cr_sortedD {lim : Nat} (hu : X.A.units + 3 + lim < cLine) : CallR X (.builtin "sorted") (rSortedD X.K β enc lim) := by
  intro pins s σ H vs us Q I r h
  obtain ⟨a, xs, bs, G, rfl, hs, hd, hdG, hal, hk, hdep, q⟩ := h
  obtain ⟨its, rv, hl, hz⟩ := I.list hs
  obtain ⟨u, rfl, ru⟩ := vals1 r
  obtain rfl : u = Value.ref a := ru
  have e := each_of (X := X) rv hd
  have eG := each_of (X := X) rv hdG
  have hbl : bs.length ≤ sizeLine := by rw [← e.length, ← rv.length]; exact hz
  refine sorted_data hl.isList eG (e.mono fun u b ⟨x, r1, r2⟩ => Dp.reads I (enc b) x u r2 r1) hal hk hbl (fun b hb => by have := hdep b hb; omega) fun out ho eo => ?_
  obtain ⟨zs, rz, dz⟩ := of_each eo
  obtain ⟨n, hn⟩ := sortedAll_at s.heap its out.toArray
  have fresh : H (s.heap.objs.size + 1) = none := I.hok.fresh (Nat.le_succ _)
  refine ⟨.ref (s.heap.objs.size + 1), upd H (s.heap.objs.size + 1) (.lst zs), I.laid (t' := s.toks) (fun b o e => sortedAll_old e) (Nat.le_succ _) ⟨?_, out, n, rz, hn⟩, rfl, q _ zs fresh dz⟩
  rw [rz.length, ho]; exact hbl
end
section
variable {P : Program} {w : World} {K : PySem.W.Frag} {mg : Str → Option Value} {base : Heap} {k : Nat} {X : Cx} {W : Option Addr} {Γ : En} {pos p : Pos} {a : Expr} {β : Type} {G H H0 : Hp} {v : V}
theorem ev_sorted (bs : List β) (enc : β → PyData) (c : Cok P w K mg base k X) (hm : mg "sorted" = none) (ha : Ea X K W Γ [a] [Dt K (.list (bs.map enc))]) (hal : AllAlike (bs.map enc)) (hk : Sortable (bs.map enc)) (hdep : ∀ b ∈ bs, (enc b).depth ≤ 100) (hg : Gl X "sorted" := by rfl) (he : A1 X a := by rfl) :
    Ev X K W Γ (.Call (.Name "sorted" p) [a] [] pos) (Dt K (.list ((bs.mergeSort (dataLe false enc)).map enc))) :=
  ev_callB c (cr_sortedD (β := β) (enc := enc) (lim := 100) (by have := c.hr.un; omega)) (fun H0 G H vs f hb q Q k => by
    obtain ⟨v, rfl, q1⟩ := args1 q
    obtain ⟨l, xs, rfl, hs, hd⟩ := dt_list q1
    refine ⟨l, xs, bs, G, rfl, by rw [c.hK]; exact f.seqL hs, by rw [c.hK]; exact (Lk.same f.1).datAll hd, by rw [c.hK]; exact hd, hal, hk, hdep, fun p zs hp dz => ?_⟩
    rw [c.hK] at dz
    obtain ⟨s2, q2⟩ := new_lst f dz hp
    exact k _ _ _ s2 (q2.back hb)) hm (by decide +kernel) ha hg (he := he)
end
end Cs

set_option Elab.async false
set_option linter.all false
set_option autoImplicit false
set_option maxRecDepth 100000
set_option maxHeartbeats 4000000
/-! The layer, part P: d == {}, list(d.values()), dict([pairs]). -/
namespace Cs
open PySem PySem.Spec PyProof.Rows L2

/-! ### d == {} -/
theorem same_empty {prog : Program} {w : World} {A : Around} {E : Value → Shared → Prop} {s : Shared} {nm : String} {a b : Addr} {es : Array DictEntry} {ep ep' : Nat} {Q : Bool → Shared → Prop} (ha : (a == sysModules) = false) (hb : (b == sysModules) = false)
    (da : DT.Raw s.heap a es ep) (db : DT.Raw s.heap b #[] ep') (h : Q (es.size == 0) s) : wpAny (model prog w) A (Builtin.Dict.samePairs nm a b) Q E s := by
  obtain ⟨oa, hoa, _, hda⟩ := da
  obtain ⟨ob, hob, _, hdb⟩ := db
  unfold Builtin.Dict.samePairs Builtin.Dict.showsAll
  rw [if_neg (show ¬ (a == sysModules) = true by rw [ha]; exact Bool.false_ne_true), if_neg (show ¬ (b == sysModules) = true by rw [hb]; exact Bool.false_ne_true)]
  refine wpAny_bind (wpAny_pure (wpAny_bind (wpAny_pure ?_)))
  refine wpAny_bind (wpAny_dictEntries hoa hda ?_)
  dsimp only
  refine wpAny_bind (wpAny_dictEntries hob hdb ?_)
  by_cases hsz : es.size = 0
  case neg =>
    rw [if_pos (by simpa using hsz)]
    have hbf : (es.size == 0) = false := by simpa using hsz
    rw [hbf] at h
    exact wpAny_bind (wpAny_rule (wpAny_pure h))
  case pos =>
    rw [if_neg (by rw [hsz]; simp)]
    refine wpAny_bind (wpAny_dictEpoch hoa hda ?_)
    refine wpAny_bind ?_
    rw [Std.Legacy.Range.forIn_eq_forIn_range']
    simp only [Std.Legacy.Range.size, Nat.sub_zero, Nat.add_sub_cancel, Nat.div_one, hsz, List.range'_zero, List.forIn_nil]
    refine wpAny_pure ?_
    have hbf : (es.size == 0) = true := by simpa using hsz
    rw [hbf] at h
    exact wpAny_pure h
theorem eq_empty {prog : Program} {w : World} {A : Around} {E : Value → Shared → Prop} {s : Shared} {a b : Addr} {es : Array DictEntry} {ep ep' : Nat} {Q : Value → Shared → Prop} (ha : (a == sysModules) = false) (hb : (b == sysModules) = false)
    (da : DT.Raw s.heap a es ep) (db : DT.Raw s.heap b #[] ep') (hu : A.units < cLine) (h : Q (.bool (es.size == 0)) s) :
    wpAny (model prog w) A (compareOp .Eq (.ref a) (.ref b)) Q E s := by
  refine wpAny_richCompare_same_room (op := .Eq) da.typeIs db.typeIs PySem.F.slot_dict_eq (wpAny_call_entry PySem.F.slot_dict_eq da.typeIs PySem.F.entry_dict_eq ?_ (PySem.F.args_dict_eq_2 _ _)) hu
  show wpAny _ _ (Builtin.Dict.dictSlotArgs "__eq__" ⟨[.ref a, .ref b], []⟩ >>= _) _ _ s
  refine wpAny_bind ?_
  unfold Builtin.Dict.dictSlotArgs
  refine wpAny_bind (wpAny_notOrdered_dict da.typeIs ?_)
  show wpAny _ _ (pure (Value.ref a, Value.ref b)) _ _ s
  refine wpAny_pure ?_
  refine wpAny_bind (wpAny_isInstance (T := "dict") db.typeIs PySem.F.sub_dict_dict ?_)
  simp only [Bool.not_true, Bool.false_eq_true, if_false]
  refine wpAny_bind (wpAny_pure (wpAny_bind (wpAny_pure ?_)))
  refine wpAny_bind (same_empty ha hb da db ?_)
  refine wpAny_pure ⟨_, rfl, ?_, ?_⟩
  · exact fun x => nomatch x
  · simpa using h
theorem raw_of {P : Program} {w : World} {H : Hp} {h : Heap} {d : Addr} {kvs : List (List L2.Key × V)} (ok : HOk P w H h) (e : Rd H d (.dT kvs)) : (d == sysModules) = false ∧ ∃ es ep, DT.Raw h d es ep ∧ es.size = kvs.length := by
  obtain ⟨z, hs, xs, pr, o, es, ep, ho, hx, hdt, he, _⟩ := (show ObjOk P w H h d (.dT kvs) from e.ok ok)
  refine ⟨hs, es, ep, ⟨o, ho, hx, hdt⟩, ?_⟩
  have l1 : es.size = xs.length := size_of_entries he
  have l2 : kvs.length = xs.length := Paired.length pr
  omega
theorem op_eqE {X : Cx} (hu : X.A.units < cLine) : OpR X (compareOp .Eq) (fun x y H Q => ∃ a b kvs, x = .ref a ∧ y = .ref b ∧ Rd H a (.dT kvs) ∧ H b = some (.dT []) ∧ Q (.bl kvs.isEmpty) H) := by
  intro pins s σ H x y v u Q I rx ry h
  obtain ⟨a, b, kvs, rfl, rfl, ea, eb, q⟩ := h
  cases rx
  cases ry
  obtain ⟨ha, es, ep, ra, la⟩ := raw_of I.hok ea
  obtain ⟨hb, es', ep', rb, lb⟩ := raw_of I.hok (.inl eb)
  have e' : es' = #[] := Array.eq_empty_of_size_eq_zero (by simpa using lb)
  subst e'
  refine eq_empty ha hb ra rb hu ⟨.bl kvs.isEmpty, H, I, ?_, q⟩
  have e : (es.size == 0) = kvs.isEmpty := by rw [la]; cases kvs <;> rfl
  rw [e]
  exact rfl
section
variable {P : Program} {w : World} {K : PySem.W.Frag} {mg : Str → Option Value} {base : Heap} {k : Nat} {X : Cx} {W : Option Addr} {Γ : En} {pos p apos cpos p2 : Pos} {a : Expr} {G H H0 : Hp} {v : V} {ps : List (Spot × V)}
theorem rd_eqE : RdO K W (fun x y H Q => ∃ a b kvs, x = .ref a ∧ y = .ref b ∧ Rd H a (.dT kvs) ∧ H b = some (.dT []) ∧ Q (.bl kvs.isEmpty) H) (.fro (dctT ps)) (.own (dctO [])) (Dt K (.bool ps.isEmpty)) := fun H0 G H x y f hb q1 q2 Q k => by
  obtain ⟨d, ob, rfl, e⟩ := up.now q1
  obtain ⟨b, ho, rfl, b0, gb, hb', nb, qb⟩ := q2
  have eho : ho = .dT (kv2 []) := qb _ (Lk.refl _)
  subst eho
  refine ⟨d, b, kv2 ps, rfl, rfl, .inr ⟨ob, f.1 _ _ e⟩, hb', k _ H G (Step.refl f) (dt_of ?_)⟩
  have z : (kv2 ps).isEmpty = ps.isEmpty := by cases ps <;> rfl
  rw [z]
  exact .bl _
theorem tst_eqE (c : Cok P w K mg base k X) (h : Ev X K W Γ a (.fro (dctT ps))) : Tst X K W Γ (.Compare a [.Eq] [.Dict [] [] p2] pos) (fun b => b = ps.isEmpty) :=
  tst_cmp1 (op_eqE (by have := c.hr.un; omega)) rd_eqE h ev_dnew
end

/-! ### list(d.values()) -/
theorem meetsValues {prog : Program} {w : World} {d : Addr} {es : Array DictEntry} {ep : Nat} (hd : (d == sysModules) = false) :
    MeetsIn prog w (Builtin.«dict.values» ⟨[.ref d], []⟩) (fun _ R s => DT.Raw s.heap d es ep ∧
      R (.ok (.ret (.ref s.heap.objs.size))) { s with heap := s.heap.push { cls := .type "dict_values", data := .fields #[.ref d] } }) :=
  .of_wp fun A R s ⟨hm, h⟩ => by
    unfold Builtin.«dict.values»
    refine wpAny_bind ?_
    unfold Builtin.Dict.noArgs
    refine wpAny_bind (wpAny_notOrdered_dict hm.typeIs ?_)
    show wpAny _ _ (pure d) _ _ s
    refine wpAny_pure ?_
    show wpAny _ _ (Builtin.Dict.showsAll d >>= _) _ _ s
    unfold Builtin.Dict.showsAll
    rw [if_neg (by rw [hd]; exact Bool.false_ne_true)]
    refine wpAny_bind (wpAny_pure ?_)
    exact wpAny_bind (wpAny_newObj_type (wpAny_pure ⟨_, rfl, h⟩))
def valsO (p d : Addr) : HO := .ext fun h => h.IsValuesView p d
theorem valsO_ok {P : Program} {w : World} {H : Hp} {h : Heap} {p d : Addr} (e : h.get? p = some { cls := .type "dict_values", data := .fields #[.ref d] }) : ObjOk P w H h p (valsO p d) :=
  ⟨⟨_, e, rfl, rfl⟩, ⟨_, e⟩, fun h1 h2 x k => let ⟨o, ho, r⟩ := x; ⟨o, k o ho, r⟩⟩
def tVals (td : TE) : TE := fun σ H Q => td σ H fun x H1 => ∃ d kvs, x = .ref d ∧ Rd H1 d (.dT kvs) ∧ ∀ p, H1 p = none → Q (.ref p) (upd H1 p (valsO p d))
theorem pe_values {X : Cx} {e : Expr} {td : TE} {apos cpos : Pos} (he : PE X e td) (hbase : attributeBase e "values" X.env (eval e X.env) = eval e X.env := by rfl) (hline : (apos.endLine == cpos.line) = true := by rfl) :
    PE X (.Call (.Attribute e "values" apos) [] [] cpos) (tVals td) := by
  refine ⟨fun pins s σ H Q I h => ?_⟩
  refine wpAny_Call_method (T := "dict") (id := "dict.values") hbase rfl hline PySem.F.plainAttrs_dict PySem.F.slot_dict_values PySem.F.type_dict_values (thn (he.run pins s σ H _ I h) fun u s1 ⟨x, H1, I1, rx, d, kvs, ex, hd, q⟩ => ?_)
  subst ex
  obtain rfl : u = Value.ref d := rx
  obtain ⟨hs, es, ep, raw, hsz⟩ := raw_of I1.hok hd
  refine ⟨raw.typeIs, (isD_at I1 (.inr ⟨kvs, hd⟩)).2.1, ?_⟩
  show wpAny _ _ (callWith cpos (.builtin "dict.values") [.ref d] [] []) _ X.xe s1
  refine method_meetsIn PySem.F.slot_dict_values PySem.F.entry_dict_values rfl (PySem.evalArgs_none ⟨rfl, raw.typeIs, PySem.F.args_dict_values_1 _, _, meetsValues (es := es) (ep := ep) hs, ⟨raw, ?_⟩⟩)
  have hf : H1 s1.heap.objs.size = none := I1.hok.fresh (Nat.le_refl _)
  exact ⟨.ref s1.heap.objs.size, upd H1 s1.heap.objs.size (valsO s1.heap.objs.size d), I1.laid (t' := s1.toks) (fun b u e => Heap.get?_push_of_some _ e) (Nat.le_refl _) (valsO_ok (Heap.get?_push_size _ rfl)), rfl, q _ hf⟩
theorem call_list_vals {X : Cx} (hc : X.calm = true) : CallR X (.type "list") (fun xs H Q => ∃ r d kvs, xs = [V.ref r] ∧ H r = some (valsO r d) ∧ Rd H d (.dT kvs) ∧ ∀ p, H p = none → Q (.ref p) (upd H p (.lst (kvs.map (·.2))))) := by
  intro pins s σ H xs us Q I rr h
  obtain ⟨r, d, kvs, rfl, hr, hd, q⟩ := h
  obtain ⟨u, rfl, rx⟩ := rr.one
  cases rx
  have view : s.heap.IsValuesView r d := (show ObjOk X.prog X.w H s.heap r (valsO r d) from I.hok r _ hr).1
  obtain ⟨z, hs, ks, pr, o, es, ep, ho, hx, hdt, he, hn⟩ := (show ObjOk X.prog X.w H s.heap d (.dT kvs) from hd.ok I.hok)
  have l1 : es.size = ks.length := size_of_entries he
  have l2 : kvs.length = ks.length := Paired.length pr
  refine PySem.W.kdl_call (PySem.KdlSrc.rawValues (es := es) (ep := ep)) (I.ok.hd hc) ⟨view, ⟨o, ho, hx, hdt⟩⟩ (by omega) fun h' tk acc' c' kp e it => ?_
  have hl : acc'.toList.length = ks.length := by rw [Array.length_toList, it.1]; exact l1
  have rv : Vals (kvs.map (·.2)) acc'.toList := by
    refine vals_of_at (by rw [List.length_map, hl]; exact l2) fun j x w h1 h2 => ?_
    obtain ⟨hi, hv⟩ := it.2 j w (by rw [← Array.getElem?_toList]; exact h2)
    rw [List.getElem?_map] at h1
    cases hk : kvs[j]? with
    | none => rw [hk] at h1; cases h1
    | some kv =>
      rw [hk] at h1
      cases h1
      obtain ⟨b, hb, e1, e2, e3⟩ := paired_get pr hk
      have q' := entry_at he j
      rw [hb, Array.getElem?_eq_getElem hi] at q'
      have ee : es[j] = entryOfKey (tupleKind (mixKind X.prog X.w)) b := Option.some.inj q'
      rw [hv, ee]
      exact e3
  refine ⟨.ref s.heap.objs.size, _, I.laid (t' := tk) (o := .lst (kvs.map (·.2))) kp (Nat.le_refl _) ⟨by rw [List.length_map]; exact z, acc'.toList, c', rv, by rw [Array.toArray_toList]; exact e⟩, rfl, q _ (I.hok.fresh (Nat.le_refl _))⟩
end Cs

set_option Elab.async false
set_option linter.all false
set_option autoImplicit false
set_option maxRecDepth 100000
set_option maxHeartbeats 4000000
/-! The layer, part Q: list(d.values()), lists of things of several kinds, dict([((x, y), sign), ..]). -/
namespace Cs
open PySem PySem.Spec PyProof.Rows L2
section
variable {P : Program} {w : World} {K : PySem.W.Frag} {mg : Str → Option Value} {base : Heap} {k : Nat} {X : Cx} {W : Option Addr} {Γ Γ' : En} {pos p apos cpos p2 : Pos} {a : Expr} {G H H0 : Hp} {v : V} {c0 : Cells} {tg iter : Expr} {js : List Nat}
theorem up_all {α : Type} {f : α → V} {g : α → PyData} (h : ∀ (G : Hp) y, Dp K G (f y) (g y)) : ∀ (G : Hp) (xs : List α), DpAll K G (xs.map f) (xs.map g)
  | _, [] => .nil
  | G, y :: r => .cons (h G y) (up_all h G r)
/-- list(d.values()) -/
theorem ev_listVals (c : Cok P w K mg base k X) (hm : mg "list" = none) (ha : Ev X K W Γ a (.fro (dctT (sgs c0)))) (hg : Gl X "list" := by rfl) (hbase : attributeBase a "values" X.env (eval a X.env) = eval a X.env := by rfl) (hline : (apos.endLine == cpos.line) = true := by rfl)
    (he : starEach [.Call (.Attribute a "values" apos) [] [] cpos] X.env = (false, eval (.Call (.Attribute a "values" apos) [] [] cpos) X.env) :: starEach [] X.env := by rfl) (hn : ("list" : Str) ≠ "__name__" := by decide) (hdb : (("list" : Str) == ("__debug__" : Str)) = false := by decide) :
    Ev X K W Γ (.Call (.Name "list" p) [.Call (.Attribute a "values" apos) [] [] cpos] [] pos) (Dt K (.list (c0.map fun z => sgn z.2))) := by
  have h := pe_callTy (p := p) (pos := pos) (call_list_vals c.hc) hg (by rw [c.hmg]; exact hm) (by decide +kernel) (pa_cons (pe_values ha hbase hline) pa_nil he) hn hdb he rfl
  refine peI h fun σ H Q ⟨H0, G, f, en, k⟩ => ⟨H0, G, f, en, fun v H1 G1 s1 q1 => ?_⟩
  obtain ⟨d, ob, rfl, e⟩ := up.now q1
  have hd := s1.frm.1 _ _ e
  refine ⟨d, kv2 (sgs c0), rfl, .inr ⟨ob, hd⟩, fun r hr => ?_⟩
  have st := s1.trans (Step.lay (o := valsO r d) s1.frm hr)
  have nd : d ≠ r := fun z => by rw [z, hr] at hd; cases hd
  refine ⟨r, d, kv2 (sgs c0), rfl, upd_same, .inr ⟨ob, by rw [upd_ne nd]; exact hd⟩, fun l hl => ?_⟩
  have e2 : (kv2 (sgs c0)).map (·.2) = c0.map fun z => sgV z.2 := by unfold kv2 sgs; rw [List.map_map, List.map_map]; rfl
  rw [e2]
  obtain ⟨s3, q3⟩ := new_lst (ds := c0.map fun z => sgn z.2) st.frm (up_all (fun _ z => .str _) _ c0) hl
  exact k _ _ _ (st.trans s3) (q3.back fun a z => st.free z)

/-! ### lists of things of several kinds -/
def lstOT (ts : List T) : OwnP := fun _ G o => ∃ vs, o = .lst vs ∧ TsOk G vs ts
theorem TsOk.append {G : Hp} : ∀ {vs us : List V} {ts ss : List T}, TsOk G vs ts → TsOk G us ss → TsOk G (vs ++ us) (ts ++ ss)
  | [], _, [], _, _, h => h
  | _ :: _, _, _ :: _, _, h, h' => ⟨h.1, TsOk.append h.2 h'⟩
  | [], _, _ :: _, _, h, _ => h.elim
  | _ :: _, _, [], _, h, _ => h.elim
theorem lcT_run {α : Type} {own : List (Str × Nat)} {xs : List α} {enc : α → T} {Jt : α → En} {f : α → T} (js2 : ∀ j ∈ js, j ∈ own.map (·.2)) (hz : xs.length ≤ 16777000) {σ : L2.St} {H : Hp} {Q : VK} (h : cE K W Γ (.own (lstOT (xs.map f))) σ H Q) :
    tLc (cI K W Γ (xs.map enc)) (fun v σ H Q => ∃ y : α, y ∈ xs ∧ cG K W (wipeE Γ (own.map (·.2))) (enc y) (Jt y) js v σ H Q) (fun σ H Q => ∃ y : α, y ∈ xs ∧ cT K W (Jt y) (fun b => b = true) σ H Q)
      (fun σ H Q => ∃ y : α, y ∈ xs ∧ cE K W (Jt y) (.fro (f y)) σ H Q) (own.map (·.2)) σ H Q := by
  obtain ⟨H0, G, fr, en, kk⟩ := h
  refine ⟨H0, G, fr, en, fun It H1 G1 s1 gv D hD => ?_⟩
  let Pw : Nat → Hp → Prop := fun i H' => ∃ G' vs, Step K W G1 H1 G' H' ∧ G' D = none ∧ H' D = some (.lst vs) ∧ TsOk G' vs ((xs.take i).map f)
  have nD : W ≠ some D := s1.frm.neB hD
  have freeD : ∀ {G' G'' H' H'' : Hp}, Step K W G' H' G'' H'' → G' D = none → (∃ o, H' D = some (.lst o)) → G'' D = none := fun {G' G'' H' H''} s g ⟨o, e⟩ => by
    cases q : G'' D with
    | none => rfl
    | some u =>
      rcases s.new D u g q with z | ⟨xs, z⟩
      · rw [e] at z
        cases z
      · rw [e] at z
        cases z
  refine ⟨fun i m H' => m = xs.length - i ∧ i ≤ xs.length ∧ Pw i H', ⟨xs.length, by simp, Nat.zero_le _, G1, [], Step.mine s1.frm hD, s1.frm.free hD, upd_same, trivial⟩, ?_⟩
  rintro i m H' ⟨rfl, hi, G', vs, s, gD, eD, rD⟩
  by_cases lt : i < xs.length
  · refine .inr ⟨gv.goes i H' G' (by rw [List.length_map]; exact lt) s.frm s.gro, Pw (i + 1), fun H2 p' => ⟨xs.length - (i + 1), by omega, rfl, lt, p'⟩, fun v H2 y => ?_⟩
    obtain ⟨G2, s2, t, e, q⟩ := gv.yields i H' G' v H2 (by rw [List.length_map]; exact lt) s.frm s.gro y
    rw [List.getElem?_map, List.getElem?_eq_getElem lt] at e
    cases e
    have my : xs[i] ∈ xs := List.getElem_mem lt
    obtain ⟨e1, e2⟩ := split_at (List.getElem?_eq_getElem lt)
    refine ⟨xs[i], my, H0, G2, s2.frm, ((en.step s1).step (s.trans s2)).wipe _, q, fun σ2 en2 on2 => ⟨?_, xs[i], my, H0, G2, s2.frm, en2, fun b H3 G3 s3 hb => ?_⟩⟩
    · rw [on2.wipe js2, wipe_wipe]
    · have eD3 : ∃ o, H' D = some (.lst o) := ⟨_, eD⟩
      subst hb
      refine iteT ⟨xs[i], my, H0, G3, s3.frm, en2.step s3, fun u H4 G4 s4 q4 => ?_⟩
      have s24 := (s2.trans s3).trans s4
      have gD4 := freeD s24 gD eD3
      have eD4 := s24.keep D _ eD nD
      have lv : vs.length ≤ i := by have := rD.length; rw [List.length_map, List.length_take] at this; omega
      refine ⟨vs, eD4, by have : sizeLine = 16777216 := sizeLine_eq; omega, G4, vs ++ [u], (s.trans s24).chg hD gD4 nD, gD4, upd_same, ?_⟩
      rw [e2, List.map_append]
      exact (rD.lk (Lk.same s24.gro)).append ⟨q4, trivial⟩
  · have e : i = xs.length := by omega
    subst e
    rw [List.take_length] at rD
    refine .inl ⟨?_, kk _ H' G' (s1.trans s) ⟨D, _, rfl, s1.free hD, gD, eD, ⟨nD, True.intro⟩, fun G2 l => ⟨vs, rfl, rD.lk l⟩⟩⟩
    have := gv.stops H' G' s.frm s.gro
    rw [List.length_map] at this
    exact this
/-- [f y for y in xs], the items of any kind -/
theorem lc_mapT {α : Type} {elt : Expr} {scope : Scope} {own : List (Str × Nat)} (xs : List α) (enc : α → T) (f : α → T) {Jt : α → En} (hi : PI X tg iter (cI K W Γ (xs.map enc))) (ok : BlkOk X.N X.env.scope scope own)
    (hg : ∀ y ∈ xs, ∀ s H C cl fp, PG (Blk X scope s H C cl fp) tg (cG K W (wipeE Γ (own.map (·.2))) (enc y) (Jt y) js)) (he : ∀ y ∈ xs, ∀ s H C cl fp, Ev (Blk X scope s H C cl fp) K W (Jt y) elt (.fro (f y)))
    (js2 : ∀ j ∈ js, j ∈ own.map (·.2)) (hz : xs.length ≤ 16777000) : LcOk X K W Γ elt tg iter [] scope own (.own (lstOT (xs.map f))) :=
  ⟨_, _, _, _, hi, ok, fun s H C cl fp => pg_ex (fun y => y ∈ xs) fun y hy => hg y hy s H C cl fp, fun s H C cl fp => pts_ex (fun y => y ∈ xs) fun y hy => tsts_nil, fun s H C cl fp => pe_ex (fun y => y ∈ xs) fun y hy => he y hy s H C cl fp,
    fun σ H Q h => lcT_run js2 hz h⟩

/-! ### dict([((x, y), sign), ..]) -/
/-- a pair of a key and a sign -/
theorem pairs_of {pins : List (Addr × Obj)} {σ : L2.St} {s : Shared} (I : Inv X pins σ H s) (hK : X.K = K) (sm : Same G H) : ∀ {xs : List V} {c0 : Cells}, TsOk G xs (c0.map (itemT K)) →
    ∃ (ts : List Addr) (ps : List (List L2.Key × Addr × Value)), xs = ts.map V.ref ∧ ts.length = c0.length ∧ ps.length = c0.length ∧ KT H (kv2 (sgs c0)) ps ∧ (∀ (j : Nat) (t : Addr) (p : List L2.Key × Addr × Value), ts[j]? = some t → ps[j]? = some p → s.heap.IsTuple t #[.ref p.2.1, p.2.2]) ∧ ∀ p ∈ ps, (tupleKind (mixKind X.prog X.w)).is s.heap p.1 p.2.1
  | [], [], _ => ⟨[], [], rfl, rfl, rfl, .nil, fun j t p e => by simp at e, fun p hp => nomatch hp⟩
  | x :: xs, z :: c0, h => by
    obtain ⟨ts, ps, h1, h2, h3, h4, h5, h6⟩ := pairs_of I hK sm h.2
    obtain ⟨t, ys, rfl, hs, hy⟩ := up.now h.1
    match ys, hy with
    | [a1, a2], hy =>
      obtain ⟨kp, rfl, hk⟩ := up.now hy.1
      have ea : a2 = sgV z.2 := by cases (up.now hy.2.1 : Dp K G a2 (sgn z.2)); rfl
      subst ea
      have hkH := sm _ _ hk
      have hsH : SqT X.K H t [.ref kp, sgV z.2] := by rw [hK]; exact (Lk.same sm).tup hs
      obtain ⟨its, rv, pl, _⟩ := I.tuple hsH
      obtain ⟨u1, u2, rfl, r1, r2⟩ := vals2 rv
      cases r1
      refine ⟨t :: ts, (key2 z.1, kp, u2) :: ps, by rw [h1]; rfl, by simp [h2], by simp [h3], .cons ⟨rfl, hkH, r2⟩ h4, fun j t' p e1 e2 => ?_, fun p hp => ?_⟩
      · cases j with
        | zero => simp at e1 e2; subst e1 e2; exact pl
        | succ j => exact h5 j t' p (by simpa using e1) (by simpa using e2)
      · rcases List.mem_cons.mp hp with rfl | hp
        · exact key_of I.hok hkH
        · exact h6 p hp
    | [], hy => exact hy.elim
    | [_], hy => exact hy.2.elim
    | _ :: _ :: _ :: _, hy => exact hy.2.2.elim
  | [], _ :: _, h => h.elim
  | _ :: _, [], h => h.elim
theorem KT_all {H : Hp} : ∀ {more : List (List L2.Key × V)} {ps : List (List L2.Key × Addr × Value)} {kvs : List (List L2.Key × V)} {xs : List (List L2.Key × Addr × Value)}, KT H more ps → KT H kvs xs → KT H (more.foldl (fun acc q => putK acc q.1 q.2) kvs) (storedAllH xs ps)
  | [], _, _, _, .nil, h => h
  | _ :: _, _ :: _, _, _, .cons hq t, h => by
    obtain ⟨e, hb, r⟩ := hq
    have h' := h.put (k := _) hb r
    rw [e] at h'
    show KT _ (List.foldl _ (putK _ _ _) _) (storedAllH (storedH _ _ _ _) _)
    rw [e]
    exact KT_all t h'
def dictO (c0 : Cells) : List (List L2.Key × V) := (kv2 (sgs c0)).foldl (fun acc q => putK acc q.1 q.2) []
theorem call_dict_cells (hc : X.calm = true) (hu : X.A.units + 5 < cLine) (hK : X.K = K) : CallR X (.type "dict") (fun vs H Q => ∃ (l : Addr) (xs : List V) (G : Hp) (c0 : Cells), vs = [V.ref l] ∧ SqL K H l xs ∧ Same G H ∧ TsOk G xs (c0.map (itemT K)) ∧ ∀ p, H p = none → Q (.ref p) (upd H p (.dT (dictO c0)))) := by
  intro pins s σ H vs us Q I rr h
  obtain ⟨l, xs, G, c0, rfl, hs, sm, hts, q⟩ := h
  obtain ⟨u, rfl, rx⟩ := rr.one
  cases rx
  rw [← hK] at hs
  obtain ⟨its, rv, ⟨o, n, ho, hcl, hdn, hdt⟩, hz⟩ := I.list hs
  obtain ⟨ts, ps, e1, l1, l2, kt, tup, kis⟩ := pairs_of I hK sm hts
  subst e1
  have eits : its = ts.map Value.ref := by
    have key : ∀ (ts : List Addr) (its : List Value), Vals (ts.map V.ref) its → its = ts.map Value.ref := by
      intro ts
      induction ts with
      | nil => intro its h; cases h; rfl
      | cons t r ih => intro its h; cases h with | cons a b => cases a; rw [ih _ b]; rfl
    exact key ts its rv
  subst eits
  let prs : List (Value × Value) := ps.map fun p => (.ref p.2.1, p.2.2)
  have lp : prs.length = ps.length := List.length_map _
  have PI0 : PairItems s.heap (ts.map Value.ref).toArray (fun j => ts.getD j 0) prs := by
    refine ⟨by rw [List.size_toArray, List.length_map, lp, l1, l2], fun j k v hj => ?_⟩
    rw [List.getElem?_map] at hj
    cases hp : ps[j]? with
    | none => rw [hp] at hj; cases hj
    | some p =>
      rw [hp] at hj
      cases hj
      have lt : j < ts.length := by rw [l1, ← l2]; exact (List.getElem?_eq_some_iff.mp hp).1
      have ht : ts[j]? = some ts[j] := List.getElem?_eq_getElem lt
      have eg : ts.getD j 0 = ts[j] := by rw [List.getD_eq_getElem?_getD, ht]; rfl
      refine ⟨?_, .inl ?_⟩
      · show (List.map Value.ref ts).toArray[j]? = some (Value.ref (ts.getD j 0))
        rw [eg]
        simp [lt]
      · show s.heap.IsTuple (ts.getD j 0) _
        rw [eg]
        exact tup j _ p ht hp
  have hn : prs.length ≤ sizeLine := by rw [lp, l2, ← l1]; rw [List.length_map] at hz; exact hz
  refine call_dict_pairsH (knd := tupleKind (mixKind X.prog X.w)) (ps := ps) (PairArg.list l (ts.map Value.ref).toArray (fun j => ts.getD j 0) prs) (I.ok.hd hc) (show X.A.units + 2 < cLine by omega) ⟨⟨o, n, ho, hcl, hdn, hdt⟩, PI0⟩ ⟨lp.symm, fun i key v hi => ?_⟩ (fun h' hk x hx => ?_) hn fun h' tk dd hk => ?_
  · have hi' : prs[i]? = some (key, v) := hi
    rw [List.getElem?_map] at hi'
    cases hp : ps[i]? with
    | none => rw [hp] at hi'; cases hi'
    | some p => rw [hp] at hi'; cases hi'; exact ⟨p.1, p.2.1, rfl, rfl⟩
  · obtain ⟨o1, it1, n1, g1, g2, g3, g4⟩ := kis x hx
    exact ⟨o1, it1, n1, hk _ _ (Nat.ne_of_lt (Heap.lt_size g1)) (fun z => nomatch z) g1, g2, g3, g4⟩
  · have kt2 := KT_all (kvs := []) (xs := []) kt .nil
    obtain ⟨q1, es, ep, g1, g2, g3, g4, _, g5⟩ := dd
    have hf : H s.heap.objs.size = none := I.hok.fresh (Nat.le_refl _)
    have lz : (dictO c0).length ≤ sizeLine := by
      have := storedAllH_length ps []
      have e2 : (dictO c0).length = (storedAllH [] ps).length := Paired.length kt2
      rw [e2]
      simp only [List.length_nil, Nat.zero_add] at this
      omega
    refine ⟨.ref s.heap.objs.size, _, I.laid (t' := tk) (o := .dT (dictO c0)) (fun b o e => hk b o (fun z => nomatch z) e) (Nat.le_refl _) ⟨lz, beq_eq_false_iff_ne.mpr (Ne.symm (Nat.ne_of_lt I.big)), _, kt2.keeps fun b ys e => ?_, q1, es, ep, g1, g2, g3, g4, g5⟩, rfl, q _ hf⟩
    rw [upd_ne (fun z => by rw [z, hf] at e; cases e)]
    exact e
theorem ev_dictPairs (c : Cok P w K mg base k X) (hm : mg "dict" = none) (ha : Ea X K W Γ [a] [.fro (lstT K (c0.map (itemT K)))]) (hg : Gl X "dict" := by rfl) (he : A1 X a := by rfl) :
    Ev X K W Γ (.Call (.Name "dict" p) [a] [] pos) (.own (dctO (c0.foldl (fun acc q => putK acc q.1 (sgV q.2)) []))) :=
  ev_callT c (call_dict_cells (K := K) c.hc (by have := c.hr.un; omega) c.hK) (fun H0 G H vs f hb q Q k => by
    obtain ⟨v, rfl, q1⟩ := args1 q
    obtain ⟨l, xs, rfl, hs, hts⟩ := up.now q1
    refine ⟨l, xs, G, c0, rfl, f.seqL hs, f.1, hts, fun p hp => k _ _ _ (Step.mine f hp) ⟨p, _, rfl, hb _ hp, f.free hp, upd_same, ⟨f.neB hp, True.intro⟩, fun _ _ => ?_⟩⟩
    show HO.dT _ = HO.dT _
    congr 1
    have key : ∀ (c0 : Cells) (acc : List (Spot × V)), (kv2 (sgs c0)).foldl (fun acc q => putK acc q.1 q.2) (kv2 acc) = kv2 (c0.foldl (fun acc q => putK acc q.1 (sgV q.2)) acc) := by
      intro c0
      induction c0 with
      | nil => intro acc; rfl
      | cons z r ih =>
        intro acc
        show List.foldl _ (putK (kv2 acc) (key2 z.1) (sgV z.2)) (kv2 (sgs r)) = _
        rw [kv2_put, ih]
        rfl
    exact key c0 []) hm (by decide +kernel) ha hg (he := he)
end
end Cs

set_option Elab.async false
set_option linter.all false
set_option autoImplicit false
set_option maxRecDepth 100000
set_option maxHeartbeats 4000000
/-! The layer, part R: dicts with text keys, as records. -/
namespace Cs
open PySem PySem.Spec PyProof.Rows L2
abbrev Flds := List (Str × T)
def FlOk (G : Hp) : List (L2.Key × V) → Flds → Prop
  | [], [] => True
  | kv :: kvs, f :: fl => kv.1 = .inr f.1 ∧ up f.2 G kv.2 ∧ FlOk G kvs fl
  | _, _ => False
theorem FlOk.lk {G G' : Hp} (l : Lk G G') : ∀ {kvs : List (L2.Key × V)} {fl : Flds}, FlOk G kvs fl → FlOk G' kvs fl
  | [], [], _ => trivial
  | _ :: _, _ :: _, h => ⟨h.1, h.2.1.lk l, FlOk.lk l h.2.2⟩
  | [], _ :: _, h => h.elim
  | _ :: _, [], h => h.elim
theorem FlOk.length {G : Hp} : ∀ {kvs : List (L2.Key × V)} {fl : Flds}, FlOk G kvs fl → kvs.length = fl.length
  | [], [], _ => rfl
  | _ :: _, _ :: _, h => congrArg Nat.succ (FlOk.length h.2.2)
  | [], _ :: _, h => h.elim
  | _ :: _, [], h => h.elim
theorem FlOk.get {G : Hp} {f : Str} {t : T} : ∀ {kvs : List (L2.Key × V)} {fl : Flds}, FlOk G kvs fl → fl.lookup f = some t → ∃ u, valV kvs (.inr f) = some u ∧ up t G u
  | [], [], _, e => by cases e
  | kv :: kvs, g :: fl, h, e => by
    obtain ⟨g1, g2⟩ := g
    by_cases z : f = g1
    · subst z
      rw [List.lookup_cons_self] at e
      cases e
      exact ⟨kv.2, valV_pos h.1, h.2.1⟩
    · have e' : fl.lookup f = some t := by
        rw [List.lookup_cons, show (f == g1) = false from beq_eq_false_iff_ne.mpr z] at e
        exact e
      obtain ⟨u, a, b⟩ := FlOk.get h.2.2 e'
      refine ⟨u, ?_, b⟩
      rw [valV_neg (by rw [h.1]; exact fun y => z (Sum.inr.inj y).symm)]
      exact a
  | [], _ :: _, h, _ => h.elim
  | _ :: _, [], h, _ => h.elim
theorem FlOk.noneF {G : Hp} {f : Str} : ∀ {kvs : List (L2.Key × V)} {fl : Flds}, FlOk G kvs fl → fl.lookup f = none → valV kvs (.inr f) = none
  | [], [], _, e => rfl
  | kv :: kvs, g :: fl, h, e => by
    obtain ⟨g1, g2⟩ := g
    by_cases z : f = g1
    · subst z
      rw [List.lookup_cons_self] at e
      cases e
    · have e' : fl.lookup f = none := by
        rw [List.lookup_cons, show (f == g1) = false from beq_eq_false_iff_ne.mpr z] at e
        exact e
      rw [valV_neg (by rw [h.1]; exact fun y => z (Sum.inr.inj y).symm)]
      exact FlOk.noneF h.2.2 e'
  | [], _ :: _, h, _ => h.elim
  | _ :: _, [], h, _ => h.elim
def putF (fl : Flds) (f : Str) (t : T) : Flds := if fl.any (fun g => decide (g.1 = f)) then fl.map (fun g => if g.1 = f then (g.1, t) else g) else fl ++ [(f, t)]
theorem FlOk.any {G : Hp} {f : Str} : ∀ {kvs : List (L2.Key × V)} {fl : Flds}, FlOk G kvs fl → (kvs.any fun kv => decide (kv.1 = (.inr f : L2.Key))) = fl.any fun g => decide (g.1 = f)
  | [], [], _ => rfl
  | kv :: kvs, g :: fl, h => by
    rw [List.any_cons, List.any_cons, FlOk.any h.2.2]
    congr 1
    rw [h.1]
    exact decide_eq_decide.mpr ⟨fun e => Sum.inr.inj e, fun e => by rw [e]⟩
  | [], _ :: _, h => h.elim
  | _ :: _, [], h => h.elim
theorem FlOk.repl {G : Hp} {f : Str} {t : T} {v : V} (hv : up t G v) : ∀ {kvs : List (L2.Key × V)} {fl : Flds}, FlOk G kvs fl → FlOk G (kvs.map fun kv => if kv.1 = .inr f then (kv.1, v) else kv) (fl.map fun g => if g.1 = f then (g.1, t) else g)
  | [], [], _ => trivial
  | kv :: kvs, g :: fl, h => by
    refine ⟨?_, ?_, FlOk.repl hv h.2.2⟩
    · show (if kv.1 = .inr f then (kv.1, v) else kv).1 = .inr (if g.1 = f then (g.1, t) else g).1
      rw [h.1]
      by_cases z : g.1 = f
      · rw [if_pos (by rw [z]), if_pos z]
      · rw [if_neg (fun e => z (Sum.inr.inj e)), if_neg z]; exact h.1
    · show up (if g.1 = f then (g.1, t) else g).2 G (if kv.1 = .inr f then (kv.1, v) else kv).2
      rw [h.1]
      by_cases z : g.1 = f
      · rw [if_pos z, if_pos (by rw [z])]; exact hv
      · rw [if_neg z, if_neg (fun e => z (Sum.inr.inj e))]; exact h.2.1
  | [], _ :: _, h => h.elim
  | _ :: _, [], h => h.elim
theorem FlOk.snoc {G : Hp} {f : Str} {t : T} {v : V} (hv : up t G v) : ∀ {kvs : List (L2.Key × V)} {fl : Flds}, FlOk G kvs fl → FlOk G (kvs ++ [(.inr f, v)]) (fl ++ [(f, t)])
  | [], [], _ => ⟨rfl, hv, trivial⟩
  | kv :: kvs, g :: fl, h => ⟨h.1, h.2.1, FlOk.snoc hv h.2.2⟩
  | [], _ :: _, h => h.elim
  | _ :: _, [], h => h.elim
theorem FlOk.put {G : Hp} {f : Str} {t : T} {v : V} {kvs : List (L2.Key × V)} {fl : Flds} (h : FlOk G kvs fl) (hv : up t G v) : FlOk G (putK kvs (.inr f) v) (putF fl f t) := by
  unfold putK putF
  rw [h.any]
  split
  · exact FlOk.repl hv h
  · exact FlOk.snoc hv h
def mergeF (fl more : Flds) : Flds := more.foldl (fun acc g => putF acc g.1 g.2) fl
theorem FlOk.merge {G : Hp} {more : List (L2.Key × V)} : ∀ {fm : Flds} {kvs : List (L2.Key × V)} {fl : Flds}, FlOk G more fm → FlOk G kvs fl → FlOk G (mergeK kvs more) (mergeF fl fm) := by
  induction more with
  | nil =>
    intro fm kvs fl hm h
    cases fm with
    | nil => exact h
    | cons _ _ => exact hm.elim
  | cons kv more ih =>
    intro fm kvs fl hm h
    cases fm with
    | nil => exact hm.elim
    | cons g fm =>
      have e := h.put (f := g.1) hm.2.1
      rw [← hm.1] at e
      show FlOk G (mergeK (putK kvs kv.1 kv.2) more) (mergeF (putF fl g.1 g.2) fm)
      exact ih hm.2.2 e
def recT (fl : Flds) : T := fun G v => ∃ p ob kvs, v = .ref p ∧ G p = some (.frz ob (.dK kvs)) ∧ FlOk G kvs fl
def recO (fl : Flds) : OwnP := fun _ G o => ∃ kvs, o = .dK kvs ∧ FlOk G kvs fl
section
variable {P : Program} {w : World} {K : PySem.W.Frag} {mg : Str → Option Value} {base : Heap} {k : Nat} {X : Cx} {W : Option Addr} {Γ Γ' : En} {dn : Str} {pos pos' p apos cpos p2 : Pos} {a b : Expr} {G H H0 : Hp} {v : V} {fl fm : Flds} {t : T} {f : Str} {N B C : As} {R : Ent} {rest : List Stmt}
theorem ev_frzR (h : Ev X K W Γ a (.own (recO fl))) : Ev X K W Γ a (.fro (recT fl)) :=
  ev_frz h (fun _ G ho z => by obtain ⟨_, rfl, _⟩ := z; exact True.intro) fun G p od ho hp z G' l => by
    obtain ⟨kvs, rfl, q⟩ := z G' l
    exact ⟨p, od, kvs, rfl, l _ _ hp, q⟩
/-- d["f"] -/
theorem ev_rget (f : Str) (c : Cok P w K mg base k X) (hd : Ev X K W Γ a (.fro (recT fl))) (hb : Ev X K W Γ b (Dt K (.str f))) (hl : fl.lookup f = some t := by rfl) (hs : NoSl b := by intro _ _; rfl) : Ev X K W Γ (.Subscript a b pos) (.fro t) :=
  peI (pe_dget c.two hd hb hs) fun σ H Q ⟨H0, G, fr, en, k⟩ => pre2 rfl rfl fr en fun x y H2 G2 s q1 q2 => by
    obtain ⟨p, ob, kvs, rfl, e, q⟩ := up.now q1
    obtain ⟨u, h1, h2⟩ := q.get hl
    exact ⟨p, u, rfl, .inl ⟨kvs, .inr f, .inr ⟨ob, s.frm.1 _ _ e⟩, dt_str q2, h1.symm⟩, k u H2 G2 s h2⟩
/-- d["f"], d one's own -/
theorem ev_rgetO (i : Nat) (f : Str) (c : Cok P w K mg base k X) (hb : Ev X K W Γ b (Dt K (.str f))) (he : Γ[i]? = some (some (.own (recO fl))) := by rfl) (hl : fl.lookup f = some t := by rfl) (hs : NoSl b := by intro _ _; rfl)
    (hN : X.N[i]? = some dn := by rfl) (hvis : Vis X.env.scope dn := by first | exact Or.inl rfl | exact Or.inr (Or.inl rfl) | exact Or.inr (Or.inr rfl)) (hd : (dn == ("__debug__" : Str)) = false := by decide) (hcd : (dn == ("__classdict__" : Str)) = false := by decide) : Ev X K W Γ (.Subscript (.Name dn p2) b pos) (.fro t) :=
  peI (pe_dget c.two (pe_var hN hvis hd hcd) hb hs) fun σ H Q ⟨H0, G, fr, en, k⟩ => by
    obtain ⟨v, hv, _⟩ := en.at_ i _ he
    refine ⟨v, hv, H0, G, fr, en, fun y H1 G1 s1 q1 => ?_⟩
    obtain ⟨v', hv', p, ho, rfl, h0, gp, hp, nw, q⟩ := (en.step s1).at_ i _ he
    rw [hv] at hv'
    cases hv'
    obtain ⟨kvs, rfl, r⟩ := q _ (Lk.refl _)
    obtain ⟨u, h1, h2⟩ := r.get hl
    exact ⟨p, u, rfl, .inl ⟨kvs, .inr f, .inl hp, dt_str q1, h1.symm⟩, k u H1 G1 s1 h2⟩
/-- d["f"] = e, d one's own -/
theorem sr_rput (i : Nat) (f : Str) {val : Expr} (c : Cok P w K mg base k X) (hb : Ev X K W Γ b (Dt K (.str f))) (hv : Ev X K W Γ val (.fro t)) (hz : fl.length < 1000) (he : Γ[i]? = some (some (.own (recO fl))) := by rfl)
    (hN : X.N[i]? = some dn := by rfl) (hvis : Vis X.env.scope dn := by first | exact Or.inl rfl | exact Or.inr (Or.inl rfl) | exact Or.inr (Or.inr rfl)) (hd : (dn == ("__debug__" : Str)) = false := by decide) (hcd : (dn == ("__classdict__" : Str)) = false := by decide)
    (hs : swapsWith val (some (.Subscript (.Name dn p2) b pos')) pos.line X.env = pure false := by rfl) : Sr X K W (.Assign [.Subscript (.Name dn p2) b pos'] val pos) (envA W Γ) (envA W (Γ.set i (some (.own (recO (putF fl f t)))))) B C R :=
  psI (ps_dput c.two (pe_var hN hvis hd hcd) hb hv hs) fun D σ H ⟨H0, G0, G, s, en, n, r⟩ => ⟨H0, G, s.frm, en, fun v H1 G1 s1 q1 => by
    obtain ⟨vv, hvv, p, ho, rfl, h0, gp, hp, nw, qo⟩ := en.at_ i _ he
    refine ⟨.ref p, hvv, H0, G1, s1.frm, en.step s1, fun y H2 G2 s2 q2 => ?_⟩
    have s12 := s1.trans s2
    have en2 := en.step s12
    obtain ⟨vv', hvv', p', ho', rfl, b0, bg, bp, bw, bq⟩ := en2.at_ i _ he
    rw [hvv] at hvv'
    cases hvv'
    obtain ⟨kvs, rfl, q0⟩ := bq _ (Lk.refl _)
    have ey := dt_str q2
    subst ey
    have hl : kvs.length < sizeLine := by rw [q0.length, sizeLine_eq]; omega
    refine ⟨p, _, rfl, DPut.k (k := .inr f) bp hl, n σ _ G2 ((s.trans s12).chg h0 bg nw.1) (en2.chg he hvv True.intro fun G' l => ⟨_, rfl, ?_⟩)⟩
    exact (q0.lk l).put (up.lk (q1.step s2 : EntOk W H G2 H2 v (.fro t)) l)⟩
/-! ### displays -/
def trsOf (K : PySem.W.Frag) (W : Option Addr) (Γ : En) (fl : Flds) : List (TE × TE) := fl.map fun f => (cE K W Γ (Dt K (.str f.1)), cE K W Γ (.fro f.2))
theorem rc_nil : PPs X pos [] [] (trsOf K W Γ []) := pps_nil
theorem rc_cons {ks : List (Option Expr)} {vs : List Expr} (hk : Ev X K W Γ a (Dt K (.str f))) (hv : Ev X K W Γ b (.fro t)) (hr : PPs X pos ks vs (trsOf K W Γ fl)) : PPs X pos (some a :: ks) (b :: vs) (trsOf K W Γ ((f, t) :: fl)) := pps_cons hk hv hr
theorem pairs_run : ∀ {fl : Flds} {σ : L2.St} {H0 G H : Hp} {Q : List (V × V) → Hp → Prop}, Frm K W G H → EnvOk W H0 G H σ Γ →
    (∀ kvs H' G', Step K W G H G' H' → FlOk G' kvs fl → Q (kvs.map fun kv => (kV kv.1, kv.2)) H') → tPairs (trsOf K W Γ fl) σ H Q
  | [], σ, H0, G, H, Q, f, en, k => k [] H G (Step.refl f) trivial
  | g :: fl, σ, H0, G, H, Q, f, en, k => ⟨H0, G, f, en, fun x H1 G1 s1 q1 => ⟨H0, G1, s1.frm, en.step s1, fun y H2 G2 s2 q2 => by
    refine pairs_run (fl := fl) (s1.trans s2).frm (en.step (s1.trans s2)) fun kvs H3 G3 s3 q3 => ?_
    have ex := dt_str q1
    subst ex
    exact k ((.inr g.1, y) :: kvs) H3 G3 ((s1.trans s2).trans s3) ⟨rfl, up.lk q2 (Lk.same s3.gro), q3⟩⟩⟩
/-- {"f": e, ..} -/
theorem ev_rec {keys : List (Option Expr)} {values : List Expr} (fl : Flds) (h : PPs X pos keys values (trsOf K W Γ fl)) (hall : keys.all (·.isSome) = true := by rfl) (hl : keys.length = values.length := by rfl) (h0 : keys ≠ [] := by exact List.cons_ne_nil _ _)
    (h15 : keys.length ≤ 15 := by decide) (hf : fl.length ≤ 15 := by exact Nat.le_of_ble_eq_true rfl) : Ev X K W Γ (.Dict keys values pos) (.own (recO (mergeF [] fl))) :=
  peI (pe_disp h hall hl h0 h15) fun σ H Q ⟨H0, G, f, en, k⟩ p hp => by
    have s0 : Step K W G H G (upd H p (.dK [])) := Step.mine f hp
    refine pairs_run s0.frm (en.step s0) fun kvs H2 G2 s2 q2 => ?_
    have hp2 : H2 p = some (.dK []) := s2.keep p _ upd_same (f.neB hp)
    have gp2 : G2 p = none := by
      cases z : G2 p with
      | none => rfl
      | some o =>
        rcases s2.new p o (f.free hp) z with y | ⟨xs, y⟩
        · rw [upd_same] at y; cases y
        · rw [upd_same] at y; cases y
    refine ⟨hp2, kvs, rfl, by rw [q2.length]; exact hf, k _ _ G2 ((s0.trans s2).chg hp gp2 (f.neB hp)) ⟨p, _, rfl, hp, gp2, upd_same, ⟨f.neB hp, True.intro⟩, fun G' l => ⟨_, rfl, ?_⟩⟩⟩
    exact FlOk.merge (q2.lk l) (kvs := []) (fl := []) trivial
/-! ### dict(d), d.update(e) -/
theorem ev_dictR (c : Cok P w K mg base k X) (hm : mg "dict" = none) (ha : Ea X K W Γ [a] [.fro (recT fl)]) (hg : Gl X "dict" := by rfl) (he : A1 X a := by rfl) : Ev X K W Γ (.Call (.Name "dict" p) [a] [] pos) (.own (recO fl)) :=
  ev_callT c call_dictD (fun H0 G H vs f hb q Q k => by
    obtain ⟨v, rfl, q1⟩ := args1 q
    obtain ⟨d, ob, kvs, rfl, e, q2⟩ := up.now q1
    exact ⟨d, kvs, rfl, .inr ⟨ob, f.1 _ _ e⟩, fun p hp => k _ _ _ (Step.mine f hp) ⟨p, _, rfl, hb _ hp, f.free hp, upd_same, ⟨f.neB hp, True.intro⟩, fun G' l => ⟨kvs, rfl, q2.lk l⟩⟩⟩) hm (by decide +kernel) ha hg (he := he)
theorem mt_updateD : MtR X "dict.update" (fun x xs H Q => ∃ (d o : Addr) (kvs more : List (L2.Key × V)), x = .ref d ∧ xs = [.ref o] ∧ d ≠ o ∧ H d = some (.dK kvs) ∧ Rd H o (.dK more) ∧ kvs.length + more.length ≤ sizeLine ∧ Q .non (upd H d (.dK (mergeK kvs more)))) := by
  intro pins s σ H x xs v us Q I rx rxs h
  obtain ⟨d, o, kvs, more, rfl, rfl, ne, hd, ho, hz, q⟩ := h
  cases rx
  obtain ⟨u, rfl, ru⟩ := rxs.one
  cases ru
  obtain ⟨z, lo, vs, rel, dd⟩ := L2.dk_of I.hok hd
  obtain ⟨z2, lo2, vs2, rel2, dd2⟩ := dk_rd I.hok ho
  have l1 := rel.length
  have l2 := rel2.length
  refine call_meetsIn PySem.F.slot_dict_update dd.typeIs PySem.F.entry_dict_update (PySem.F.args_dict_update_2 _ _) (meets_dict_update (mixKind X.prog X.w) d o ne lo2) ⟨vs, vs2, dd, dd2, by omega, fun h' hd' ho' hs => ?_⟩
  have hl : (mergeK kvs more).length ≤ sizeLine := by have := length_mergeK more kvs; omega
  have he : ∃ q, h'.get? d = some q := let ⟨q, _, _, hq, _⟩ := hd'; ⟨q, hq⟩
  exact ⟨.non, _, d_write (t' := s.toks) I (by rw [hd]; exact True.intro) hs he (dk_new hl lo (rel2.merge rel) hd'), rfl, q⟩
theorem sr_update (i : Nat) (c : Cok P w K mg base k X) (hv : Ev X K W Γ a (.own (recO fm))) (hz : fl.length + fm.length < 1000) (he : Γ[i]? = some (some (.own (recO fl))) := by rfl)
    (hN : X.N[i]? = some dn := by rfl) (hvis : Vis X.env.scope dn := by first | exact Or.inl rfl | exact Or.inr (Or.inl rfl) | exact Or.inr (Or.inr rfl)) (hd : (dn == ("__debug__" : Str)) = false := by decide) (hcd : (dn == ("__classdict__" : Str)) = false := by decide)
    (hbase : attributeBase (.Name dn p2) "update" X.env (eval (.Name dn p2) X.env) = eval (.Name dn p2) X.env := by rfl)
    (hfew : ((backTo cpos (starEach [a] X.env)).all (fun x => !x.1) && (backToKw cpos (keywordEach [] X.env)).all (fun x => x.1.isSome)
      && decide ([a].length + ([] : List Keyword).length + (if ([] : List Keyword).isEmpty then 0 else 1) < 30)) = true := by rfl)
    (hline : (apos.endLine == cpos.line) = true := by rfl) (hs1 : starEach [a] X.env = (false, eval a X.env) :: starEach [] X.env := by rfl) (hs : swapsWith (.Call (.Attribute (.Name dn p2) "update" apos) [a] [] cpos) none pos.line X.env = pure false := by rfl) :
    Sr X K W (.Expr (.Call (.Attribute (.Name dn p2) "update" apos) [a] [] cpos) pos) (envA W Γ) (envA W (Γ.set i (some (.own (recO (mergeF fl fm)))))) B C R :=
  psI (ps_expr (pe_bm PySem.F.plainAttrs_dict PySem.F.slot_dict_update PySem.F.type_dict_update mt_updateD (pe_var hN hvis hd hcd) (pa_cons hv pa_nil hs1) hbase hfew hline hs1 rfl) hs) fun D σ H ⟨H0, G0, G, s, en, n, r⟩ => by
    obtain ⟨v, hv, p, ho, rfl, h0, gp, hp, nw, q⟩ := en.at_ i _ he
    obtain ⟨kvs, rfl, r0⟩ := q _ (Lk.refl _)
    refine ⟨.ref p, hv, .inr (.inr (.inl ⟨rfl, .inl ⟨kvs, hp⟩⟩)), H0, G, s.frm, en, fun y H1 G1 s1 q1 => ?_⟩
    obtain ⟨b, ho1, rfl, b0, gb, hb, nb, qb⟩ := q1
    obtain ⟨more, rfl, r1⟩ := qb _ (Lk.refl _)
    have en1 := en.step s1
    have gp1 : G1 p = none := by
      obtain ⟨v', hv', p', ho', rfl, a0, a1, _⟩ := en1.at_ i _ he
      rw [hv] at hv'
      cases hv'
      exact a1
    have hp1 := s1.keep p _ hp nw.1
    have ne : p ≠ b := fun z => by rw [z, b0] at hp; cases hp
    refine ⟨p, b, kvs, more, rfl, rfl, ne, hp1, .inl hb, by rw [r0.length, r1.length, sizeLine_eq]; omega, n σ _ G1 ((s.trans s1).chg h0 gp1 nw.1) (en1.chg he hv True.intro fun G' l => ⟨_, rfl, FlOk.merge (r1.lk l) (r0.lk (Lk.trans s1.gro l))⟩)⟩
end
end Cs

set_option Elab.async false
set_option linter.all false
set_option autoImplicit false
set_option maxRecDepth 100000
set_option maxHeartbeats 4000000
/-! The layer, part S: len(set(..)) of unlike texts. (Printed by mkS.py.) -/
namespace SS
open PySem PySem.Spec PyProof.Rows

section
variable {prog : Program} {w : World} {A : Around} {R : Result → Shared → Prop} {I : Addr} {fp wr : List Addr} {G : Array GenState → Array GenState → Prop} {n : Nat} {P : Nat → Value → Prop} {St : Nat → Shared → Prop}
theorem loopStrN (W : WalksS prog w A.in1 I fp wr G n P St) (S : Addr) (hSf : S ∉ fp) (xs : List Str) (hsz : xs.length = n) (hn1 : n + 1 < scanBound) (hnd : xs.Nodup)
    (hval : ∀ i v, P i v → ∃ t, v = .str (xs.getD i Str.empty) t) :
    ∀ (k i : Nat) (s : Shared), n - i = k → i ≤ n → St i s →
      s.heap.SetOf (PySem.strKind prog w) S (fun k' => (xs.take i).any (· == k')) i →
      (∀ s', Moved (S :: wr) G s s' → s'.heap.SetOf (PySem.strKind prog w) S (fun k' => (xs.take n).any (· == k')) n → R (.ok (.ret .none)) s') →
      codeAny (model prog w) A (.builtin "set.update.loop" ⟨[.ref S, .ref I], []⟩) R s := by
  have hSw : S ∉ wr := fun h => hSf (W.sub _ h)
  have hsub : ∀ b ∈ wr, b ∈ S :: wr := fun b hb => List.mem_cons_of_mem _ hb
  intro k
  induction k with
  | zero =>
    intro i s hk hi hst hS hR
    have hin : i = n := by omega
    subst hin
    refine codeAny_builtin PyProof.Rows.F.entry_set_update_loop ?_
    rw [Around.under_plainId PyProof.Rows.F.plain_set_update_loop _]
    show wpAny _ A.in1 (pyNext (.ref I) >>= _) _ _ s
    refine wpAny_bind (W.done s _ _ hst fun s' hm => ?_)
    show wpAny _ A.in1 (ret Value.none) _ _ s'
    exact wpAny_pure (hR s' (hm.mono hsub) (by
      obtain ⟨o, es, ep, t, ho, rest⟩ := hS
      exact ⟨o, es, ep, t, hm.heap S _ hSw ho, rest⟩))
  | succ k ih =>
    intro i s hk hi hst hS hR
    have hlt : i < n := by omega
    refine codeAny_builtin PyProof.Rows.F.entry_set_update_loop ?_
    rw [Around.under_plainId PyProof.Rows.F.plain_set_update_loop _]
    show wpAny _ A.in1 (pyNext (.ref I) >>= _) _ _ s
    refine wpAny_bind (W.item i s _ _ hlt hst fun v s' hP hst' hm => ?_)
    obtain ⟨t, rfl⟩ := hval i v hP
    have hS' : s'.heap.SetOf (PySem.strKind prog w) S (fun k' => (xs.take i).any (· == k')) i := by
      obtain ⟨o, es, ep, tb, ho, rest⟩ := hS
      exact ⟨o, es, ep, tb, hm.heap S _ hSw ho, rest⟩
    show wpAny _ A.in1 (holding [Value.str (xs.getD i Str.empty) t] (setAdd S (.str (xs.getD i Str.empty) t)) >>= _) _ _ s'
    refine wpAny_bind (wpAny_holding ?_)
    unfold setAdd
    refine wpAny_holding ?_
    refine wpAny_bind ((PySem.strKind prog w).pyHash (k := xs.getD i Str.empty) (strKind_is _ _ _ _) ?_)
    refine wpAny_setAddHashed_of (knd := PySem.strKind prog w) (s := { s' with toks := s'.toks + 1 }) (strKind_is _ _ _ _) rfl hS' (by omega) fun h' hsb hS2 => ?_
    have hSi : h'.SetOf (PySem.strKind prog w) S (fun k' => (xs.take (i + 1)).any (· == k')) (i + 1) := by
      have hix : i < xs.length := by omega
      have eg : xs.getD i Str.empty = xs[i] := by rw [List.getD_eq_getElem?_getD, List.getElem?_eq_getElem hix]; rfl
      have nin : (xs.take i).any (· == xs.getD i Str.empty) = false := by
        rw [eg, List.any_eq_false]
        intro z hz e
        have e' : z = xs[i] := by simpa using e
        obtain ⟨j, hj, ej⟩ := List.getElem_of_mem hz
        rw [List.length_take] at hj
        rw [List.getElem_take] at ej
        have := (List.getElem_inj hnd).mp (ej.trans e')
        omega
      refine SetOf_congr hS2 (fun k' => ?_) (by rw [nin]; rfl)
      show ((xs.take i).any (· == k') || decide (k' = xs.getD i Str.empty)) = (xs.take (i + 1)).any (· == k')
      have et : xs.take (i + 1) = xs.take i ++ [xs.getD i Str.empty] := by rw [List.take_succ, List.getElem?_eq_getElem hix, eg]; rfl
      rw [et, List.any_append]
      congr 1
      rw [List.any_cons, List.any_nil, Bool.or_false]
      by_cases e : k' = xs.getD i Str.empty
      · rw [decide_eq_true e, e]; simp
      · rw [decide_eq_false e]
        have hb : (xs.getD i Str.empty == k') = false := beq_eq_false_iff_ne.mpr fun h' => e h'.symm
        exact hb.symm
    refine wpAny_pure ⟨plainId_quiet PyProof.Rows.F.plain_set_update_loop _, ih (i + 1) _ (by omega) hlt (W.frame _ s' _ _ hst' (Nat.le_succ _) fun b hb o e => ?_) hSi fun s'' hm'' hS'' => ?_⟩
    · rw [hsb.2 b (fun h : b = S => hSf (by rw [← h]; exact hb))]; exact e
    · refine hR s'' (Moved.trans W.gtrans ((hm.mono hsub).then_heap (Nat.le_succ _) fun b o hb e => ?_) hm'') hS''
      rw [hsb.2 b (fun h : b = S => hb (by rw [h]; exact List.mem_cons_self))]; exact e
end

section
variable {prog : Program} {w : World} {A : Around} {E : Value → Shared → Prop} {s : Shared}
set_option maxHeartbeats 3200000 in
theorem call_set_tupleN {l : Addr} {items : Array Value} {xs : List Str} {Q : Value → Shared → Prop}
    (hh : A.handled = none) (hl : s.heap.IsTuple l items) (hi : PyProof.Rows.StrsAre items.toList xs) (hn1 : xs.length + 1 < scanBound) (hnd : xs.Nodup)
    (h : ∀ (h' : Heap) (tk : Nat), h'.SetOf (PySem.strKind prog w) s.heap.objs.size (fun k' => (xs.take items.size).any (· == k')) items.size →
      (∀ b o, b < s.heap.objs.size → s.heap.get? b = some o → h'.get? b = some o) → Q (.ref s.heap.objs.size) { s with heap := h', toks := tk }) :
    wpAny (model prog w) A (call (.type "set") [.ref l]) Q E s := by
  obtain ⟨c, tl, hmro⟩ := PySem.F.called_set.mro
  have hmade := PySem.F.called_set.made
  have hsub := PySem.F.called_set.sub
  refine wpAny_call (codeAny_of_tree ?_)
  show wpAny _ _ (callAny (.type "set") _) _ _ _
  refine wpAny_pure ⟨Code.quiet_builtin _ (by decide +kernel), codeAny_builtin PySem.F.entry_type_call ?_⟩
  rw [Around.under_plain (weight_type_call_type "set" [.ref l] []) rfl]
  have h1 := PySem.F.called_set.notType
  have h2 := PySem.F.called_set.canCreate
  have hct := PySem.F.typeCall_set_1 (.ref l)
  repeat (any_goals (first | assumption | wp_step))

  refine codeAny_mono (code_set_new_1 (.ref l) (E := E) (Q₁ := fun obj s₁ => ∃ led : Bool, obj = .ref s.heap.objs.size ∧ s₁ = { s with heap := s.heap.push { cls := .type "set", dict := none, data := .set #[] 0 (.fresh 0 0 led) } }) fun led => ⟨led, rfl, rfl⟩) fun r s₁ hr => ?_
  cases r with
  | error e => exact hr
  | ok fl =>
    cases fl with
    | ret obj =>
      obtain ⟨led, rfl, rfl⟩ := hr
      have hS : (s.heap.push { cls := .type "set", dict := none, data := .set #[] 0 (.fresh 0 0 led) }).get? s.heap.objs.size = some { cls := .type "set", dict := none, data := .set #[] 0 (.fresh 0 0 led) } := Heap.get?_push_size _ rfl
      have hT : Shared.TypeIs { s with heap := s.heap.push { cls := .type "set", dict := none, data := .set #[] 0 (.fresh 0 0 led) } } (.ref s.heap.objs.size) "set" := ⟨_, hS, rfl⟩
      have hli := PySem.F.called_set.init.lookup
      have hbi := PySem.F.called_set.init.bind (.ref s.heap.objs.size)
      repeat (any_goals (first | assumption | wp_step))

      refine codeAny_mono (codeAny_call_builtin (R := wants (fun r s₂ => r = .none ∧ ∃ h' tk, s₂ = { s with heap := h', toks := tk } ∧
          h'.SetOf (PySem.strKind prog w) s.heap.objs.size (fun k' => (xs.take items.size).any (· == k')) items.size ∧
          (∀ b o, b < s.heap.objs.size → s.heap.get? b = some o → h'.get? b = some o)) E) PySem.F.called_set.init.plain PySem.F.entry_set_init (check_set_init_1 hT ?_)) fun r₂ s₂ hr₂ => ?_
      · obtain ⟨ol, hol, hcl, nl, hdl⟩ := hl
        obtain ⟨ocls, odict, odata, oslots⟩ := ol
        simp only at hcl hdl
        subst hcl; subst hdl
        have hol' : (s.heap.push { cls := .type "set", dict := none, data := .set #[] 0 (.fresh 0 0 led) }).get? l = some { cls := .type "tuple", dict := odict, data := .seq items nl, slots := oslots } := Heap.get?_push_of_some _ hol
        have hsls := PySem.F.sub_tuple_set
        have hslf := PySem.F.sub_tuple_frozenset
        have hne : (Value.type "tuple" == Value.type "dict") = false := by decide
        have hl1 : (s.heap.push { cls := .type "set", dict := none, data := .set #[] 0 (.fresh 0 0 led) }).IsTuple l items := ⟨_, hol', rfl, nl, rfl⟩
        unfold Builtin.«set.__init__» noKeywords Builtin.Frozenset.updateFrom
        generalize hPI : pyIter = PI
        wp_walk
        subst hPI

        refine wpAny_pyIter_tuple hl1 ?_
        refine wpAny_bind (wpAny_runValue ?_)
        have hlS : l < s.heap.objs.size := Heap.lt_size hol
        have hh3 : A.in1.in1.in1.handled = none := by simp [hh]
        have hneI : l ≠ (s.heap.push { cls := .type "set", dict := none, data := .set #[] 0 (.fresh 0 0 led) }).objs.size := by
          rw [Heap.size_push]; exact Nat.ne_of_lt (Nat.lt_succ_of_lt hlS)
        have hSf : s.heap.objs.size ∉ [(s.heap.push { cls := .type "set", dict := none, data := .set #[] 0 (.fresh 0 0 led) }).objs.size, l] := by
          rw [Heap.size_push]; simp only [List.mem_cons, List.mem_singleton, List.not_mem_nil, or_false, not_or]
          exact ⟨Nat.ne_of_lt (Nat.lt_succ_self _), Nat.ne_of_gt hlS⟩
        have hsz : xs.length = items.size := by rw [← StrsAre.len_eq hi, Array.length_toList]
        have hval : ∀ (i : Nat) (v : Value), items[i]? = some v → ∃ t, v = .str (xs.getD i Str.empty) t := fun i v hv => strs_at hi i v (by rw [Array.getElem?_toList]; exact hv)
        refine loopStrN ((Walks.tuple hh3 _ l hneI items).toS) s.heap.objs.size
          hSf xs hsz (by rw [← hsz]; exact hn1) hnd hval (items.size - 0) 0 _ (by omega) (Nat.zero_le _)
          ⟨⟨_, Heap.get?_push_size _ rfl, rfl, rfl⟩, (hl1.push _)⟩ ?hS0 ?hR
        case hS0 =>
          have hget : ((s.heap.push { cls := .type "set", dict := none, data := .set #[] 0 (.fresh 0 0 led) }).push { cls := .type "tuple_iterator", data := .fields #[.ref l, .int 0 0] }).get? s.heap.objs.size
              = some { cls := .type "set", dict := none, data := .set #[] 0 (.fresh 0 0 led) } := Heap.get?_push_of_some _ hS
          exact PyProof.Rows.SetOf_congr ((PyProof.Rows.setObjOf_fresh (knd := PySem.strKind prog w) led).setOf hget (by unfold scanBound; omega)) (fun _ => rfl) rfl
        case hR =>
          intro s' hm hS'
          obtain ⟨h', g', d', tk', os'⟩ := s'
          have eg : g' = s.gens := hm.gens
          have ed : d' = s.drawn := hm.drawn
          have eo : os' = s.os := hm.os
          subst eg; subst ed; subst eo
          show wpAny _ _ _ _ _ _
          refine wpAny_pure ?_
          show wpAny _ _ (ret Value.none) _ _ _
          refine wpAny_pure ⟨rfl, h', tk', rfl, hS', fun b o hb e => ?_⟩
          have hb1 : b ≠ s.heap.objs.size := Nat.ne_of_lt hb
          have hb2 : b ≠ (s.heap.push { cls := .type "set", dict := none, data := .set #[] 0 (.fresh 0 0 led) }).objs.size := by
            rw [Heap.size_push]; exact Nat.ne_of_lt (Nat.lt_succ_of_lt hb)
          exact hm.heap b o (by simp only [List.mem_cons, List.mem_singleton, List.not_mem_nil, or_false, not_or]; exact ⟨hb1, hb2⟩) (Heap.get?_push_of_some _ (Heap.get?_push_of_some _ e))

      · cases r₂ with
        | error e => exact hr₂
        | ok fl₂ =>
          cases fl₂ with
          | ret r =>
            obtain ⟨rfl, h', tk, rfl, hS', hk'⟩ := hr₂
            repeat (any_goals (first | assumption | wp_step))
            exact h _ _ hS' hk'
          | _ => exact hr₂.elim
    | _ => exact hr.elim

end
end SS
namespace Cs
open PySem PySem.Spec PyProof.Rows L2
def tLenSetN (K : PySem.W.Frag) (ta : TE) : TE := fun σ H Q => ta σ H fun x H1 => ∃ l, ∃ xs : List Str, x = .ref l ∧ SqT K H1 l (xs.map V.str) ∧ xs.length < 100 ∧ xs.Nodup ∧ Q (.int xs.length) H1
theorem pe_lenSetN {X : Cx} {a : Expr} {ta : TE} {p p2 q pos : Pos} (hc : X.calm = true) (hg : Gl X "len") (hm : X.mg "len" = none) (hg2 : Gl X "set") (hm2 : X.mg "set" = none) (ha : PE X a ta)
    (na : starEach [a] X.env = (false, eval a X.env) :: starEach [] X.env := by rfl) : PE X (.Call (.Name "len" p) [.Call (.Name "set" p2) [a] [] q] [] pos) (tLenSetN X.K ta) := by
  refine ⟨fun pins s σ H Q I h => ?_⟩
  refine Call_ (ld_blt I hg hm boot_len ?_)
  refine PyProof.Rows.callWith_builtin1 (PyProof.Rows.args_cons ?_ rfl) rfl rfl
  refine Call_ (ld_blt I hg2 hm2 boot_set ?_)
  refine PyProof.Rows.callWith_type1 (PyProof.Rows.args_cons (thn (ha.run pins s σ H _ I h) fun v s1 ⟨x, H1, I1, r1, q1⟩ => PyProof.Rows.args_nil ?_) na) na rfl
  obtain ⟨l, xs, rfl, hq, h1, hnd, q1⟩ := q1
  cases r1
  obtain ⟨its, r, pl, hz⟩ := I1.tuple hq
  refine SS.call_set_tupleN (I1.ok.hd hc) pl (by simpa using strsAre_of r) (by unfold scanBound; omega) hnd fun h' tk hS hk => ?_
  refine PyProof.Rows.args_nil ?_
  have hl : its.toArray.size = xs.length := by rw [List.size_toArray, ← r.length, List.length_map]
  rw [hl] at hS
  obtain ⟨o, es, ep, t, ho, hex, hd, _, _, _, hf, hn⟩ := hS
  have I2 : Inv X pins σ H1 { s1 with heap := h', toks := tk } := I1.kept fun b o e => hk b o (Heap.lt_size e) e
  refine call_len_set ho hex hd hf (by rw [hn] <;> omega) ⟨.int xs.length, H1, I2.tok _, ⟨_, by rw [hn]⟩, q1⟩
section
variable {P : Program} {w : World} {K : PySem.W.Frag} {mg : Str → Option Value} {base : Heap} {k : Nat} {X : Cx} {W : Option Addr} {Γ : En} {p p2 q pos : Pos} {a : Expr}
/-- len(set(t)), t a tuple of unlike texts -/
theorem ev_lenSet {xs : List Str} (c : Cok P w K mg base k X) (hm : mg "len" = none) (hm2 : mg "set" = none) (ha : Ev X K W Γ a (Dt K (.tuple (xs.map .str)))) (hn : xs.Nodup) (hl : xs.length < 100) (hg : Gl X "len" := by rfl) (hg2 : Gl X "set" := by rfl)
    (na : starEach [a] X.env = (false, eval a X.env) :: starEach [] X.env := by rfl) : Ev X K W Γ (.Call (.Name "len" p) [.Call (.Name "set" p2) [a] [] q] [] pos) (Dt K (.int xs.length)) :=
  peI (pe_lenSetN c.hc hg (by rw [c.hmg]; exact hm) hg2 (by rw [c.hmg]; exact hm2) ha na) fun σ H Q ⟨H0, G, f, en, k⟩ => ⟨H0, G, f, en, fun v H1 G1 s1 q1 => by
    obtain ⟨l, vs, rfl, hs, hd⟩ := dt_tuple q1
    rw [dpStrs hd] at hs
    exact ⟨l, xs, rfl, by rw [c.hK]; exact s1.frm.seqT hs, hl, hn, k _ H1 G1 s1 (dt_of (.int _))⟩⟩
end
end Cs

set_option Elab.async false
set_option linter.all false
set_option autoImplicit false
set_option maxRecDepth 100000
set_option maxHeartbeats 4000000
/-! The layer, part U: an empty set comprehension, min([], default=None), text * int, index, or. -/
namespace Cs
open PySem PySem.Spec PyProof.Rows L2
theorem pe_no {X : Cx} {e : Expr} : PE X e (fun _ _ _ => False) := ⟨fun _ _ _ _ _ _ q => q.elim⟩
theorem pg_no {X : Cx} {e : Expr} : PG X e (fun _ _ _ _ => False) := ⟨fun _ _ _ _ _ _ _ _ _ q => q.elim⟩
theorem pts_no {X : Cx} {es : List Expr} : PTs X es (fun _ _ _ => False) := ⟨fun _ _ _ _ _ _ q => q.elim⟩
theorem cr_lenB {X : Cx} : CallR X (.builtin "len") (fun xs H Q => ∃ D S n, xs = [V.ref D] ∧ H D = some (PpSet.SetBO X.w D S n) ∧ Q (.int (n : Nat)) H) := by
  intro pins s σ H xs us Q I r h
  obtain ⟨D, S, n, rfl, hD, q⟩ := h
  obtain ⟨u, rfl, ru⟩ := r.one
  cases ru
  obtain ⟨o, es, ep, t, ho, hex, hd, _, _, _, hb, hf, hn, _⟩ := PpSet.setBO_get I hD
  exact call_len_set ho hex hd hf (by unfold scanBound at hb; omega) ⟨.int (n : Nat), H, I.tok _, ⟨_, by rw [hn]⟩, q⟩
section
variable {P : Program} {w : World} {K : PySem.W.Frag} {mg : Str → Option Value} {base : Heap} {k : Nat} {X : Cx} {W : Option Addr} {Γ : En} {p p2 q pos spos apos cpos : Pos} {a b elt tg iter : Expr} {ifs : List Expr} {scope : Scope} {own : List (Str × Nat)} {rest : List Expr} {ds : List PyData} {d e : PyData}
/-- len({..}) over nothing -/
theorem ev_lenSC0 (own : List (Str × Nat)) (c : Cok P w K mg base k X) (hm : mg "len" = none) (hi : PI X tg iter (cI K W Γ [])) (ok : BlkOk X.N X.env.scope scope own) (hg : Gl X "len" := by rfl) (hs : ∀ x, foldedSetIterable iter X.env x = pure x := by intro _; rfl)
    (he : A1 X (.SetComp elt [⟨tg, iter, ifs, 0⟩] scope spos) := by rfl) : Ev X K W Γ (.Call (.Name "len" p) [.SetComp elt [⟨tg, iter, ifs, 0⟩] scope spos] [] pos) (Dt K (.int 0)) := by
  have h := pe_callB (p := p) (pos := pos) cr_lenB hg (by rw [c.hmg]; exact hm) PySem.boot_len (pa_cons (PpSet.pe_sc c.hc c.hN hi ok (fun _ _ _ _ _ => pg_no) (fun _ _ _ _ _ => pts_no) (fun _ _ _ _ _ => pe_no) hs) pa_nil he) (by decide) (by decide) he rfl
  refine peI h fun σ H Q ⟨H0, G, f, en, k⟩ => ⟨H0, G, f, en, fun J H1 G1 s1 gv D hD => ?_⟩
  have s2 : Step K W G1 H1 (upd G1 D (PpSet.SetBO X.w D (fun _ => false) 0)) (upd H1 D (PpSet.SetBO X.w D (fun _ => false) 0)) := Step.lay s1.frm hD
  refine ⟨fun i m H' => i = 0 ∧ H' = upd H1 D (PpSet.SetBO X.w D (fun _ => false) 0), ⟨0, rfl, rfl⟩, ?_⟩
  rintro i m H' ⟨rfl, rfl⟩
  exact .inl ⟨gv.stops _ _ s2.frm s2.gro, D, _, 0, rfl, upd_same, k _ _ _ (s1.trans s2) (dt_of (.int _))⟩
/-- min([], default=None) -/
theorem cr_min0 (hc : X.calm = true) (hu : X.A.units + 10 < cLine) : CallRK X (.builtin "min") [Str.ofString "default"] (fun xs zs H Q => ∃ (a : Addr) (d : V), xs = [.ref a] ∧ zs = [d] ∧ SqL X.K H a [] ∧ Q d H) := by
  intro pins s σ H vs zs us ws Q I r rz h
  obtain ⟨a, d, rfl, rfl, hs, q⟩ := h
  obtain rfl := Vals.ref1 r
  obtain ⟨w1, rfl, e1⟩ := vals1 rz
  obtain ⟨its, rv, pl, _⟩ := I.list hs
  cases rv
  exact PySem.W.min_list_default (I.ok.hd hc) pl.isList (xs := []) (as := []) .nil ⟨fun _ h => (nomatch h), fun _ h => (nomatch h)⟩ (by show X.A.units + 1 + 0 < cLine; omega) (fun _ h' tk hk => ⟨d, H, I.kept hk, e1, q⟩) (fun y ys i v h' tk bs e => nomatch e)
theorem ev_min0 (c : Cok P w K mg base k X) (hm : mg "min" = none) {kpos : Pos} (ha : Ev X K W Γ a (Dt K (.list []))) (hd : Ev X K W Γ b (Dt K d)) (hk : PK X [⟨some "default", b, kpos⟩] (tCons (cE K W Γ (Dt K d)) tNil)) (hg : Gl X "min" := by rfl)
    (he : backTo pos (starEach [a] X.env) = (false, eval a X.env) :: backTo pos (starEach [] X.env) := by rfl) (hpl : (backTo pos (starEach [a] X.env)).any (·.1) = false := by rfl)
    (hall : (backToKw pos (keywordEach [⟨some "default", b, kpos⟩] X.env)).all (·.1.isSome) = true := by rfl) (hnone : (backToKw pos (keywordEach [⟨some "default", b, kpos⟩] X.env)).any (·.1.isNone) = false := by rfl) (hks : (backToKw pos (keywordEach [⟨some "default", b, kpos⟩] X.env)).filterMap (·.1) = [Str.ofString "default"] := by rfl)
    (hs : starEach [a] X.env = (false, eval a X.env) :: starEach [] X.env := by rfl) :
    Ev X K W Γ (.Call (.Name "min" p) [a] [⟨some "default", b, kpos⟩] pos) (Dt K d) :=
  peI (pe_callBK (p := p) (cr_min0 c.hc (by have := c.hr.un; omega)) hg (by rw [c.hmg]; exact hm) (by decide +kernel) (pa_cons ha pa_nil hs) hk (by decide) (by decide) he hpl hall hnone hks) fun σ H Q ⟨H0, G, f, en, k⟩ => ⟨H0, G, f, en, fun v H1 G1 s1 q1 => ⟨H0, G1, s1.frm, en.step s1, fun u H2 G2 s2 q2 => by
    obtain ⟨l, xs, rfl, hs, hd⟩ := dt_list q1
    cases hd
    exact ⟨l, u, rfl, rfl, by rw [c.hK]; exact s2.frm.seqL (s2.gro.seq hs), k u H2 G2 (s1.trans s2) (q2.back fun a z => s1.free z)⟩⟩⟩
/-- text * int -/
theorem op_mulS : OpR X (binaryOp .Mult) (fun x y H Q => ∃ (l : List Nat) (n : Nat), x = .str (txt l) ∧ y = .int (n : Nat) ∧ l.length * n ≤ 1000000 ∧ n ≤ 1000000 ∧ Q (.str (txt (List.replicate n l).flatten)) H) := by
  intro pins s σ H x y v u Q I rx ry h
  obtain ⟨l, n, rfl, rfl, hz, hn, q⟩ := h
  obtain ⟨t, rfl⟩ := rx
  obtain ⟨t2, rfl⟩ := ry
  have hlen : (txt l).length = l.length := txt_len l
  refine PySem.P.mul_str (by
    have h1 : ¬ ((n : Nat) : Int) < -(2 ^ 63 : Int) := by omega
    have h2 : ¬ ((n : Nat) : Int) ≥ 2 ^ 63 := by omega
    rw [decide_eq_false h1, decide_eq_false h2]; rfl) (fun h1 h2 => ?_) (fun h1 h2 => ?_) ?_
  · rw [hlen]
    have hp : (0 : Int) < n := by omega
    have h3 : (l.length : Int) * n ≤ 1000000 := by rw [← Int.natCast_mul]; omega
    have h4 : (l.length : Int) ≤ (2 ^ 63 - 1) / n := Int.le_ediv_of_mul_le hp (by omega)
    omega
  · rw [hlen]
    show decide (_ > _) = false
    refine decide_eq_false ?_
    rw [show ((n : Nat) : Int).toNat = n from rfl]
    have : sizeLine = 16777216 := sizeLine_eq
    omega
  · by_cases h0 : ((n : Nat) : Int) < 1
    · rw [if_pos h0]
      have e : n = 0 := by omega
      subst e
      exact ⟨by decide, .str (txt []), H, I.tok _, ⟨_, rfl⟩, q⟩
    · rw [if_neg h0]
      by_cases h1 : (((n : Nat) : Int) == 1 || (txt l).length == 0) = true
      · rw [if_pos h1]
        refine ⟨.str (txt l), H, I, ⟨_, rfl⟩, ?_⟩
        have e : (List.replicate n l).flatten = l := by
          rcases Bool.or_eq_true_iff.mp h1 with z | z
          · have : n = 1 := by have := eq_of_beq z; omega
            subst this
            simp
          · have z' : l = [] := List.eq_nil_of_length_eq_zero (by rw [← hlen]; exact eq_of_beq z)
            subst z'
            simp
        rw [e] at q
        exact q
      · rw [if_neg h1]
        have e : (⟨(List.replicate ((n : Nat) : Int).toNat (txt l).cps).foldl (· ++ ·) #[]⟩ : Str) = txt (List.replicate n l).flatten := by
          show (⟨_⟩ : Str) = ⟨_⟩
          congr 1
          show (List.replicate n l.toArray).foldl (· ++ ·) #[] = _
          have key : ∀ (m : Nat) (acc : List Nat), (List.replicate m l.toArray).foldl (· ++ ·) acc.toArray = (acc ++ (List.replicate m l).flatten).toArray := by
            intro m
            induction m with
            | zero => intro acc; simp
            | succ m ih =>
              intro acc
              rw [List.replicate_succ, List.replicate_succ, List.foldl_cons, List.flatten_cons]
              have e2 : acc.toArray ++ l.toArray = (acc ++ l).toArray := by simp
              rw [e2, ih, List.append_assoc]
          have := key n []
          simpa using this
        rw [e]
        refine ⟨?_, .str _, H, I.tok _, ⟨_, rfl⟩, q⟩
        rw [txt_len, List.length_flatten]
        have : sizeLine = 16777216 := sizeLine_eq
        have e2 : ((List.replicate n l).map List.length).sum = n * l.length := by simp
        rw [e2, Nat.mul_comm]
        omega
theorem ev_mulS {l : List Nat} {n : Nat} (ha : Ev X K W Γ a (Dt K (.str (txt l)))) (hb : Ev X K W Γ b (Dt K (.int (n : Nat)))) (hz : l.length * n ≤ 1000000) (hn : n ≤ 1000000) : Ev X K W Γ (.BinOp a .Mult b pos) (Dt K (.str (txt (List.replicate n l).flatten))) :=
  ev_op op_mulS (fun H0 G H x y f hb q1 q2 Q k => ⟨l, n, dt_str q1, dt_int q2, hz, hn, k _ H G (Step.refl f) (dt_of (.str _))⟩) ha hb
end
end Cs

set_option Elab.async false
set_option linter.all false
set_option autoImplicit false
set_option maxRecDepth 100000
set_option maxHeartbeats 4000000
/-! The layer, part V: tuples whose object is known (for t.index), tuples of several kinds, or. -/
namespace Cs
open PySem PySem.Spec PyProof.Rows L2
def plainT (ob : Obj) : Prop := ob.cls = .type "tuple" ∧ ob.dict = none
def xtT (K : PySem.W.Frag) (ds : List PyData) : T := fun G v => ∃ p ob xs, v = .ref p ∧ G p = some (.frz ob (.tup xs)) ∧ plainT ob ∧ DpAll K G xs ds
section
variable {K : PySem.W.Frag} {W : Option Addr} {G H H0 : Hp} {v : V} {ds : List PyData}
theorem xt_dat (h : up (xtT K ds) G v) : up (dat K (.tuple ds)) G v := fun G' l => by
  obtain ⟨p, ob, xs, rfl, e, _, r⟩ := h G' l
  exact .tup (.inl (.inr ⟨ob, e⟩)) r
theorem new_xt {vs : List V} (f : Frm K W G H) (r : DpAll K G vs ds) {p : Addr} (hp : H p = none) {ob : Obj} (hx : plainT ob) :
    Step K W G H (upd G p (.frz ob (.tup vs))) (upd H p (.frz ob (.tup vs))) ∧ EntOk W H (upd G p (.frz ob (.tup vs))) (upd H p (.frz ob (.tup vs))) (.ref p) (.fro (xtT K ds)) :=
  ⟨Step.lay f hp, fun G' l => ⟨p, ob, vs, rfl, l _ _ upd_same, hx, Lk.datAll (Lk.trans (same_new (f.free hp)) l) r⟩⟩
end
def tTupX (t : TA) : TE := fun σ H Q => t σ H fun xs H1 => xs.length ≤ sizeLine ∧ ∀ p ob, H1 p = none → plainT ob → Q (.ref p) (upd H1 p (.frz ob (.tup xs)))
theorem pe_tupX {X : Cx} {es : List Expr} {t : TA} {x1 : Nat} {pos : Pos} (h : PA X es t) : PE X (.Tuple es x1 pos) (tTupX t) := by
  refine ⟨fun pins s σ H Q I hq => ?_⟩
  refine wpAny_Tuple_spliced (thn (h.run pos pins s σ H _ I hq) fun us s1 ⟨xs, H1, I1, r, z, q⟩ => ⟨by rw [← r.length]; exact z, ?_⟩)
  have hf : H1 s1.heap.objs.size = none := I1.hok.fresh (Nat.le_refl _)
  refine ⟨.ref s1.heap.objs.size, upd H1 s1.heap.objs.size (.frz { cls := .type "tuple", data := .seq us.toArray } (.tup xs)), I1.laid (t' := s1.toks) (fun b u e => Heap.get?_push_of_some _ e) (Nat.le_refl _) ?_, rfl, q _ _ hf ⟨rfl, rfl⟩⟩
  exact ⟨Heap.get?_push_size _ rfl, z, us, r, ⟨_, Heap.get?_push_size _ rfl, rfl, _, rfl⟩⟩
theorem call_tupX {X : Cx} : CallR X (.type "tuple") (fun xs H Q => ∃ p ys, xs = [V.ref p] ∧ SqL X.K H p ys ∧ ∀ q ob, H q = none → plainT ob → Q (.ref q) (upd H q (.frz ob (.tup ys)))) := by
  intro pins s σ H xs us Q I rr h
  obtain ⟨p, ys, rfl, hs, q⟩ := h
  obtain ⟨u, rfl, rx⟩ := rr.one
  cases rx
  obtain ⟨its, rv, pl, hz⟩ := I.list hs
  refine call_tuple_list pl.isList (fun h' hk => ?_) (by rw [List.size_toArray, ← rv.length]; exact hz)
  have I1 : Inv X pins σ H { s with heap := h' } := I.kept (t' := s.toks) hk
  have I2 : Inv X pins σ (upd H h'.objs.size (.frz { cls := .type "tuple", data := .seq its.toArray } (.tup ys))) { s with heap := h'.push { cls := .type "tuple", data := .seq its.toArray } } :=
    I1.laid (t' := s.toks) (fun b o e => Heap.get?_push_of_some _ e) (Nat.le_refl _) ⟨Heap.get?_push_size _ rfl, hz, its, rv, IsTup.new _ _⟩
  exact ⟨.ref h'.objs.size, _, I2, rfl, q _ _ (I1.hok.fresh (Nat.le_refl _)) ⟨rfl, rfl⟩⟩
section
variable {P : Program} {w : World} {K : PySem.W.Frag} {mg : Str → Option Value} {base : Heap} {k : Nat} {X : Cx} {W : Option Addr} {Γ : En} {p p2 q pos spos apos cpos : Pos} {a b : Expr} {rest es : List Expr} {ds : List PyData} {d e : PyData} {t : T} {ts : List T} {G H H0 : Hp} {v : V}
theorem ev_tupX {x1 : Nat} (h : Ead X K W Γ es ds) (hl : ds.length ≤ sizeLine := by exact Nat.le_of_ble_eq_true rfl) : Ev X K W Γ (.Tuple es x1 pos) (.fro (xtT K ds)) :=
  peI (pe_tupX h) fun σ H Q ⟨H0, G, f, en, k⟩ => ⟨H0, G, f, en, fun vs H1 G1 s1 q1 => ⟨by rw [q1.length]; exact hl, fun p ob hp hx => by
    obtain ⟨s2, q2⟩ := new_xt s1.frm q1 hp hx
    exact k (.ref p) _ _ (s1.trans s2) (q2.back fun a z => s1.free z)⟩⟩
theorem ev_tupleX (c : Cok P w K mg base k X) (hm : mg "tuple" = none) (ha : Ea X K W Γ [a] [Dt K (.list ds)]) (hg : Gl X "tuple" := by rfl) (he : A1 X a := by rfl) : Ev X K W Γ (.Call (.Name "tuple" p) [a] [] pos) (.fro (xtT K ds)) :=
  ev_callT c call_tupX (fun H0 G H vs f hb q Q k => by
    obtain ⟨v, rfl, q1⟩ := args1 q
    obtain ⟨p, xs, rfl, hs, hd⟩ := dt_list q1
    refine ⟨p, xs, rfl, by rw [c.hK]; exact f.seqL hs, fun l ob hl hx => ?_⟩
    obtain ⟨s2, q2⟩ := new_xt f hd hl hx
    exact k _ _ _ s2 (q2.back hb)) hm (by decide +kernel) ha hg (he := he)
theorem ev_xd (h : Ev X K W Γ a (.fro (xtT K ds))) : Ev X K W Γ a (Dt K (.tuple ds)) := ev_to h fun _ _ _ _ q => xt_dat q
/-- t.index(x), t a tuple of texts -/
theorem ev_tIndex {ys : List Str} {z : Str} {j : Nat} (c : Cok P w K mg base k X) (ha : Ev X K W Γ a (.fro (xtT K (ys.map .str)))) (hb : Ev X K W Γ b (Dt K (.str z))) (hj : ys[j]? = some z) (hno : ∀ m, m < j → ys[m]? ≠ some z)
    (hbase : attributeBase a "index" X.env (eval a X.env) = eval a X.env := by rfl)
    (hfew : ((backTo cpos (starEach [b] X.env)).all (fun x => !x.1) && (backToKw cpos (keywordEach [] X.env)).all (fun x => x.1.isSome)
      && decide ([b].length + ([] : List Keyword).length + (if ([] : List Keyword).isEmpty then 0 else 1) < 30)) = true := by rfl)
    (hline : (apos.endLine == cpos.line) = true := by rfl) (hs1 : starEach [b] X.env = (false, eval b X.env) :: starEach [] X.env := by rfl) : Ev X K W Γ (.Call (.Attribute a "index" apos) [b] [] cpos) (Dt K (.int (j : Nat))) := by
  refine ⟨fun pins s σ H Q I h => ?_⟩
  refine wpAny_Call_method (T := "tuple") (id := "tuple.index") hbase hfew hline PySem.F.plainAttrs_tuple PySem.F.slot_tuple_index PySem.F.type_tuple_index ?_
  obtain ⟨H0, G, f, en, kk⟩ := h
  refine thn (ha.run pins s σ H (fun v H1 => ∃ G1, Step K W G H G1 H1 ∧ EntOk W H G1 H1 v (.fro (xtT K (ys.map .str)))) I ⟨H0, G, f, en, fun v H1 G1 s1 q1 => ⟨G1, s1, q1⟩⟩) fun u s1 ⟨x, H1, I1, rx, G1, st1, q1⟩ => ?_
  obtain ⟨p, ob, xs, rfl, e1, hx, hd⟩ := up.now q1
  obtain rfl : u = Value.ref p := rx
  have eH := st1.frm.1 _ _ e1
  have ho : s1.heap.get? p = some ob := (show ObjOk X.prog X.w H1 s1.heap p (.frz ob (.tup xs)) from I1.hok p _ eH).1
  refine ⟨⟨ob, ho, hx.1⟩, fun a ea => by cases ea; exact ⟨ob, ho, hx.2⟩, ?_⟩
  have hA := (ea_cons hb ea_nil hs1 : Ea X K W Γ [b] [Dt K (.str z)]).run cpos pins s1 σ H1 (fun vs H2 => Q (.int (j : Nat)) H2 ∧ vs = [.str z] ∧ ∃ p', SqT X.K H2 p (ys.map V.str) ∧ p' = p) I1 ⟨H0, G1, st1.frm, en.step st1, fun vs H2 G2 s2 q2 => by
    obtain ⟨y, rfl, qy⟩ := args1 q2
    rw [dpStrs hd] at e1
    refine ⟨kk _ H2 G2 (st1.trans s2) (dt_of (.int _)), by rw [dt_str qy], p, ?_, rfl⟩
    exact .inl (.inr ⟨ob, s2.frm.1 _ _ (s2.gro _ _ e1)⟩)⟩
  rw [hs1] at hA ⊢
  refine Calls.callWith_builtin (by rfl) (Calls.evalArgs_plain ?_)
  exact thn hA fun us s2 ⟨vs, H2, I2, r2, q2, ev, p', hs, _⟩ => mt_tup_index pins s2 σ H2 (.ref p) vs (.ref p) us Q I2 rfl r2 ⟨p, ys, z, j, rfl, ev, hs, hj, hno, q2⟩
/-- an item of a tuple of several kinds -/
theorem ev_ixTT {i : Int} (c : Cok P w K mg base k X) (ha : Ev X K W Γ a (.fro (tupT K ts))) (hb : Ev X K W Γ b (Dt K (.int i))) (hi : atI ts i = some t) (hp : PlainIx b := by exact fun _ _ => rfl) : Ev X K W Γ (.Subscript a b pos) (.fro t) :=
  peI (pe_ix ix_tup ha hb hp) fun σ H Q ⟨H0, G, f, en, k⟩ => pre2 rfl rfl f en fun x y H2 G2 s q1 q2 => by
    obtain ⟨p, xs, rfl, hs, hd⟩ := up.now q1
    have hv : ∃ v, atI xs i = some v ∧ up t G2 v := by
      unfold atI at hi ⊢
      rw [hd.length]
      cases z : ixN ts.length i with
      | none => rw [z] at hi; cases hi
      | some j => rw [z] at hi; exact hd.get hi
    obtain ⟨v, h1, h2⟩ := hv
    exact ⟨p, xs, i, v, rfl, dt_int q2, by rw [c.hK]; exact s.frm.seqT hs, h1, k v H2 G2 s h2⟩
/-- a display of several kinds -/
theorem tsOk_of : ∀ {vs : List V} {ts : List T} {W : Option Addr} {H0 G H : Hp}, EntsOk W H0 G H vs (ts.map Ent.fro) → TsOk G vs ts
  | [], [], _, _, _, _, _ => trivial
  | _ :: _, _ :: _, _, _, _, _, h => ⟨h.1, tsOk_of h.2⟩
  | [], _ :: _, _, _, _, _, h => h.elim
  | _ :: _, [], _, _, _, _, h => h.elim
theorem ev_tupT {x1 : Nat} (ts : List T) (h : Ea X K W Γ es (ts.map Ent.fro)) (hl : ts.length ≤ sizeLine := by exact Nat.le_of_ble_eq_true rfl) : Ev X K W Γ (.Tuple es x1 pos) (.fro (tupT K ts)) :=
  peI (pe_tup h) fun σ H Q ⟨H0, G, f, en, k⟩ => ⟨H0, G, f, en, fun vs H1 G1 s1 q1 => ⟨by rw [(tsOk_of q1).length]; exact hl, fun p hp => by
    have gp := s1.frm.free hp
    refine k (.ref p) _ _ (s1.trans (Step.lay s1.frm hp)) fun G' l => ⟨p, vs, rfl, SqT.of (l _ _ upd_same), (tsOk_of q1).lk (Lk.trans (same_new gp) l)⟩⟩⟩
/-- a or b, texts -/
theorem ev_orS {l m : List Nat} (c : Cok P w K mg base k X) (ha : Ev X K W Γ a (Dt K (.str (txt l)))) (hb : Ev X K W Γ (.BoolOp .Or (b :: rest) pos) (Dt K (.str (txt m)))) (hz : l.length ≤ 16777216 := by omega) : Ev X K W Γ (.BoolOp .Or (a :: b :: rest) pos) (Dt K (.str (txt (if l.isEmpty then m else l)))) :=
  peI (pe_orT ha hb) fun σ H Q ⟨H0, G, f, en, k⟩ => ⟨H0, G, f, en, fun v H1 G1 s1 q1 => by
    rw [dt_str q1]
    refine ⟨((l.length : Int) != 0), ⟨by rw [txt_len]; exact hz, by rw [txt_len]⟩, ?_⟩
    cases l with
    | nil => exact iteF ⟨H0, G1, s1.frm, en.step s1, fun v2 H2 G2 s2 q2 => k v2 H2 G2 (s1.trans s2) (q2.back fun a z => s1.free z)⟩
    | cons x r =>
      have e : ((((x :: r).length : Nat) : Int) != 0) = true := by rw [bne_iff_ne]; simp; omega
      rw [e]
      exact iteT (k _ H1 G1 s1 (dt_of (.str _)))⟩
/-- None or b -/
theorem ev_orN (c : Cok P w K mg base k X) (ha : Ev X K W Γ a (Dt K .none)) (hb : Ev X K W Γ (.BoolOp .Or (b :: rest) pos) (Dt K d)) : Ev X K W Γ (.BoolOp .Or (a :: b :: rest) pos) (Dt K d) :=
  peI (pe_orT ha hb) fun σ H Q ⟨H0, G, f, en, k⟩ => ⟨H0, G, f, en, fun v H1 G1 s1 q1 => by
    rw [dt_none q1]
    exact ⟨false, rfl, iteF ⟨H0, G1, s1.frm, en.step s1, fun v2 H2 G2 s2 q2 => k v2 H2 G2 (s1.trans s2) (q2.back fun a z => s1.free z)⟩⟩⟩
end
end Cs

set_option Elab.async false
set_option linter.all false
set_option autoImplicit false
set_option maxRecDepth 100000
set_option maxHeartbeats 4000000
/-! The layer, part W: a, *b = t. -/
namespace Cs
open PySem PySem.Spec PyProof.Rows L2
theorem walks_shift {prog : Program} {w : World} {A : Around} {I : Addr} {fp wr : List Addr} {n : Nat} {P : Nat → Value → Prop} {St : Nat → Heap → Prop} (W : Walks prog w A I fp wr n P St) (k : Nat) (hk : k ≤ n) :
    Walks prog w A I fp wr (n - k) (fun i v => P (i + k) v) (fun i h => St (i + k) h) where
  sub := W.sub
  frame := fun i h h' st hk => W.frame (i + k) h h' st hk
  item := fun i s Q E hi st hQ => W.item (i + k) s Q E (by omega) st fun v h' tk hP st' hm => hQ v h' tk hP (by rw [show i + 1 + k = i + k + 1 by omega]; exact st') hm
  done := fun s Q E st hQ => W.done s Q E (by rw [show n - k + k = n by omega] at st; exact st) hQ
  self := fun i s Q E st hQ => W.self (i + k) s Q E st hQ
section
variable {prog : Program} {w : World} {A : Around} {E : Value → Shared → Prop} {s : Shared}
theorem unpack_star1 {t : Addr} {items : Array Value} {x0 : Value} {rest : List Value} {Q : List Value → Shared → Prop} (hh : A.handled = none) (ht : IsTup s.heap t items) (hi : items.toList = x0 :: rest) (hz : items.size ≤ sizeLine)
    (hQ : ∀ (h' : Heap) (tk : Nat), (∀ b o, s.heap.get? b = some o → h'.get? b = some o) → Q [x0, .ref h'.objs.size] { s with heap := h'.push { cls := .type "list", data := .seq rest.toArray }, toks := tk }) :
    wpAny (model prog w) A (unpackItems (.ref t) 2 (some 1)) Q E s := by
  have hlt : t ≠ s.heap.objs.size := by obtain ⟨o, ho, _⟩ := ht; exact Nat.ne_of_lt (Heap.lt_size ho)
  have hsz : items.size = rest.length + 1 := by rw [← Array.length_toList, hi]; rfl
  unfold unpackItems
  refine wpAny_bind ?_
  unfold notIterableAtAll
  refine wpAny_bind (wpAny_specialOf ht.typeIs slot_tuple_iter.lookup ?_)
  refine wpAny_pure ?_
  simp only [Bool.false_eq_true, if_false]
  refine wpAny_bind (wpAny_holding (iter_tuple ht ?_))
  refine wpAny_bind (wpAny_holding (draw_tuple hlt 1 0 _ _ ⟨_, Heap.get?_push_size _ rfl, rfl, rfl⟩ (ht.push _) (by omega) fun h₁ hit₁ hs₁ => ?_))
  have hf : List.take 1 (List.drop 0 items.toList) = [x0] := by rw [hi]; rfl
  rw [hf]
  rw [if_neg (by simp)]
  have ht₁ : IsTup h₁ t items := (ht.push _).extBut hs₁.extBut hlt
  have hkeep : ∀ b o, s.heap.get? b = some o → h₁.get? b = some o := fun b o e => (hs₁.2 b (Nat.ne_of_lt (Heap.lt_size e))).trans (Heap.get?_push_of_some _ e)
  have W := walks_shift (Walks.tuple (prog := prog) (w := w) (A := A.in1) hh s.heap.objs.size t hlt items) 1 (by omega)
  have lt1 : s.heap.objs.size < h₁.objs.size := by obtain ⟨o, e, _⟩ := hit₁; exact Heap.lt_size e
  have lt2 : t < h₁.objs.size := by obtain ⟨o, e, _⟩ := ht₁; exact Heap.lt_size e
  refine wpAny_bind (wpAny_holding (wpAny_collect_iter (T := "tuple_iterator") (.inr (.inr (.inr rfl))) W.toS (fun i s' st => ?_) ⟨hit₁, ht₁⟩ (fun b hb => ?_) (by simp) (fun s' acc hm hacc => ?_) (by omega)))
  · exact st.1.typeIs
  · have e : b = s.heap.objs.size ∨ b = t := by simpa using hb
    rcases e with e | e
    · rw [e]; exact lt1
    · rw [e]; exact lt2
  · have hl : acc.toList = rest := by
      apply List.ext_getElem?
      intro j
      by_cases hj : j < rest.length
      · have hja : j < acc.size := by rw [hacc.1]; omega
        have h1 := hacc.2 j acc[j] (Array.getElem?_eq_getElem hja)
        rw [Array.getElem?_toList, Array.getElem?_eq_getElem hja, ← h1, ← Array.getElem?_toList, hi]
        rfl
      · rw [List.getElem?_eq_none (by rw [Array.length_toList, hacc.1]; omega), List.getElem?_eq_none (by omega)]
    rw [hl]
    show wpAny _ _ (if rest.length < 2 - 1 - 1 then _ else _) _ _ _
    rw [if_neg (by omega)]
    obtain ⟨h', g', d', tk', os'⟩ := s'
    have eg : g' = s.gens := hm.gens
    have ed : d' = s.drawn := hm.drawn
    have eo : os' = s.os := hm.os
    subst eg
    subst ed
    subst eo
    have e1 : List.take (rest.length - (2 - 1 - 1)) rest = rest := List.take_of_length_le (by omega)
    have e2 : List.drop (rest.length - (2 - 1 - 1)) rest = [] := List.drop_of_length_le (by omega)
    rw [e1, e2]
    refine wpAny_bind (wpAny_newObj_type ?_ (by simp only [sizeOk, List.size_toArray]; omega))
    refine wpAny_pure ?_
    refine hQ h' tk' fun b o e => hm.heap b o (fun z => ?_) (hkeep b o e)
    have : b = s.heap.objs.size := by simpa using z
    exact Nat.ne_of_lt (Heap.lt_size e) this
end
/-- a, *b = t -/
def gStar (K : PySem.W.Frag) (t : TGs) : TG := fun v σ H Q => ∃ a x0 xs, v = .ref a ∧ SqT K H a (x0 :: xs) ∧ ∀ p, H p = none → t [x0, .ref p] σ (upd H p (.lst xs)) Q
theorem pg_star {X : Cx} {es : List Expr} {k : Nat} {t : TGs} {pos : Pos} (hc : X.calm = true) (h : PGs X es t) (hn : (assignEach es X.env).length = 2 := by rfl) (hst : (assignEach es X.env).findIdx? (·.1) = some 1 := by rfl) : PG X (.Tuple es k pos) (gStar X.K t) := by
  refine ⟨fun pins s σ H v u Q I r hw => ?_⟩
  obtain ⟨a, x0, xs, e1, hq, hw⟩ := hw
  subst e1
  cases r
  obtain ⟨its, rv, ht, hz⟩ := I.tuple hq
  cases rv with
  | cons r0 rt =>
    rename_i u0 us
    rw [assign_Tuple]
    refine wpAny_bind (wpAny_standAt ?_)
    unfold unpack
    rw [hn, hst]
    refine wpAny_bind (wpAny_holding (unpack_star1 (x0 := u0) (rest := us) (I.ok.hd hc) ht (by simp) (by rw [List.size_toArray]; have := rt.length; simp at hz ⊢; omega) fun h' tk hk => ?_))
    have I1 : Inv X pins σ H { s with heap := h', toks := tk } := I.kept hk
    have hf : H h'.objs.size = none := I1.hok.fresh (Nat.le_refl _)
    have I2 : Inv X pins σ (upd H h'.objs.size (.lst xs)) { s with heap := h'.push { cls := .type "list", data := .seq us.toArray }, toks := tk } :=
      I1.laid (t' := tk) (fun b o e => Heap.get?_push_of_some _ e) (Nat.le_refl _) ⟨by simp at hz; omega, us, 0, rt, Heap.get?_push_size _ rfl⟩
    exact h.run pins _ σ _ [x0, .ref h'.objs.size] [u0, .ref h'.objs.size] Q I2 (.cons r0 (.cons rfl .nil)) (hw _ hf)
section
variable {P : Program} {w : World} {K : PySem.W.Frag} {mg : Str → Option Value} {base : Heap} {k : Nat} {X : Cx} {W : Option Addr} {Γ : En} {x y : Str} {pos px py pt ps : Pos} {k1 : Nat} {a : Expr} {ds : List PyData} {d : PyData} {B C : As} {R : Ent}
theorem sr_star (i j : Nat) (c : Cok P w K mg base k X) (ha : Ev X K W Γ a (Dt K (.tuple (d :: ds)))) (hi : X.N[i]? = some x := by rfl) (hj : X.N[j]? = some y := by rfl) (hx : Loc X.env.scope x := by first | exact Or.inl rfl | exact Or.inr rfl) (hy : Loc X.env.scope y := by first | exact Or.inl rfl | exact Or.inr rfl)
    (hfx : X.fn x = true ∨ X.env.scope.names.lookup x = some .local := by first | exact .inl rfl | exact .inr rfl) (hfy : X.fn y = true ∨ X.env.scope.names.lookup y = some .local := by first | exact .inl rfl | exact .inr rfl)
    (hs : swapsWithSole [.Tuple [.Name x px, .Starred (.Name y py) ps] k1 pt] a pos.line X.env = pure false := by rfl) (hw : swappedStores [.Tuple [.Name x px, .Starred (.Name y py) ps] k1 pt] a X.env = pure none := by rfl)
    (h1 : (assignEach [.Tuple [.Name x px, .Starred (.Name y py) ps] k1 pt] X.env).map (·.2) = [assign (.Tuple [.Name x px, .Starred (.Name y py) ps] k1 pt) X.env] := by rfl)
    (hn : (assignEach [.Name x px, .Starred (.Name y py) ps] X.env).length = 2 := by rfl) (hst : (assignEach [.Name x px, .Starred (.Name y py) ps] X.env).findIdx? (·.1) = some 1 := by rfl)
    (hm : (assignEach [.Name x px, .Starred (.Name y py) ps] X.env).map (·.2) = (assignEach [.Name x px, .Name y py] X.env).map (·.2) := by rfl)
    (hs1 : (assignEach (.Name x px :: [.Name y py]) X.env).map (·.2) = assign (.Name x px) X.env :: (assignEach [.Name y py] X.env).map (·.2) := by rfl) (hs2 : (assignEach (.Name y py :: []) X.env).map (·.2) = assign (.Name y py) X.env :: (assignEach [] X.env).map (·.2) := by rfl) :
    Sr X K W (.Assign [.Tuple [.Name x px, .Starred (.Name y py) ps] k1 pt] a pos) (envA W Γ) (envA W ((Γ.set i (some (Dt K d))).set j (some (Dt K (.list ds))))) B C R := by
  have g := pgs_cons (pg_name c.hN hi hx hfx) (pgs_cons (pg_name c.hN hj hy hfy) pgs_nil hs2) hs1
  have g2 : PGs X [.Name x px, .Starred (.Name y py) ps] (gCons (gName i) (gCons (gName j) gNil)) := ⟨fun pins s σ H vs us Q I r q => by
    rw [hm]
    exact g.run pins s σ H vs us Q I r q⟩
  refine psI (ps_asg ha (pg_star c.hc g2 hn hst) hs hw h1) fun D σ H ⟨H0, G0, G, s, en, n, r⟩ => ⟨H0, G, s.frm, en, fun v H1 G1 s1 q1 => ?_⟩
  obtain ⟨p, xs, rfl, hs, hd⟩ := dt_tuple q1
  cases hd with
  | cons r0 rt =>
    refine ⟨p, _, _, rfl, by rw [c.hK]; exact s1.frm.seqT hs, fun l hl => ?_⟩
    obtain ⟨s2, q2⟩ := new_lst s1.frm rt hl
    refine ⟨_, _, rfl, _, _, rfl, rfl, n _ _ _ (s.trans (s1.trans s2)) ?_⟩
    have en2 := en.step (s1.trans s2)
    exact (en2.putF s2.frm (up_dat ((Lk.same s2.gro).dat r0)) i).putF s2.frm q2 j
end
end Cs

set_option Elab.async false
set_option linter.all false
set_option autoImplicit false
set_option maxRecDepth 100000
set_option maxHeartbeats 4000000
/-! The layer, part Y: objects are made. -/
namespace Cs
open PySem PySem.Spec PyProof.Rows L2
def FdsOk (G : Hp) (fs : List (Str × V)) (fl : Flds) : Prop := fs.length ≤ fl.length ∧ (∀ f, fl.lookup f = none → fs.lookup f = none) ∧ ∀ f t, fl.lookup f = some t → ∃ u, fs.lookup f = some u ∧ up t G u
def insO (x C : Addr) (fl : Flds) : OwnP := fun a G o => a = x ∧ ∃ dx fs, o = .ins C dx fs ∧ FdsOk G fs fl
/-- the object at x, made -/
def objX (x C : Addr) (fl : Flds) : T := fun G v => v = .ref x ∧ up (obj C fl) G v
theorem FdsOk.put {G G' : Hp} {fs : List (Str × V)} {fl : Flds} {f : Str} {t : T} {v : V} (h : FdsOk G fs fl) (l : Lk G G') (hv : up t G' v) : FdsOk G' (L2.putF f v fs) ((f, t) :: fl) := by
  refine ⟨Nat.le_trans (length_putF f v fs) (Nat.succ_le_succ h.1), fun g e => ?_, fun g t' e => ?_⟩
  · by_cases z : g = f
    · subst z; rw [List.lookup_cons_self] at e; cases e
    · rw [List.lookup_cons, show (g == f) = false from beq_eq_false_iff_ne.mpr z] at e
      rw [lookup_putF, if_neg z]
      exact h.2.1 g e
  · by_cases z : g = f
    · subst z
      rw [List.lookup_cons_self] at e
      cases e
      exact ⟨v, by rw [lookup_putF, if_pos rfl], hv⟩
    · rw [List.lookup_cons, show (g == f) = false from beq_eq_false_iff_ne.mpr z] at e
      obtain ⟨u, a, b⟩ := h.2.2 g t' e
      exact ⟨u, by rw [lookup_putF, if_neg z]; exact a, up.lk b l⟩
theorem FdsOk.obj {G : Hp} {C dx p : Addr} {fs : List (Str × V)} {fl : Flds} (h : FdsOk G fs fl) (e : G p = some (.ins C dx fs)) : up (obj C fl) G (.ref p) := fun G' l =>
  ⟨p, dx, fs, rfl, l _ _ e, h.2.1, fun f t e => by obtain ⟨u, a, b⟩ := h.2.2 f t e; exact ⟨u, a, b G' l⟩⟩
section
variable {K : PySem.W.Frag} {W : Option Addr} {G H H0 : Hp} {v : V} {e : Ent} {Γ : En} {σ : L2.St}
theorem EnvOk.reent (h : EnvOk W H0 G H σ Γ) {i : Nat} (hv : σ[i]? = some (some v)) (q : EntOk W H0 G H v e) (no : ∀ (j : Nat) (o : OwnP), Γ[j]? ≠ some (some (.own o))) : EnvOk W H0 G H σ (Γ.set i (some e)) := by
  have at_ : ∀ (j : Nat) (o : OwnP), (Γ.set i (some e))[j]? = some (some (.own o)) → j = i := fun j o g => by
    by_cases z : i = j
    · exact z.symm
    · rw [List.getElem?_set_ne z] at g
      exact absurd g (no j o)
  refine ⟨by rw [List.length_set]; exact h.len, fun j e1 g => ?_, fun j1 j2 o1 o2 p g1 g2 _ _ => (at_ _ _ g1).trans (at_ _ _ g2).symm⟩
  by_cases z : i = j
  · subst z
    by_cases l : i < Γ.length
    · rw [List.getElem?_set_self l] at g
      cases g
      exact ⟨v, hv, q⟩
    · rw [List.getElem?_eq_none (by rw [List.length_set]; omega)] at g
      cases g
  · rw [List.getElem?_set_ne z] at g
    exact h.at_ j e1 g
end
def anyT : T := fun _ _ => True
/-- an __init__'s promise: of arguments as told it gives the new instance its attributes -/
def spI (K : PySem.W.Frag) (C : Addr) (as : List Ent) (fl : Flds) : Sp := fun vs H Q _ => ∃ (G1 H1 : Hp) (x dx : Addr) (ws : List V), vs = .ref x :: ws ∧ H = upd (upd H1 dx (.own x)) x (.ins C dx []) ∧ H1 x = none ∧ H1 dx = none ∧ dx ≠ x ∧
  Frm K none G1 H1 ∧ EntsOk none H1 G1 H1 ws as ∧ ∀ H' G', Step K none G1 H1 G' H' → up (obj C fl) G' (.ref x) → Q .non H'
def MkOk (P : Program) (w : World) (K : PySem.W.Frag) (mg : Str → Option Value) (base : Heap) (x : Str) (C : Addr) (k : Nat) (as : List Ent) (fl : Flds) : Prop :=
  ∃ (f : Addr) (fd : FuncData) (ps : List Str), Mk K C f ∧ mg x = some (.ref C) ∧ Binds K fd ps [] ∧ FnOk P w K mg base CX0 k f fd ps (spI K C as fl)
theorem MkOk.mono {P : Program} {w : World} {K : PySem.W.Frag} {mg : Str → Option Value} {base : Heap} {x : Str} {C : Addr} {k j : Nat} {as : List Ent} {fl : Flds} (D : MkOk P w K mg base x C k as fl) (h : k ≤ j) : MkOk P w K mg base x C j as fl := by
  obtain ⟨f, fd, ps, h1, h2, h3, h4⟩ := D
  exact ⟨f, fd, ps, h1, h2, h3, h4.mono h⟩
section
variable {P : Program} {w : World} {K : PySem.W.Frag} {mg : Str → Option Value} {base : Heap} {k j : Nat} {X : Cx} {W : Option Addr} {Γ : En} {x y f : Str} {pos p p2 pos' : Pos} {a : Expr} {es : List Expr} {as : List Ent} {fl : Flds} {C s : Addr} {t : T} {N B Cc : As} {R : Ent} {rest : List Stmt}
/-- C(a, ..) -/
theorem ev_make (c : Cok P w K mg base k X) (D : MkOk P w K mg base x C j as fl) (ha : Ea X K W Γ (a :: es) as) (hj : j + 1 ≤ k := by decide) (hb : allFro as := by simp [allFro, isFro])
    (hg : Gl X x := by rfl) (hdb : (x == ("__debug__" : Str)) = false := by decide) (he : starEach (a :: es) X.env = (false, eval a X.env) :: starEach es X.env := by rfl) (hpl : (backTo pos (starEach es X.env)).any (·.1) = false := by rfl) : Ev X K W Γ (.Call (.Name x p) (a :: es) [] pos) (.fro (obj C fl)) := by
  obtain ⟨f, fd, ps, hM, hm, hbi, F⟩ := D
  obtain ⟨rfl, rfl, rfl, rfl, rfl, hr, hc, hN⟩ := c
  refine peI (pe_make hM F (hr.mono hj) hg hm hbi .nil pass0 ha hdb he hpl) fun σ H Q ⟨H0, G, f, en, k⟩ => ⟨H0, G, f, en, fun vs H1 G1 s1 q1 xa dx hx hdx ne => ?_⟩
  refine ⟨G1, H1, xa, dx, vs, by rw [List.append_nil], rfl, hx, hdx, ne, s1.frm.low, (q1.any (noOwns_of hb)).low hb, fun H' G' s2 q2 => ⟨rfl, ?_⟩⟩
  exact k _ H' G' (s1.trans (s2.lift s1.frm)) q2
/-- self.f = e, self the new instance -/
theorem sr_fld (i : Nat) (c : Cok P w K mg base k X) (hC : Cls K C) (hn : NoAttr K C f) (hv : Ev X K W Γ a (.fro t)) (hl : fl.length < 900 := by decide) (he : Γ[i]? = some (some (.own (insO s C fl))) := by rfl)
    (hN : X.N[i]? = some y := by rfl) (hvis : Vis X.env.scope y := by first | exact Or.inl rfl | exact Or.inr (Or.inl rfl) | exact Or.inr (Or.inr rfl)) (hd : (y == ("__debug__" : Str)) = false := by decide) (hcd : (y == ("__classdict__" : Str)) = false := by decide)
    (hs : swapsWith a (some (.Attribute (.Name y p2) f pos')) pos.line X.env = pure false := by rfl) :
    Sr X K W (.Assign [.Attribute (.Name y p2) f pos'] a pos) (envA W Γ) (envA W (Γ.set i (some (.own (insO s C ((f, t) :: fl)))))) B Cc R :=
  psI (ps_fld (pe_var hN hvis hd hcd) hv hs) fun D σ H ⟨H0, G0, G, st, en, n, r⟩ => ⟨H0, G, st.frm, en, fun v H1 G1 s1 q1 => by
    obtain ⟨u, hu, pa, ho, rfl, h0, gp, hp, nw, q⟩ := (en.step s1).at_ i _ he
    obtain ⟨ea, dx, fs, rfl, qf⟩ := q _ (Lk.refl _)
    refine ⟨.ref pa, hu, pa, C, dx, fs, rfl, hp, by rw [c.hK]; exact hC, by rw [c.hK]; exact hn, Nat.lt_of_le_of_lt qf.1 (by omega), n σ _ G1 ((st.trans s1).chg h0 gp nw.1) ?_⟩
    exact (en.step s1).chg he hu True.intro fun G' l => ⟨ea, dx, _, rfl, qf.put l (up.lk q1 l)⟩⟩
/-- the instance is made -/
theorem srs_obj (i : Nat) (h : Srs X K W rest (envA W (Γ.set i (some (.fro (objX s C fl))))) N B Cc R) (he : Γ[i]? = some (some (.own (insO s C fl))) := by rfl) : Srs X K W rest (envA W Γ) N B Cc R :=
  srs_still i he (fun G p ho hp q all G' l => by
    obtain ⟨ea, dx, fs, rfl, qf⟩ := q
    exact ⟨by rw [ea], fun G2 l2 => by
      obtain ⟨_, dx', fs', e', qf'⟩ := all G2 (Lk.trans l l2)
      cases e'
      exact qf'.obj (l2 _ _ (l _ _ hp)) G2 (Lk.refl _)⟩) h
theorem ev_self (h : Ev X K W Γ a (.fro (objX s C fl))) : Ev X K W Γ a (.fro (obj C fl)) := ev_to h fun _ _ _ _ q G' l => (q G' l).2 G' (Lk.refl _)
/-- an __init__'s promise by its body -/
theorem mk_init {qual : Str} {params : Arguments} {body : List Stmt} {scope : Scope} {f : Addr} {fd : FuncData} {ps : List Str} (Nm : List Str) {Γ' : Addr → En} (M : Mk K C f) (hm : mg y = some (.ref C)) (F : FunD K x qual params body scope [] [] f fd) (S : FnScope Nm ps scope)
    (bi : ∀ (kV doc pm : Value) (an : Option Addr) (cdv ct : Value) (us : List Value), us.length = ps.length → bindArgs (PySem.W.fnOf x qual params body scope .none kV doc pm an cdv ct) ⟨us, []⟩ = pure (ps.zip us))
    (hl : as.length + 1 = ps.length) (n : noOwns as) (h0 : ∀ s, (Γ' s)[0]? = some (some (.fro (objX s C fl))))
    (h : ∀ (s : Addr) (X : Cx), Cok P w K mg base k X → (∃ cdv A outer sh H E, X = (cxOf CX0 P w K mg base Nm qual scope f cdv A outer sh H E).nox) → Srs X K none body (envA none (some (.own (insO s C [])) :: (initE Nm.length (.fro anyT :: as)).tail)) (envA none (Γ' s)) noA noA (.fro fun _ _ => False)) : MkOk P w K mg base y C (k + 1) as fl := by
  refine ⟨f, fd, ps, M, hm, F.bindsN bi, F.ok S (fun vs H Q E q => ?_) (fun cdv A outer s H vs Q E hr q => ?_)⟩
  · obtain ⟨G1, H1, x, dx, ws, rfl, _, _, _, _, _, q, _⟩ := q
    show ws.length + 1 = _
    rw [q.length]
    exact hl
  · obtain ⟨G1, H1, xa, dx, ws, rfl, rfl, hx, hdx, ne, f, q, kk⟩ := q
    have s1 : Step K none G1 H1 G1 (upd H1 dx (.own xa)) := Step.mine f hdx
    have hx1 : (upd H1 dx (.own xa)) xa = none := by rw [upd_ne (Ne.symm ne)]; exact hx
    have s2 := s1.trans (Step.mine (o := .ins C dx []) s1.frm hx1)
    have en0 : EnvOk none H1 G1 (upd (upd H1 dx (.own xa)) xa (.ins C dx [])) (L2.start Nm (.ref xa :: ws)) (initE Nm.length (.fro anyT :: as)) :=
      env_init S.pre (by show as.length + 1 = _; exact hl) (show EntOk none H1 G1 _ (.ref xa) (.fro anyT) ∧ EntsOk none H1 G1 _ ws as from And.intro (fun _ _ => trivial) (q.step s2)) ⟨trivial, n⟩
    have lt : 0 < Nm.length := by
      have h1 : (Nm.take ps.length).length = ps.length := by rw [S.pre]
      rw [List.length_take] at h1
      omega
    have en1 := en0.reent (i := 0) (v := .ref xa) (e := .own (insO xa C [])) (by unfold L2.start; rfl) ⟨xa, _, rfl, hx, f.free hx, upd_same, ⟨(fun z => nomatch z), True.intro⟩, fun G' l => ⟨rfl, dx, [], rfl, Nat.le_refl _, fun _ _ => rfl, fun f t e => by cases e⟩⟩ (fun j o g => by
      have key : ∀ (as : List Ent) (i : Nat) (o : OwnP), noOwns as → as[i]? = some (.own o) → False := by
        intro as
        induction as with
        | nil => intro i o _ g; simp at g
        | cons e es ih =>
          intro i o n g
          cases i with
          | zero => simp at g; subst g; exact n.1
          | succ i => exact ih i o n.2 (by simpa using g)
      unfold initE at g
      by_cases l : j < (Ent.fro anyT :: as).length
      · rw [List.getElem?_append_left (by rw [List.length_map]; exact l), List.getElem?_map] at g
        cases z : (Ent.fro anyT :: as)[j]? with
        | none => rw [z] at g; cases g
        | some e' => rw [z] at g; cases g; exact key (.fro anyT :: as) j o ⟨trivial, n⟩ z
      · rw [List.getElem?_append_right (by rw [List.length_map]; omega), List.getElem?_replicate] at g
        split at g <;> cases g)
    refine ⟨_, PSs.nox (h xa _ ⟨rfl, rfl, rfl, rfl, rfl, hr, rfl, S.nd⟩ ⟨cdv, A, outer, s, _, E, rfl⟩), ?_⟩
    refine ⟨H1, G1, G1, s2, en1, fun σ' H' G' s' en' => ?_, fun v H' G' s' z => (z G' (Lk.refl _) : False).elim, (fun _ _ _ _ z => z.elim), (fun _ _ _ _ z => z.elim)⟩
    obtain ⟨v, _, qv⟩ := en'.at_ 0 _ (h0 xa)
    have e := (up.now qv).1
    subst e
    exact kk H' G' s' fun G2 l => (qv G2 l).2 G2 (Lk.refl _)
end
end Cs

set_option Elab.async false
set_option linter.all false
set_option autoImplicit false
set_option maxRecDepth 100000
set_option maxHeartbeats 4000000
/-! The layer, part Z: [f x y for x in xs for y in ys]. -/
namespace Cs
open PySem PySem.Spec PyProof.Rows L2
section
variable {P : Program} {w : World} {K : PySem.W.Frag} {mg : Str → Option Value} {base : Heap} {k : Nat} {X : Cx} {W : Option Addr} {Γ : En} {pos spos : Pos} {elt tg iter tg1 iter1 : Expr} {scope : Scope} {own : List (Str × Nat)} {α β : Type} {js js1 : List Nat} {B C : As} {R : Ent} {vs1 : List Nat}
def noOwnE (Γ : En) : Prop := ∀ (j : Nat) (o : OwnP), Γ[j]? ≠ some (some (.own o))
theorem EnvOk.grow {W : Option Addr} {H0 G G' H H' : Hp} {σ : L2.St} {Γ : En} (h : EnvOk W H0 G H σ Γ) (n : noOwnE Γ) (l : Same G G') : EnvOk W H0 G' H' σ Γ :=
  ⟨h.len, fun i e g => by
    obtain ⟨v, hv, q⟩ := h.at_ i e g
    refine ⟨v, hv, ?_⟩
    cases e with
    | fro t => exact up.lk q l
    | own o => exact absurd g (n i o)
    | bag => exact q, h.sep⟩
theorem lc2_run {xs : List α} {ys : List β} {enc : α → T} {enc1 : β → T} {Jt : α → En} {Jt1 : α → β → En} {f : α → β → PyData} (js2 : ∀ j ∈ js, j ∈ own.map (·.2)) (js3 : ∀ j ∈ js1, j ∈ vs1) (hno : ∀ y ∈ xs, noOwnE (Jt y)) (hz : xs.length * ys.length ≤ 16777000) {σ : L2.St} {H : Hp} {Q : VK}
    (h : cE K W Γ (.own (lstO K (xs.flatMap fun x => ys.map (f x)))) σ H Q) :
    tLc2 (cI K W Γ (xs.map enc)) (fun v σ H Q => ∃ y : α, y ∈ xs ∧ cG K W (wipeE Γ (own.map (·.2))) (enc y) (Jt y) js v σ H Q) (fun σ H Q => ∃ y : α, y ∈ xs ∧ cT K W (Jt y) (fun b => b = true) σ H Q)
      (fun σ H R => ∃ y : α, y ∈ xs ∧ cI K W (Jt y) (ys.map enc1) σ H R) (fun v σ H Q => ∃ z : α × β, (z.1 ∈ xs ∧ z.2 ∈ ys) ∧ cG K W (wipeE (Jt z.1) vs1) (enc1 z.2) (Jt1 z.1 z.2) js1 v σ H Q) (fun σ H Q => ∃ z : α × β, (z.1 ∈ xs ∧ z.2 ∈ ys) ∧ cT K W (Jt1 z.1 z.2) (fun b => b = true) σ H Q)
      (fun σ H Q => ∃ z : α × β, (z.1 ∈ xs ∧ z.2 ∈ ys) ∧ cE K W (Jt1 z.1 z.2) (Dt K (f z.1 z.2)) σ H Q) (own.map (·.2)) vs1 σ H Q := by
  obtain ⟨H0, G, fr, en, kk⟩ := h
  refine ⟨H0, G, fr, en, fun It H1 G1 s1 gv D hD => ?_⟩
  have nD : W ≠ some D := s1.frm.neB hD
  have freeD : ∀ {G' G'' H' H'' : Hp}, Step K W G' H' G'' H'' → G' D = none → (∃ o, H' D = some (.lst o)) → G'' D = none := fun {G' G'' H' H''} s g ⟨o, e⟩ => by
    cases q : G'' D with
    | none => rfl
    | some u =>
      rcases s.new D u g q with z | ⟨xs, z⟩
      · rw [e] at z
        cases z
      · rw [e] at z
        cases z
  let res : Nat → List PyData := fun i => (xs.take i).flatMap fun x => ys.map (f x)
  let Pw : Nat → Hp → Prop := fun i H' => ∃ G' vs, Step K W G1 H1 G' H' ∧ G' D = none ∧ H' D = some (.lst vs) ∧ DpAll K G' vs (res i)
  have len : ∀ l : List α, (l.flatMap fun x => ys.map (f x)).length = l.length * ys.length := fun l => by
    induction l with
    | nil => simp
    | cons x r ih => rw [List.flatMap_cons, List.length_append, ih, List.length_map, List.length_cons, Nat.succ_mul, Nat.add_comm]
  refine ⟨fun i m H' => m = xs.length - i ∧ i ≤ xs.length ∧ Pw i H', ⟨xs.length, by simp, Nat.zero_le _, G1, [], Step.mine s1.frm hD, s1.frm.free hD, upd_same, .nil⟩, ?_⟩
  rintro i m H' ⟨rfl, hi, G', vs, s, gD, eD, rD⟩
  by_cases lt : i < xs.length
  · refine .inr ⟨gv.goes i H' G' (by rw [List.length_map]; exact lt) s.frm s.gro, Pw (i + 1), fun H2 p' => ⟨xs.length - (i + 1), by omega, rfl, lt, p'⟩, fun v H2 y => ?_⟩
    obtain ⟨G2, s2, t, e, q⟩ := gv.yields i H' G' v H2 (by rw [List.length_map]; exact lt) s.frm s.gro y
    rw [List.getElem?_map, List.getElem?_eq_getElem lt] at e
    cases e
    have my : xs[i] ∈ xs := List.getElem_mem lt
    obtain ⟨e1, e2⟩ := split_at (List.getElem?_eq_getElem lt)
    have hres : res (i + 1) = res i ++ ys.map (f xs[i]) := by
      show (xs.take (i + 1)).flatMap _ = _
      rw [e2, List.flatMap_append, List.flatMap_cons, List.flatMap_nil, List.append_nil]
    refine ⟨xs[i], my, H0, G2, s2.frm, ((en.step s1).step (s.trans s2)).wipe _, q, fun σ2 en2 on2 => ⟨?_, xs[i], my, H0, G2, s2.frm, en2, fun b H3 G3 s3 hb => ?_⟩⟩
    · rw [on2.wipe js2, wipe_wipe]
    · subst hb
      have eD3 : ∃ o, H' D = some (.lst o) := ⟨_, eD⟩
      have s23 := s2.trans s3
      refine iteT ⟨xs[i], my, H0, G3, s3.frm, en2.step s3, fun J1 H4 G4 s4 gv1 => ?_⟩
      have s24 := s23.trans s4
      have gD4 := freeD s24 gD eD3
      have eD4 := s24.keep D _ eD nD
      let Qw : Nat → Hp → Prop := fun j H' => ∃ G' vs, Step K W G1 H1 G' H' ∧ Same G4 G' ∧ G' D = none ∧ H' D = some (.lst vs) ∧ DpAll K G' vs (res i ++ (ys.take j).map (f xs[i]))
      have en4 := (en2.step s3).step s4
      refine ⟨fun j k H' => k = ys.length - j ∧ j ≤ ys.length ∧ Qw j H', ⟨ys.length, by simp, Nat.zero_le _, G4, vs, s.trans s24, Same.refl _, gD4, eD4, by simpa using Lk.datAll s24.gro rD⟩, ?_⟩
      rintro j k H5 ⟨rfl, hj, G5, vs5, s5, l5, gD5, eD5, rD5⟩
      by_cases lt1 : j < ys.length
      · refine .inr ⟨gv1.goes j H5 G5 (by rw [List.length_map]; exact lt1) s5.frm l5, Qw (j + 1), fun H6 p' => ⟨ys.length - (j + 1), by omega, rfl, lt1, p'⟩, fun v H6 y1 => ?_⟩
        obtain ⟨G6, s6, t, e, q6⟩ := gv1.yields j H5 G5 v H6 (by rw [List.length_map]; exact lt1) s5.frm l5 y1
        rw [List.getElem?_map, List.getElem?_eq_getElem lt1] at e
        cases e
        have my1 : ys[j] ∈ ys := List.getElem_mem lt1
        obtain ⟨_, e4⟩ := split_at (List.getElem?_eq_getElem lt1)
        have en6 : EnvOk W H0 G6 H6 σ2 (Jt xs[i]) := en4.grow (hno _ my) (l5.trans s6.gro)
        refine ⟨(xs[i], ys[j]), ⟨my, my1⟩, H0, G6, s6.frm, en6.wipe _, q6, fun σ3 en3 on3 => ⟨?_, (xs[i], ys[j]), ⟨my, my1⟩, H0, G6, s6.frm, en3, fun b H7 G7 s7 hb => ?_⟩⟩
        · rw [on3.wipe js3, wipe_wipe]
        · subst hb
          refine iteT ⟨(xs[i], ys[j]), ⟨my, my1⟩, H0, G7, s7.frm, en3.step s7, fun u H8 G8 s8 q8 => ?_⟩
          have s68 := s6.trans (s7.trans s8)
          have gD8 := freeD s68 gD5 ⟨_, eD5⟩
          have eD8 := s68.keep D _ eD5 nD
          have lv : vs5.length < sizeLine := by
            have h1 := rD5.length
            rw [List.length_append, List.length_map, List.length_take, len] at h1
            rw [List.length_take] at h1
            have h2 : min i xs.length * ys.length + min j ys.length ≤ xs.length * ys.length := by
              have h3 : (i + 1) * ys.length ≤ xs.length * ys.length := Nat.mul_le_mul_right _ lt
              rw [Nat.min_eq_left (Nat.le_of_lt lt), Nat.min_eq_left hj]
              rw [Nat.succ_mul] at h3
              omega
            rw [sizeLine_eq]
            omega
          refine ⟨vs5, eD8, lv, G8, vs5 ++ [u], (s5.trans s68).chg hD gD8 nD, l5.trans s68.gro, gD8, upd_same, ?_⟩
          rw [e4, List.map_append, ← List.append_assoc]
          exact (Lk.datAll s68.gro rD5).append (.cons (dt_dp q8) .nil)
      · have e : j = ys.length := by omega
        subst e
        refine .inl ⟨?_, G5, vs5, s5, gD5, eD5, ?_⟩
        · have := gv1.stops H5 G5 s5.frm l5
          rw [List.length_map] at this
          exact this
        · rw [hres]
          rw [List.take_length] at rD5
          exact rD5
  · have e : i = xs.length := by omega
    subst e
    have rD' : DpAll K G' vs (xs.flatMap fun x => ys.map (f x)) := by
      have : res xs.length = xs.flatMap fun x => ys.map (f x) := by show (xs.take xs.length).flatMap _ = _; rw [List.take_length]
      rw [← this]; exact rD
    refine .inl ⟨?_, kk _ H' G' (s1.trans s) ⟨D, _, rfl, s1.free hD, gD, eD, ⟨nD, True.intro⟩, fun G2 l => ⟨vs, rfl, Lk.datAll l rD'⟩⟩⟩
    have := gv.stops H' G' s.frm s.gro
    rw [List.length_map] at this
    exact this
/-- n = [f x y for x in xs for y in ys] -/
theorem sr_setLc2 (i : Nat) (xs : List α) (ys : List β) (enc : α → T) (enc1 : β → T) (f : α → β → PyData) {Jt : α → En} {Jt1 : α → β → En} {y : Str} {py : Pos} (c : Cok P w K mg base k X) (hi : PI X tg iter (cI K W Γ (xs.map enc))) (ok : BlkOk X.N X.env.scope scope own) (hv : ∀ i ∈ vs1, i ∈ own.map (·.2))
    (hg : ∀ y ∈ xs, ∀ s H C cl fp, PG (Blk X scope s H C cl fp) tg (cG K W (wipeE Γ (own.map (·.2))) (enc y) (Jt y) js)) (hi1 : ∀ y ∈ xs, ∀ s H C cl fp, PI (Blk X scope s H C cl fp) tg1 iter1 (cI K W (Jt y) (ys.map enc1)))
    (hg1 : ∀ y ∈ xs, ∀ z ∈ ys, ∀ s H C cl fp, PG (Blk X scope s H C cl fp) tg1 (cG K W (wipeE (Jt y) vs1) (enc1 z) (Jt1 y z) js1)) (he : ∀ y ∈ xs, ∀ z ∈ ys, ∀ s H C cl fp, Ev (Blk X scope s H C cl fp) K W (Jt1 y z) elt (Dt K (f y z)))
    (js2 : ∀ j ∈ js, j ∈ own.map (·.2)) (js3 : ∀ j ∈ js1, j ∈ vs1) (hno : ∀ y ∈ xs, noOwnE (Jt y)) (hz : xs.length * ys.length ≤ 16777000) (hy : X.N[i]? = some y := by rfl) (hyl : X.env.scope.names.lookup y = some .local := by rfl)
    (hsw : swapsWith (.ListComp elt [⟨tg, iter, [], 0⟩, ⟨tg1, iter1, [], 0⟩] scope pos) (some (.Name y py)) spos.line X.env = pure true := by exact sw_true rfl rfl rfl (by decide +kernel)) (hs : ∀ x, foldedSetIterable iter X.env x = pure x := by intro _; rfl) (hs1 : ∀ env x, foldedSetIterable iter1 env x = pure x := by intro _ _; rfl) :
    Sr X K W (.Assign [.Name y py] (.ListComp elt [⟨tg, iter, [], 0⟩, ⟨tg1, iter1, [], 0⟩] scope pos) spos) (envA W Γ) (envA W (Γ.set i (some (.own (lstO K (xs.flatMap fun x => ys.map (f x))))))) B C R :=
  psI (ps_setLc2 c.hc c.hN hy hyl hsw hi ok hv (fun s H C cl fp => pg_ex (fun y => y ∈ xs) fun y hy => hg y hy s H C cl fp) (fun s H C cl fp => pts_ex (fun y => y ∈ xs) fun y hy => tsts_nil) (fun s H C cl fp => pi_ex (fun y => y ∈ xs) fun y hy => hi1 y hy s H C cl fp)
    (fun s H C cl fp => pg_ex (fun z : α × β => z.1 ∈ xs ∧ z.2 ∈ ys) fun z hz => hg1 z.1 hz.1 z.2 hz.2 s H C cl fp) (fun s H C cl fp => pts_ex (fun z : α × β => z.1 ∈ xs ∧ z.2 ∈ ys) fun z hz => tsts_nil) (fun s H C cl fp => pe_ex (fun z : α × β => z.1 ∈ xs ∧ z.2 ∈ ys) fun z hz => he z.1 hz.1 z.2 hz.2 s H C cl fp) hs hs1)
    fun D σ H ⟨H0, G0, G, s, en, n, r⟩ => lc2_run js2 js3 hno hz ⟨H0, G, s.frm, en, fun v H' G' s' q => n _ H' G' (s.trans s') (en.put s' q (fun a z => s.free z) i)⟩
end
end Cs

set_option Elab.async false
set_option linter.all false
set_option autoImplicit false
set_option maxRecDepth 100000
set_option maxHeartbeats 4000000
/-! The facts by name. (Printed by mkFa.py.) -/
namespace Cs
open PySem PySem.Spec PyProof.Rows L2
structure Ctx (w : World) (K : PySem.W.Frag) (mg : Str → Option Value) : Prop where
  says : SaysK w K
  heap : ∃ h : Heap, K.In h ∧ h.Ns mainGlobals mg
section
variable {w : World} {K : PySem.W.Frag} {mg : Str → Option Value}
theorem Ctx.fact (c : Ctx w K mg) (i : Nat) {f : He.Fa} (h : faK[i]? = some f := by rfl) : f.ok K = true := c.says.t.d.fact i h
theorem Ctx.glo (c : Ctx w K mg) (i : Nat) {x : Str} (h : faK[i]? = some (.glo x) := by rfl) : mg x = some (.ref (He.ga K x)) := by
  obtain ⟨hp, h1, h2⟩ := c.heap
  exact He.glo_ok h1 h2 (c.fact i h)
theorem Ctx.free (c : Ctx w K mg) (i : Nat) {x : Str} (h : faK[i]? = some (.free x) := by rfl) : mg x = none := by
  obtain ⟨hp, h1, h2⟩ := c.heap
  exact He.free_ok h1 h2 (c.fact i h)
theorem Ctx.int (c : Ctx w K mg) (i : Nat) {x : Str} {n : Int} (h : faK[i]? = some (.int x n) := by rfl) : ∃ t, mg x = some (.int n t) := by
  obtain ⟨hp, h1, h2⟩ := c.heap
  exact He.int_ok h1 h2 (c.fact i h)
theorem Ctx.str (c : Ctx w K mg) (i : Nat) {x z : Str} (h : faK[i]? = some (.str x z) := by rfl) : ∃ t, mg x = some (.str z t) := by
  obtain ⟨hp, h1, h2⟩ := c.heap
  exact He.str_ok h1 h2 (c.fact i h)
theorem Ctx.exs (c : Ctx w K mg) : exK0 K = true := (He.ba c.says.more).1
theorem Ctx.excs (c : Ctx w K mg) : excK K = true := (He.ba c.says.more).2
theorem Ctx.nk (c : Ctx w K mg) : NoKL K := fun a o h e => by
  have h1 := (He.ba (He.ba (He.ba (He.ba c.exs).2).2).2).1
  have h2 := List.all_eq_true.mp h1 _ (He.lookup_mem h)
  unfold clsB at h2
  dsimp only at h2
  rw [e] at h2
  simp at h2
theorem Ctx.places (c : Ctx w K mg) (H : Hp) : SqT K H (He.ga K "PLACES") (placesL.map V.str) := by
  have h := He.tupB_ok (He.ba c.exs).1 H
  rwa [List.map_map] at h
theorem Ctx.sorts (c : Ctx w K mg) (H : Hp) : SqT K H (He.ga K "SORTS") [.str "around", .str "halves", .str "blocks"] := He.tupB_ok (He.ba (He.ba c.exs).2).1 H
theorem Ctx.straight (c : Ctx w K mg) (H : Hp) : SqT K H (He.ga K "STRAIGHT") [.str "n", .str "e", .str "s", .str "w"] := He.tupB_ok (He.ba (He.ba (He.ba c.exs).2).2).1 H
theorem Ctx.offs (c : Ctx w K mg) {q : Str × Int × Int} (hq : q ∈ offsL) : ∃ a, PySem.W.nsIn K (He.ga K "OFFS") q.1 = some (some (.ref a)) ∧ ∀ H, SqT K H a [.int q.2.1, .int q.2.2] := by
  have h1 := (He.ba (He.ba (He.ba (He.ba c.exs).2).2).2).2
  have h2 := List.all_eq_true.mp h1 q hq
  unfold offB at h2
  split at h2
  · rename_i a ea
    refine ⟨a, ea, fun H => ?_⟩
    split at h2
    · rename_i cc od its n osl lk
      obtain ⟨h3, h4⟩ := He.ba h2
      obtain ⟨h5, h6⟩ := He.ba h4
      exact .inr ⟨_, its, n, lk, congrArg Value.type (of_decide_eq_true h3), rfl, of_decide_eq_true h5, He.relAll_ok h6⟩
    · cases h2
  · cases h2
theorem Ctx.offsD (c : Ctx w K mg) : ∃ es n, KDict K w (He.ga K "OFFS") es n := c.says.t.tab 0
theorem g_is_whole (c : Ctx w K mg) : mg "is_whole" = some (.ref (He.ga K "is_whole")) := c.glo 0
theorem g_is_from_to (c : Ctx w K mg) : mg "is_from_to" = some (.ref (He.ga K "is_from_to")) := c.glo 1
theorem g_is_sign (c : Ctx w K mg) : mg "is_sign" = some (.ref (He.ga K "is_sign")) := c.glo 2
theorem g_is_signs (c : Ctx w K mg) : mg "is_signs" = some (.ref (He.ga K "is_signs")) := c.glo 3
theorem g_is_spot (c : Ctx w K mg) : mg "is_spot" = some (.ref (He.ga K "is_spot")) := c.glo 4
theorem g_is_turn (c : Ctx w K mg) : mg "is_turn" = some (.ref (He.ga K "is_turn")) := c.glo 5
theorem g_is_place (c : Ctx w K mg) : mg "is_place" = some (.ref (He.ga K "is_place")) := c.glo 6
theorem g_need_good (c : Ctx w K mg) : mg "need_good" = some (.ref (He.ga K "need_good")) := c.glo 7
theorem g_is_listed (c : Ctx w K mg) : mg "is_listed" = some (.ref (He.ga K "is_listed")) := c.glo 8
theorem g_are_listed (c : Ctx w K mg) : mg "are_listed" = some (.ref (He.ga K "are_listed")) := c.glo 9
theorem g_need_near (c : Ctx w K mg) : mg "need_near" = some (.ref (He.ga K "need_near")) := c.glo 10
theorem g_endless (c : Ctx w K mg) : mg "endless" = some (.ref (He.ga K "endless")) := c.glo 11
theorem g_is_near (c : Ctx w K mg) : mg "is_near" = some (.ref (He.ga K "is_near")) := c.glo 12
theorem g_are_of (c : Ctx w K mg) : mg "are_of" = some (.ref (He.ga K "are_of")) := c.glo 13
theorem g_is_test (c : Ctx w K mg) : mg "is_test" = some (.ref (He.ga K "is_test")) := c.glo 14
theorem g_is_cell_row (c : Ctx w K mg) : mg "is_cell_row" = some (.ref (He.ga K "is_cell_row")) := c.glo 15
theorem g_is_text_of (c : Ctx w K mg) : mg "is_text_of" = some (.ref (He.ga K "is_text_of")) := c.glo 16
theorem g_is_block_row (c : Ctx w K mg) : mg "is_block_row" = some (.ref (He.ga K "is_block_row")) := c.glo 17
theorem g_strange_sign (c : Ctx w K mg) : mg "strange_sign" = some (.ref (He.ga K "strange_sign")) := c.glo 18
theorem g_need_fit (c : Ctx w K mg) : mg "need_fit" = some (.ref (He.ga K "need_fit")) := c.glo 19
theorem g_block_spots (c : Ctx w K mg) : mg "block_spots" = some (.ref (He.ga K "block_spots")) := c.glo 20
theorem g_is_inside (c : Ctx w K mg) : mg "is_inside" = some (.ref (He.ga K "is_inside")) := c.glo 21
theorem g_sign_in_block (c : Ctx w K mg) : mg "sign_in_block" = some (.ref (He.ga K "sign_in_block")) := c.glo 22
theorem g_sign_behind (c : Ctx w K mg) : mg "sign_behind" = some (.ref (He.ga K "sign_behind")) := c.glo 23
theorem g_spots_to_look_at (c : Ctx w K mg) : mg "spots_to_look_at" = some (.ref (He.ga K "spots_to_look_at")) := c.glo 24
theorem g_step_of (c : Ctx w K mg) : mg "step_of" = some (.ref (He.ga K "step_of")) := c.glo 25
theorem g_begun (c : Ctx w K mg) : mg "begun" = some (.ref (He.ga K "begun")) := c.glo 26
theorem g_moved_cells (c : Ctx w K mg) : mg "moved_cells" = some (.ref (He.ga K "moved_cells")) := c.glo 27
theorem g_shift_between (c : Ctx w K mg) : mg "shift_between" = some (.ref (He.ga K "shift_between")) := c.glo 28
theorem g_shift_suits (c : Ctx w K mg) : mg "shift_suits" = some (.ref (He.ga K "shift_suits")) := c.glo 29
theorem g_word_of (c : Ctx w K mg) : mg "word_of" = some (.ref (He.ga K "word_of")) := c.glo 30
theorem g_paper_by (c : Ctx w K mg) : mg "paper_by" = some (.ref (He.ga K "paper_by")) := c.glo 31
theorem g_paper_of (c : Ctx w K mg) : mg "paper_of" = some (.ref (He.ga K "paper_of")) := c.glo 32
theorem g_texts_of (c : Ctx w K mg) : mg "texts_of" = some (.ref (He.ga K "texts_of")) := c.glo 33
theorem g_rows_of (c : Ctx w K mg) : mg "rows_of" = some (.ref (He.ga K "rows_of")) := c.glo 34
theorem g_begins (c : Ctx w K mg) : mg "begins" = some (.ref (He.ga K "begins")) := c.glo 35
theorem g_cells_of (c : Ctx w K mg) : mg "cells_of" = some (.ref (He.ga K "cells_of")) := c.glo 36
theorem g_search (c : Ctx w K mg) : mg "search" = some (.ref (He.ga K "search")) := c.glo 37
theorem g__law_bag (c : Ctx w K mg) : mg "_law_bag" = some (.ref (He.ga K "_law_bag")) := c.glo 38
theorem g__law_take (c : Ctx w K mg) : mg "_law_take" = some (.ref (He.ga K "_law_take")) := c.glo 39
theorem g__law_alike (c : Ctx w K mg) : mg "_law_alike" = some (.ref (He.ga K "_law_alike")) := c.glo 40
theorem g__law_signs (c : Ctx w K mg) : mg "_law_signs" = some (.ref (He.ga K "_law_signs")) := c.glo 41
theorem g__law_some (c : Ctx w K mg) : mg "_law_some" = some (.ref (He.ga K "_law_some")) := c.glo 42
theorem g__law_near (c : Ctx w K mg) : mg "_law_near" = some (.ref (He.ga K "_law_near")) := c.glo 43
theorem g__law_test (c : Ctx w K mg) : mg "_law_test" = some (.ref (He.ga K "_law_test")) := c.glo 44
theorem g__law_row (c : Ctx w K mg) : mg "_law_row" = some (.ref (He.ga K "_law_row")) := c.glo 45
theorem g__law_block_row (c : Ctx w K mg) : mg "_law_block_row" = some (.ref (He.ga K "_law_block_row")) := c.glo 46
theorem g__law_rule (c : Ctx w K mg) : mg "_law_rule" = some (.ref (He.ga K "_law_rule")) := c.glo 47
theorem g__law_holds (c : Ctx w K mg) : mg "_law_holds" = some (.ref (He.ga K "_law_holds")) := c.glo 48
theorem g__law_becomes (c : Ctx w K mg) : mg "_law_becomes" = some (.ref (He.ga K "_law_becomes")) := c.glo 49
theorem g__law_block (c : Ctx w K mg) : mg "_law_block" = some (.ref (He.ga K "_law_block")) := c.glo 50
theorem g__law_sign (c : Ctx w K mg) : mg "_law_sign" = some (.ref (He.ga K "_law_sign")) := c.glo 51
theorem g__law_spots (c : Ctx w K mg) : mg "_law_spots" = some (.ref (He.ga K "_law_spots")) := c.glo 52
theorem g__law_off (c : Ctx w K mg) : mg "_law_off" = some (.ref (He.ga K "_law_off")) := c.glo 53
theorem g__law_in_block (c : Ctx w K mg) : mg "_law_in_block" = some (.ref (He.ga K "_law_in_block")) := c.glo 54
theorem g__law_sign_later (c : Ctx w K mg) : mg "_law_sign_later" = some (.ref (He.ga K "_law_sign_later")) := c.glo 55
theorem g__law_turn (c : Ctx w K mg) : mg "_law_turn" = some (.ref (He.ga K "_law_turn")) := c.glo 56
theorem g__law_made (c : Ctx w K mg) : mg "_law_made" = some (.ref (He.ga K "_law_made")) := c.glo 57
theorem g__law_blocks (c : Ctx w K mg) : mg "_law_blocks" = some (.ref (He.ga K "_law_blocks")) := c.glo 58
theorem g__law_lively (c : Ctx w K mg) : mg "_law_lively" = some (.ref (He.ga K "_law_lively")) := c.glo 59
theorem g__law_later (c : Ctx w K mg) : mg "_law_later" = some (.ref (He.ga K "_law_later")) := c.glo 60
theorem g__law_seen (c : Ctx w K mg) : mg "_law_seen" = some (.ref (He.ga K "_law_seen")) := c.glo 61
theorem g__law_moved (c : Ctx w K mg) : mg "_law_moved" = some (.ref (He.ga K "_law_moved")) := c.glo 62
theorem g__law_suits (c : Ctx w K mg) : mg "_law_suits" = some (.ref (He.ga K "_law_suits")) := c.glo 63
theorem g__law_paper (c : Ctx w K mg) : mg "_law_paper" = some (.ref (He.ga K "_law_paper")) := c.glo 64
theorem g__law_texts (c : Ctx w K mg) : mg "_law_texts" = some (.ref (He.ga K "_law_texts")) := c.glo 65
theorem g__law_due (c : Ctx w K mg) : mg "_law_due" = some (.ref (He.ga K "_law_due")) := c.glo 66
theorem g__law_refused (c : Ctx w K mg) : mg "_law_refused" = some (.ref (He.ga K "_law_refused")) := c.glo 67
theorem g__law_full_right (c : Ctx w K mg) : mg "_law_full_right" = some (.ref (He.ga K "_law_full_right")) := c.glo 68
theorem g_law (c : Ctx w K mg) : mg "law" = some (.ref (He.ga K "law")) := c.glo 69
theorem g_Field (c : Ctx w K mg) : mg "Field" = some (.ref (He.ga K "Field")) := c.glo 70
theorem g_Rule (c : Ctx w K mg) : mg "Rule" = some (.ref (He.ga K "Rule")) := c.glo 71
theorem g_OFFS (c : Ctx w K mg) : mg "OFFS" = some (.ref (He.ga K "OFFS")) := c.glo 72
theorem g_PLACES (c : Ctx w K mg) : mg "PLACES" = some (.ref (He.ga K "PLACES")) := c.glo 73
theorem g_SORTS (c : Ctx w K mg) : mg "SORTS" = some (.ref (He.ga K "SORTS")) := c.glo 74
theorem g_STRAIGHT (c : Ctx w K mg) : mg "STRAIGHT" = some (.ref (He.ga K "STRAIGHT")) := c.glo 75
theorem g_CellError (c : Ctx w K mg) : mg "CellError" = some (.ref (He.ga K "CellError")) := c.glo 76
theorem g_TooMany (c : Ctx w K mg) : mg "TooMany" = some (.ref (He.ga K "TooMany")) := c.glo 77
theorem g_Restless (c : Ctx w K mg) : mg "Restless" = some (.ref (He.ga K "Restless")) := c.glo 78
theorem n_len (c : Ctx w K mg) : mg "len" = none := c.free 79
theorem n_isinstance (c : Ctx w K mg) : mg "isinstance" = none := c.free 80
theorem n_all (c : Ctx w K mg) : mg "all" = none := c.free 81
theorem n_any (c : Ctx w K mg) : mg "any" = none := c.free 82
theorem n_zip (c : Ctx w K mg) : mg "zip" = none := c.free 83
theorem n_enumerate (c : Ctx w K mg) : mg "enumerate" = none := c.free 84
theorem n_range (c : Ctx w K mg) : mg "range" = none := c.free 85
theorem n_min (c : Ctx w K mg) : mg "min" = none := c.free 86
theorem n_max (c : Ctx w K mg) : mg "max" = none := c.free 87
theorem n_sorted (c : Ctx w K mg) : mg "sorted" = none := c.free 88
theorem n_tuple (c : Ctx w K mg) : mg "tuple" = none := c.free 89
theorem n_list (c : Ctx w K mg) : mg "list" = none := c.free 90
theorem n_dict (c : Ctx w K mg) : mg "dict" = none := c.free 91
theorem n_set (c : Ctx w K mg) : mg "set" = none := c.free 92
theorem n_int (c : Ctx w K mg) : mg "int" = none := c.free 93
theorem n_str (c : Ctx w K mg) : mg "str" = none := c.free 94
theorem n_bool (c : Ctx w K mg) : mg "bool" = none := c.free 95
theorem n_abs (c : Ctx w K mg) : mg "abs" = none := c.free 96
theorem n_repr (c : Ctx w K mg) : mg "repr" = none := c.free 97
theorem i_MOST_FRAME_fields (c : Ctx w K mg) : ∃ t, mg "MOST_FRAME_fields" = some (.int 200 t) := c.int 98
theorem i_FARTHEST (c : Ctx w K mg) : ∃ t, mg "FARTHEST" = some (.int 1000000 t) := c.int 99
theorem i_LATEST (c : Ctx w K mg) : ∃ t, mg "LATEST" = some (.int 1000000000 t) := c.int 100
theorem i_MOST_ROWS (c : Ctx w K mg) : ∃ t, mg "MOST_ROWS" = some (.int 80 t) := c.int 101
theorem i_MOST_TESTS (c : Ctx w K mg) : ∃ t, mg "MOST_TESTS" = some (.int 8 t) := c.int 102
theorem i_MOST_FRAME_plain (c : Ctx w K mg) : ∃ t, mg "MOST_FRAME_plain" = some (.int 200 t) := c.int 103
theorem i_MOST_PICTURES (c : Ctx w K mg) : ∃ t, mg "MOST_PICTURES" = some (.int 256 t) := c.int 104
theorem s_SIGNS (c : Ctx w K mg) : ∃ t, mg "SIGNS" = some (.str ".abcdefghijklmnopqrstuvwxyz" t) := c.str 105
theorem s_GROUND_kinds (c : Ctx w K mg) : ∃ t, mg "GROUND_kinds" = some (.str "." t) := c.str 106
theorem s_GROUND_search (c : Ctx w K mg) : ∃ t, mg "GROUND_search" = some (.str "." t) := c.str 107
theorem C_Field (c : Ctx w K mg) : Cls K (He.ga K "Field") := He.cls_ok (x := "Field") (c.fact 108)
theorem mk_Field (c : Ctx w K mg) : Mk K (He.ga K "Field") (He.ma K (He.ga K "Field") "__init__") := He.mkr_ok (x := "Field") (c.fact 109)
theorem na_Field_form (c : Ctx w K mg) : NoAttr K (He.ga K "Field") "form" := He.noat_ok (x := "Field") (f := "form") (c.fact 110)
theorem na_Field_laid (c : Ctx w K mg) : NoAttr K (He.ga K "Field") "laid" := He.noat_ok (x := "Field") (f := "laid") (c.fact 111)
theorem na_Field_when (c : Ctx w K mg) : NoAttr K (He.ga K "Field") "when" := He.noat_ok (x := "Field") (f := "when") (c.fact 112)
theorem na_Field_width (c : Ctx w K mg) : NoAttr K (He.ga K "Field") "width" := He.noat_ok (x := "Field") (f := "width") (c.fact 113)
theorem na_Field_height (c : Ctx w K mg) : NoAttr K (He.ga K "Field") "height" := He.noat_ok (x := "Field") (f := "height") (c.fact 114)
theorem na_Field_rim (c : Ctx w K mg) : NoAttr K (He.ga K "Field") "rim" := He.noat_ok (x := "Field") (f := "rim") (c.fact 115)
theorem C_Rule (c : Ctx w K mg) : Cls K (He.ga K "Rule") := He.cls_ok (x := "Rule") (c.fact 116)
theorem mk_Rule (c : Ctx w K mg) : Mk K (He.ga K "Rule") (He.ma K (He.ga K "Rule") "__init__") := He.mkr_ok (x := "Rule") (c.fact 117)
theorem na_Rule_sort_told (c : Ctx w K mg) : NoAttr K (He.ga K "Rule") "sort_told" := He.noat_ok (x := "Rule") (f := "sort_told") (c.fact 118)
theorem na_Rule_count (c : Ctx w K mg) : NoAttr K (He.ga K "Rule") "count" := He.noat_ok (x := "Rule") (f := "count") (c.fact 119)
theorem na_Rule_looked_at (c : Ctx w K mg) : NoAttr K (He.ga K "Rule") "looked_at" := He.noat_ok (x := "Rule") (f := "looked_at") (c.fact 120)
theorem na_Rule_listed (c : Ctx w K mg) : NoAttr K (He.ga K "Rule") "listed" := He.noat_ok (x := "Rule") (f := "listed") (c.fact 121)
theorem mt_Field_kind (c : Ctx w K mg) : Meth K (He.ga K "Field") "kind" (He.ma K (He.ga K "Field") "kind") := He.meth_ok (x := "Field") (m := "kind") (c.fact 122)
theorem mt_Field_turn (c : Ctx w K mg) : Meth K (He.ga K "Field") "turn" (He.ma K (He.ga K "Field") "turn") := He.meth_ok (x := "Field") (m := "turn") (c.fact 123)
theorem mt_Field_edge (c : Ctx w K mg) : Meth K (He.ga K "Field") "edge" (He.ma K (He.ga K "Field") "edge") := He.meth_ok (x := "Field") (m := "edge") (c.fact 124)
theorem mt_Field_frame (c : Ctx w K mg) : Meth K (He.ga K "Field") "frame" (He.ma K (He.ga K "Field") "frame") := He.meth_ok (x := "Field") (m := "frame") (c.fact 125)
theorem mt_Field_look (c : Ctx w K mg) : Meth K (He.ga K "Field") "look" (He.ma K (He.ga K "Field") "look") := He.meth_ok (x := "Field") (m := "look") (c.fact 126)
theorem mt_Field_remade (c : Ctx w K mg) : Meth K (He.ga K "Field") "remade" (He.ma K (He.ga K "Field") "remade") := He.meth_ok (x := "Field") (m := "remade") (c.fact 127)
theorem mt_Field_cells (c : Ctx w K mg) : Meth K (He.ga K "Field") "cells" (He.ma K (He.ga K "Field") "cells") := He.meth_ok (x := "Field") (m := "cells") (c.fact 128)
theorem mt_Rule_is_row (c : Ctx w K mg) : Meth K (He.ga K "Rule") "is_row" (He.ma K (He.ga K "Rule") "is_row") := He.meth_ok (x := "Rule") (m := "is_row") (c.fact 129)
theorem mt_Rule_kind (c : Ctx w K mg) : Meth K (He.ga K "Rule") "kind" (He.ma K (He.ga K "Rule") "kind") := He.meth_ok (x := "Rule") (m := "kind") (c.fact 130)
theorem mt_Rule_near (c : Ctx w K mg) : Meth K (He.ga K "Rule") "near" (He.ma K (He.ga K "Rule") "near") := He.meth_ok (x := "Rule") (m := "near") (c.fact 131)
theorem mt_Rule_rows (c : Ctx w K mg) : Meth K (He.ga K "Rule") "rows" (He.ma K (He.ga K "Rule") "rows") := He.meth_ok (x := "Rule") (m := "rows") (c.fact 132)
theorem mt_Rule_signs (c : Ctx w K mg) : Meth K (He.ga K "Rule") "signs" (He.ma K (He.ga K "Rule") "signs") := He.meth_ok (x := "Rule") (m := "signs") (c.fact 133)
theorem mt_Rule_test_holds (c : Ctx w K mg) : Meth K (He.ga K "Rule") "test_holds" (He.ma K (He.ga K "Rule") "test_holds") := He.meth_ok (x := "Rule") (m := "test_holds") (c.fact 134)
theorem mt_Rule_fate (c : Ctx w K mg) : Meth K (He.ga K "Rule") "fate" (He.ma K (He.ga K "Rule") "fate") := He.meth_ok (x := "Rule") (m := "fate") (c.fact 135)
theorem mt_Rule_fate_of_block (c : Ctx w K mg) : Meth K (He.ga K "Rule") "fate_of_block" (He.ma K (He.ga K "Rule") "fate_of_block") := He.meth_ok (x := "Rule") (m := "fate_of_block") (c.fact 136)
theorem mt_Rule_keeps_ground (c : Ctx w K mg) : Meth K (He.ga K "Rule") "keeps_ground" (He.ma K (He.ga K "Rule") "keeps_ground") := He.meth_ok (x := "Rule") (m := "keeps_ground") (c.fact 137)
theorem d_is_whole (c : Ctx w K mg) : ∃ fd, FunD K "is_whole" "is_whole" (defArgs (top 20)) (defBody (top 20)) (defScope (top 20)) [] [] (He.ga K "is_whole") fd := c.says.t.d.def_ 0 (d := ⟨("is_whole", none), "is_whole", "is_whole", defArgs (top 20), defBody (top 20), defScope (top 20), [], []⟩)
theorem d_is_from_to (c : Ctx w K mg) : ∃ fd, FunD K "is_from_to" "is_from_to" (defArgs (top 21)) (defBody (top 21)) (defScope (top 21)) [] [] (He.ga K "is_from_to") fd := c.says.t.d.def_ 1 (d := ⟨("is_from_to", none), "is_from_to", "is_from_to", defArgs (top 21), defBody (top 21), defScope (top 21), [], []⟩)
theorem d_is_sign (c : Ctx w K mg) : ∃ fd, FunD K "is_sign" "is_sign" (defArgs (top 22)) (defBody (top 22)) (defScope (top 22)) [] [] (He.ga K "is_sign") fd := c.says.t.d.def_ 2 (d := ⟨("is_sign", none), "is_sign", "is_sign", defArgs (top 22), defBody (top 22), defScope (top 22), [], []⟩)
theorem d_is_signs (c : Ctx w K mg) : ∃ fd, FunD K "is_signs" "is_signs" (defArgs (top 23)) (defBody (top 23)) (defScope (top 23)) [] [] (He.ga K "is_signs") fd := c.says.t.d.def_ 3 (d := ⟨("is_signs", none), "is_signs", "is_signs", defArgs (top 23), defBody (top 23), defScope (top 23), [], []⟩)
theorem d_is_spot (c : Ctx w K mg) : ∃ fd, FunD K "is_spot" "is_spot" (defArgs (top 24)) (defBody (top 24)) (defScope (top 24)) [] [] (He.ga K "is_spot") fd := c.says.t.d.def_ 4 (d := ⟨("is_spot", none), "is_spot", "is_spot", defArgs (top 24), defBody (top 24), defScope (top 24), [], []⟩)
theorem d_is_turn (c : Ctx w K mg) : ∃ fd, FunD K "is_turn" "is_turn" (defArgs (top 25)) (defBody (top 25)) (defScope (top 25)) [] [] (He.ga K "is_turn") fd := c.says.t.d.def_ 5 (d := ⟨("is_turn", none), "is_turn", "is_turn", defArgs (top 25), defBody (top 25), defScope (top 25), [], []⟩)
theorem d_is_place (c : Ctx w K mg) : ∃ fd, FunD K "is_place" "is_place" (defArgs (top 26)) (defBody (top 26)) (defScope (top 26)) [] [] (He.ga K "is_place") fd := c.says.t.d.def_ 6 (d := ⟨("is_place", none), "is_place", "is_place", defArgs (top 26), defBody (top 26), defScope (top 26), [], []⟩)
theorem d_need_good (c : Ctx w K mg) : ∃ fd, FunD K "need_good" "need_good" (defArgs (top 29)) (defBody (top 29)) (defScope (top 29)) [] [] (He.ga K "need_good") fd := c.says.t.d.def_ 7 (d := ⟨("need_good", none), "need_good", "need_good", defArgs (top 29), defBody (top 29), defScope (top 29), [], []⟩)
theorem d_is_listed (c : Ctx w K mg) : ∃ fd, FunD K "is_listed" "is_listed" (defArgs (top 30)) (defBody (top 30)) (defScope (top 30)) [] [] (He.ga K "is_listed") fd := c.says.t.d.def_ 8 (d := ⟨("is_listed", none), "is_listed", "is_listed", defArgs (top 30), defBody (top 30), defScope (top 30), [], []⟩)
theorem d_are_listed (c : Ctx w K mg) : ∃ fd, FunD K "are_listed" "are_listed" (defArgs (top 31)) (defBody (top 31)) (defScope (top 31)) [] [] (He.ga K "are_listed") fd := c.says.t.d.def_ 9 (d := ⟨("are_listed", none), "are_listed", "are_listed", defArgs (top 31), defBody (top 31), defScope (top 31), [], []⟩)
theorem d_need_near (c : Ctx w K mg) : ∃ fd, FunD K "need_near" "need_near" (defArgs (top 32)) (defBody (top 32)) (defScope (top 32)) [] [] (He.ga K "need_near") fd := c.says.t.d.def_ 10 (d := ⟨("need_near", none), "need_near", "need_near", defArgs (top 32), defBody (top 32), defScope (top 32), [], []⟩)
theorem d_endless (c : Ctx w K mg) : ∃ fd, FunD K "endless" "endless" (defArgs (top 34)) (defBody (top 34)) (defScope (top 34)) [] [("turn", .int 0)] (He.ga K "endless") fd := c.says.t.d.def_ 11 (d := ⟨("endless", none), "endless", "endless", defArgs (top 34), defBody (top 34), defScope (top 34), [], [("turn", .int 0)]⟩)
theorem d_is_near (c : Ctx w K mg) : ∃ fd, FunD K "is_near" "is_near" (defArgs (top 40)) (defBody (top 40)) (defScope (top 40)) [] [] (He.ga K "is_near") fd := c.says.t.d.def_ 12 (d := ⟨("is_near", none), "is_near", "is_near", defArgs (top 40), defBody (top 40), defScope (top 40), [], []⟩)
theorem d_are_of (c : Ctx w K mg) : ∃ fd, FunD K "are_of" "are_of" (defArgs (top 41)) (defBody (top 41)) (defScope (top 41)) [] [] (He.ga K "are_of") fd := c.says.t.d.def_ 13 (d := ⟨("are_of", none), "are_of", "are_of", defArgs (top 41), defBody (top 41), defScope (top 41), [], []⟩)
theorem d_is_test (c : Ctx w K mg) : ∃ fd, FunD K "is_test" "is_test" (defArgs (top 42)) (defBody (top 42)) (defScope (top 42)) [] [] (He.ga K "is_test") fd := c.says.t.d.def_ 14 (d := ⟨("is_test", none), "is_test", "is_test", defArgs (top 42), defBody (top 42), defScope (top 42), [], []⟩)
theorem d_is_cell_row (c : Ctx w K mg) : ∃ fd, FunD K "is_cell_row" "is_cell_row" (defArgs (top 43)) (defBody (top 43)) (defScope (top 43)) [] [] (He.ga K "is_cell_row") fd := c.says.t.d.def_ 15 (d := ⟨("is_cell_row", none), "is_cell_row", "is_cell_row", defArgs (top 43), defBody (top 43), defScope (top 43), [], []⟩)
theorem d_is_text_of (c : Ctx w K mg) : ∃ fd, FunD K "is_text_of" "is_text_of" (defArgs (top 44)) (defBody (top 44)) (defScope (top 44)) [] [] (He.ga K "is_text_of") fd := c.says.t.d.def_ 16 (d := ⟨("is_text_of", none), "is_text_of", "is_text_of", defArgs (top 44), defBody (top 44), defScope (top 44), [], []⟩)
theorem d_is_block_row (c : Ctx w K mg) : ∃ fd, FunD K "is_block_row" "is_block_row" (defArgs (top 45)) (defBody (top 45)) (defScope (top 45)) [] [] (He.ga K "is_block_row") fd := c.says.t.d.def_ 17 (d := ⟨("is_block_row", none), "is_block_row", "is_block_row", defArgs (top 45), defBody (top 45), defScope (top 45), [], []⟩)
theorem d_strange_sign (c : Ctx w K mg) : ∃ fd, FunD K "strange_sign" "strange_sign" (defArgs (top 49)) (defBody (top 49)) (defScope (top 49)) [] [] (He.ga K "strange_sign") fd := c.says.t.d.def_ 18 (d := ⟨("strange_sign", none), "strange_sign", "strange_sign", defArgs (top 49), defBody (top 49), defScope (top 49), [], []⟩)
theorem d_need_fit (c : Ctx w K mg) : ∃ fd, FunD K "need_fit" "need_fit" (defArgs (top 50)) (defBody (top 50)) (defScope (top 50)) [] [] (He.ga K "need_fit") fd := c.says.t.d.def_ 19 (d := ⟨("need_fit", none), "need_fit", "need_fit", defArgs (top 50), defBody (top 50), defScope (top 50), [], []⟩)
theorem d_block_spots (c : Ctx w K mg) : ∃ fd, FunD K "block_spots" "block_spots" (defArgs (top 51)) (defBody (top 51)) (defScope (top 51)) [] [] (He.ga K "block_spots") fd := c.says.t.d.def_ 20 (d := ⟨("block_spots", none), "block_spots", "block_spots", defArgs (top 51), defBody (top 51), defScope (top 51), [], []⟩)
theorem d_is_inside (c : Ctx w K mg) : ∃ fd, FunD K "is_inside" "is_inside" (defArgs (top 52)) (defBody (top 52)) (defScope (top 52)) [] [] (He.ga K "is_inside") fd := c.says.t.d.def_ 21 (d := ⟨("is_inside", none), "is_inside", "is_inside", defArgs (top 52), defBody (top 52), defScope (top 52), [], []⟩)
theorem d_sign_in_block (c : Ctx w K mg) : ∃ fd, FunD K "sign_in_block" "sign_in_block" (defArgs (top 53)) (defBody (top 53)) (defScope (top 53)) [] [] (He.ga K "sign_in_block") fd := c.says.t.d.def_ 22 (d := ⟨("sign_in_block", none), "sign_in_block", "sign_in_block", defArgs (top 53), defBody (top 53), defScope (top 53), [], []⟩)
theorem d_sign_behind (c : Ctx w K mg) : ∃ fd, FunD K "sign_behind" "sign_behind" (defArgs (top 54)) (defBody (top 54)) (defScope (top 54)) [] [] (He.ga K "sign_behind") fd := c.says.t.d.def_ 23 (d := ⟨("sign_behind", none), "sign_behind", "sign_behind", defArgs (top 54), defBody (top 54), defScope (top 54), [], []⟩)
theorem d_spots_to_look_at (c : Ctx w K mg) : ∃ fd, FunD K "spots_to_look_at" "spots_to_look_at" (defArgs (top 55)) (defBody (top 55)) (defScope (top 55)) [] [] (He.ga K "spots_to_look_at") fd := c.says.t.d.def_ 24 (d := ⟨("spots_to_look_at", none), "spots_to_look_at", "spots_to_look_at", defArgs (top 55), defBody (top 55), defScope (top 55), [], []⟩)
theorem d_step_of (c : Ctx w K mg) : ∃ fd, FunD K "step_of" "step_of" (defArgs (top 56)) (defBody (top 56)) (defScope (top 56)) [] [] (He.ga K "step_of") fd := c.says.t.d.def_ 25 (d := ⟨("step_of", none), "step_of", "step_of", defArgs (top 56), defBody (top 56), defScope (top 56), [], []⟩)
theorem d_begun (c : Ctx w K mg) : ∃ fd, FunD K "begun" "begun" (defArgs (top 58)) (defBody (top 58)) (defScope (top 58)) [] [] (He.ga K "begun") fd := c.says.t.d.def_ 26 (d := ⟨("begun", none), "begun", "begun", defArgs (top 58), defBody (top 58), defScope (top 58), [], []⟩)
theorem d_moved_cells (c : Ctx w K mg) : ∃ fd, FunD K "moved_cells" "moved_cells" (defArgs (top 59)) (defBody (top 59)) (defScope (top 59)) [] [] (He.ga K "moved_cells") fd := c.says.t.d.def_ 27 (d := ⟨("moved_cells", none), "moved_cells", "moved_cells", defArgs (top 59), defBody (top 59), defScope (top 59), [], []⟩)
theorem d_shift_between (c : Ctx w K mg) : ∃ fd, FunD K "shift_between" "shift_between" (defArgs (top 60)) (defBody (top 60)) (defScope (top 60)) [] [] (He.ga K "shift_between") fd := c.says.t.d.def_ 28 (d := ⟨("shift_between", none), "shift_between", "shift_between", defArgs (top 60), defBody (top 60), defScope (top 60), [], []⟩)
theorem d_shift_suits (c : Ctx w K mg) : ∃ fd, FunD K "shift_suits" "shift_suits" (defArgs (top 61)) (defBody (top 61)) (defScope (top 61)) [] [] (He.ga K "shift_suits") fd := c.says.t.d.def_ 29 (d := ⟨("shift_suits", none), "shift_suits", "shift_suits", defArgs (top 61), defBody (top 61), defScope (top 61), [], []⟩)
theorem d_word_of (c : Ctx w K mg) : ∃ fd, FunD K "word_of" "word_of" (defArgs (top 62)) (defBody (top 62)) (defScope (top 62)) [] [] (He.ga K "word_of") fd := c.says.t.d.def_ 30 (d := ⟨("word_of", none), "word_of", "word_of", defArgs (top 62), defBody (top 62), defScope (top 62), [], []⟩)
theorem d_paper_by (c : Ctx w K mg) : ∃ fd, FunD K "paper_by" "paper_by" (defArgs (top 63)) (defBody (top 63)) (defScope (top 63)) [] [] (He.ga K "paper_by") fd := c.says.t.d.def_ 31 (d := ⟨("paper_by", none), "paper_by", "paper_by", defArgs (top 63), defBody (top 63), defScope (top 63), [], []⟩)
theorem d_paper_of (c : Ctx w K mg) : ∃ fd, FunD K "paper_of" "paper_of" (defArgs (top 64)) (defBody (top 64)) (defScope (top 64)) [] [] (He.ga K "paper_of") fd := c.says.t.d.def_ 32 (d := ⟨("paper_of", none), "paper_of", "paper_of", defArgs (top 64), defBody (top 64), defScope (top 64), [], []⟩)
theorem d_texts_of (c : Ctx w K mg) : ∃ fd, FunD K "texts_of" "texts_of" (defArgs (top 68)) (defBody (top 68)) (defScope (top 68)) [] [] (He.ga K "texts_of") fd := c.says.t.d.def_ 33 (d := ⟨("texts_of", none), "texts_of", "texts_of", defArgs (top 68), defBody (top 68), defScope (top 68), [], []⟩)
theorem d_rows_of (c : Ctx w K mg) : ∃ fd, FunD K "rows_of" "rows_of" (defArgs (top 69)) (defBody (top 69)) (defScope (top 69)) [] [] (He.ga K "rows_of") fd := c.says.t.d.def_ 34 (d := ⟨("rows_of", none), "rows_of", "rows_of", defArgs (top 69), defBody (top 69), defScope (top 69), [], []⟩)
theorem d_begins (c : Ctx w K mg) : ∃ fd, FunD K "begins" "begins" (defArgs (top 70)) (defBody (top 70)) (defScope (top 70)) [] [] (He.ga K "begins") fd := c.says.t.d.def_ 35 (d := ⟨("begins", none), "begins", "begins", defArgs (top 70), defBody (top 70), defScope (top 70), [], []⟩)
theorem d_cells_of (c : Ctx w K mg) : ∃ fd, FunD K "cells_of" "cells_of" (defArgs (top 71)) (defBody (top 71)) (defScope (top 71)) [] [] (He.ga K "cells_of") fd := c.says.t.d.def_ 36 (d := ⟨("cells_of", none), "cells_of", "cells_of", defArgs (top 71), defBody (top 71), defScope (top 71), [], []⟩)
theorem d_search (c : Ctx w K mg) : ∃ fd, FunD K "search" "search" (defArgs (top 72)) (defBody (top 72)) (defScope (top 72)) [] [] (He.ga K "search") fd := c.says.t.d.def_ 37 (d := ⟨("search", none), "search", "search", defArgs (top 72), defBody (top 72), defScope (top 72), [], []⟩)
theorem d__law_bag (c : Ctx w K mg) : ∃ fd, FunD K "_law_bag" "_law_bag" (defArgs (top 74)) (defBody (top 74)) (defScope (top 74)) [] [] (He.ga K "_law_bag") fd := c.says.t.d.def_ 38 (d := ⟨("_law_bag", none), "_law_bag", "_law_bag", defArgs (top 74), defBody (top 74), defScope (top 74), [], []⟩)
theorem d__law_take (c : Ctx w K mg) : ∃ fd, FunD K "_law_take" "_law_take" (defArgs (top 75)) (defBody (top 75)) (defScope (top 75)) [] [] (He.ga K "_law_take") fd := c.says.t.d.def_ 39 (d := ⟨("_law_take", none), "_law_take", "_law_take", defArgs (top 75), defBody (top 75), defScope (top 75), [], []⟩)
theorem d__law_alike (c : Ctx w K mg) : ∃ fd, FunD K "_law_alike" "_law_alike" (defArgs (top 76)) (defBody (top 76)) (defScope (top 76)) [] [] (He.ga K "_law_alike") fd := c.says.t.d.def_ 40 (d := ⟨("_law_alike", none), "_law_alike", "_law_alike", defArgs (top 76), defBody (top 76), defScope (top 76), [], []⟩)
theorem d__law_signs (c : Ctx w K mg) : ∃ fd, FunD K "_law_signs" "_law_signs" (defArgs (top 77)) (defBody (top 77)) (defScope (top 77)) [] [] (He.ga K "_law_signs") fd := c.says.t.d.def_ 41 (d := ⟨("_law_signs", none), "_law_signs", "_law_signs", defArgs (top 77), defBody (top 77), defScope (top 77), [], []⟩)
theorem d__law_some (c : Ctx w K mg) : ∃ fd, FunD K "_law_some" "_law_some" (defArgs (top 78)) (defBody (top 78)) (defScope (top 78)) [] [] (He.ga K "_law_some") fd := c.says.t.d.def_ 42 (d := ⟨("_law_some", none), "_law_some", "_law_some", defArgs (top 78), defBody (top 78), defScope (top 78), [], []⟩)
theorem d__law_near (c : Ctx w K mg) : ∃ fd, FunD K "_law_near" "_law_near" (defArgs (top 79)) (defBody (top 79)) (defScope (top 79)) [] [] (He.ga K "_law_near") fd := c.says.t.d.def_ 43 (d := ⟨("_law_near", none), "_law_near", "_law_near", defArgs (top 79), defBody (top 79), defScope (top 79), [], []⟩)
theorem d__law_test (c : Ctx w K mg) : ∃ fd, FunD K "_law_test" "_law_test" (defArgs (top 80)) (defBody (top 80)) (defScope (top 80)) [] [] (He.ga K "_law_test") fd := c.says.t.d.def_ 44 (d := ⟨("_law_test", none), "_law_test", "_law_test", defArgs (top 80), defBody (top 80), defScope (top 80), [], []⟩)
theorem d__law_row (c : Ctx w K mg) : ∃ fd, FunD K "_law_row" "_law_row" (defArgs (top 81)) (defBody (top 81)) (defScope (top 81)) [] [] (He.ga K "_law_row") fd := c.says.t.d.def_ 45 (d := ⟨("_law_row", none), "_law_row", "_law_row", defArgs (top 81), defBody (top 81), defScope (top 81), [], []⟩)
theorem d__law_block_row (c : Ctx w K mg) : ∃ fd, FunD K "_law_block_row" "_law_block_row" (defArgs (top 82)) (defBody (top 82)) (defScope (top 82)) [] [] (He.ga K "_law_block_row") fd := c.says.t.d.def_ 46 (d := ⟨("_law_block_row", none), "_law_block_row", "_law_block_row", defArgs (top 82), defBody (top 82), defScope (top 82), [], []⟩)
theorem d__law_rule (c : Ctx w K mg) : ∃ fd, FunD K "_law_rule" "_law_rule" (defArgs (top 83)) (defBody (top 83)) (defScope (top 83)) [] [] (He.ga K "_law_rule") fd := c.says.t.d.def_ 47 (d := ⟨("_law_rule", none), "_law_rule", "_law_rule", defArgs (top 83), defBody (top 83), defScope (top 83), [], []⟩)
theorem d__law_holds (c : Ctx w K mg) : ∃ fd, FunD K "_law_holds" "_law_holds" (defArgs (top 84)) (defBody (top 84)) (defScope (top 84)) [] [] (He.ga K "_law_holds") fd := c.says.t.d.def_ 48 (d := ⟨("_law_holds", none), "_law_holds", "_law_holds", defArgs (top 84), defBody (top 84), defScope (top 84), [], []⟩)
theorem d__law_becomes (c : Ctx w K mg) : ∃ fd, FunD K "_law_becomes" "_law_becomes" (defArgs (top 85)) (defBody (top 85)) (defScope (top 85)) [] [] (He.ga K "_law_becomes") fd := c.says.t.d.def_ 49 (d := ⟨("_law_becomes", none), "_law_becomes", "_law_becomes", defArgs (top 85), defBody (top 85), defScope (top 85), [], []⟩)
theorem d__law_block (c : Ctx w K mg) : ∃ fd, FunD K "_law_block" "_law_block" (defArgs (top 86)) (defBody (top 86)) (defScope (top 86)) [] [] (He.ga K "_law_block") fd := c.says.t.d.def_ 50 (d := ⟨("_law_block", none), "_law_block", "_law_block", defArgs (top 86), defBody (top 86), defScope (top 86), [], []⟩)
theorem d__law_sign (c : Ctx w K mg) : ∃ fd, FunD K "_law_sign" "_law_sign" (defArgs (top 87)) (defBody (top 87)) (defScope (top 87)) [] [] (He.ga K "_law_sign") fd := c.says.t.d.def_ 51 (d := ⟨("_law_sign", none), "_law_sign", "_law_sign", defArgs (top 87), defBody (top 87), defScope (top 87), [], []⟩)
theorem d__law_spots (c : Ctx w K mg) : ∃ fd, FunD K "_law_spots" "_law_spots" (defArgs (top 88)) (defBody (top 88)) (defScope (top 88)) [] [] (He.ga K "_law_spots") fd := c.says.t.d.def_ 52 (d := ⟨("_law_spots", none), "_law_spots", "_law_spots", defArgs (top 88), defBody (top 88), defScope (top 88), [], []⟩)
theorem d__law_off (c : Ctx w K mg) : ∃ fd, FunD K "_law_off" "_law_off" (defArgs (top 89)) (defBody (top 89)) (defScope (top 89)) [] [] (He.ga K "_law_off") fd := c.says.t.d.def_ 53 (d := ⟨("_law_off", none), "_law_off", "_law_off", defArgs (top 89), defBody (top 89), defScope (top 89), [], []⟩)
theorem d__law_in_block (c : Ctx w K mg) : ∃ fd, FunD K "_law_in_block" "_law_in_block" (defArgs (top 90)) (defBody (top 90)) (defScope (top 90)) [] [] (He.ga K "_law_in_block") fd := c.says.t.d.def_ 54 (d := ⟨("_law_in_block", none), "_law_in_block", "_law_in_block", defArgs (top 90), defBody (top 90), defScope (top 90), [], []⟩)
theorem d__law_sign_later (c : Ctx w K mg) : ∃ fd, FunD K "_law_sign_later" "_law_sign_later" (defArgs (top 91)) (defBody (top 91)) (defScope (top 91)) [] [] (He.ga K "_law_sign_later") fd := c.says.t.d.def_ 55 (d := ⟨("_law_sign_later", none), "_law_sign_later", "_law_sign_later", defArgs (top 91), defBody (top 91), defScope (top 91), [], []⟩)
theorem d__law_turn (c : Ctx w K mg) : ∃ fd, FunD K "_law_turn" "_law_turn" (defArgs (top 92)) (defBody (top 92)) (defScope (top 92)) [] [] (He.ga K "_law_turn") fd := c.says.t.d.def_ 56 (d := ⟨("_law_turn", none), "_law_turn", "_law_turn", defArgs (top 92), defBody (top 92), defScope (top 92), [], []⟩)
theorem d__law_made (c : Ctx w K mg) : ∃ fd, FunD K "_law_made" "_law_made" (defArgs (top 93)) (defBody (top 93)) (defScope (top 93)) [] [] (He.ga K "_law_made") fd := c.says.t.d.def_ 57 (d := ⟨("_law_made", none), "_law_made", "_law_made", defArgs (top 93), defBody (top 93), defScope (top 93), [], []⟩)
theorem d__law_blocks (c : Ctx w K mg) : ∃ fd, FunD K "_law_blocks" "_law_blocks" (defArgs (top 94)) (defBody (top 94)) (defScope (top 94)) [] [] (He.ga K "_law_blocks") fd := c.says.t.d.def_ 58 (d := ⟨("_law_blocks", none), "_law_blocks", "_law_blocks", defArgs (top 94), defBody (top 94), defScope (top 94), [], []⟩)
theorem d__law_lively (c : Ctx w K mg) : ∃ fd, FunD K "_law_lively" "_law_lively" (defArgs (top 95)) (defBody (top 95)) (defScope (top 95)) [] [] (He.ga K "_law_lively") fd := c.says.t.d.def_ 59 (d := ⟨("_law_lively", none), "_law_lively", "_law_lively", defArgs (top 95), defBody (top 95), defScope (top 95), [], []⟩)
theorem d__law_later (c : Ctx w K mg) : ∃ fd, FunD K "_law_later" "_law_later" (defArgs (top 96)) (defBody (top 96)) (defScope (top 96)) [] [] (He.ga K "_law_later") fd := c.says.t.d.def_ 60 (d := ⟨("_law_later", none), "_law_later", "_law_later", defArgs (top 96), defBody (top 96), defScope (top 96), [], []⟩)
theorem d__law_seen (c : Ctx w K mg) : ∃ fd, FunD K "_law_seen" "_law_seen" (defArgs (top 97)) (defBody (top 97)) (defScope (top 97)) [] [] (He.ga K "_law_seen") fd := c.says.t.d.def_ 61 (d := ⟨("_law_seen", none), "_law_seen", "_law_seen", defArgs (top 97), defBody (top 97), defScope (top 97), [], []⟩)
theorem d__law_moved (c : Ctx w K mg) : ∃ fd, FunD K "_law_moved" "_law_moved" (defArgs (top 98)) (defBody (top 98)) (defScope (top 98)) [] [] (He.ga K "_law_moved") fd := c.says.t.d.def_ 62 (d := ⟨("_law_moved", none), "_law_moved", "_law_moved", defArgs (top 98), defBody (top 98), defScope (top 98), [], []⟩)
theorem d__law_suits (c : Ctx w K mg) : ∃ fd, FunD K "_law_suits" "_law_suits" (defArgs (top 99)) (defBody (top 99)) (defScope (top 99)) [] [] (He.ga K "_law_suits") fd := c.says.t.d.def_ 63 (d := ⟨("_law_suits", none), "_law_suits", "_law_suits", defArgs (top 99), defBody (top 99), defScope (top 99), [], []⟩)
theorem d__law_paper (c : Ctx w K mg) : ∃ fd, FunD K "_law_paper" "_law_paper" (defArgs (top 100)) (defBody (top 100)) (defScope (top 100)) [] [] (He.ga K "_law_paper") fd := c.says.t.d.def_ 64 (d := ⟨("_law_paper", none), "_law_paper", "_law_paper", defArgs (top 100), defBody (top 100), defScope (top 100), [], []⟩)
theorem d__law_texts (c : Ctx w K mg) : ∃ fd, FunD K "_law_texts" "_law_texts" (defArgs (top 101)) (defBody (top 101)) (defScope (top 101)) [] [] (He.ga K "_law_texts") fd := c.says.t.d.def_ 65 (d := ⟨("_law_texts", none), "_law_texts", "_law_texts", defArgs (top 101), defBody (top 101), defScope (top 101), [], []⟩)
theorem d__law_due (c : Ctx w K mg) : ∃ fd, FunD K "_law_due" "_law_due" (defArgs (top 102)) (defBody (top 102)) (defScope (top 102)) [] [] (He.ga K "_law_due") fd := c.says.t.d.def_ 66 (d := ⟨("_law_due", none), "_law_due", "_law_due", defArgs (top 102), defBody (top 102), defScope (top 102), [], []⟩)
theorem d__law_refused (c : Ctx w K mg) : ∃ fd, FunD K "_law_refused" "_law_refused" (defArgs (top 103)) (defBody (top 103)) (defScope (top 103)) [] [] (He.ga K "_law_refused") fd := c.says.t.d.def_ 67 (d := ⟨("_law_refused", none), "_law_refused", "_law_refused", defArgs (top 103), defBody (top 103), defScope (top 103), [], []⟩)
theorem d__law_full_right (c : Ctx w K mg) : ∃ fd, FunD K "_law_full_right" "_law_full_right" (defArgs (top 104)) (defBody (top 104)) (defScope (top 104)) [] [] (He.ga K "_law_full_right") fd := c.says.t.d.def_ 68 (d := ⟨("_law_full_right", none), "_law_full_right", "_law_full_right", defArgs (top 104), defBody (top 104), defScope (top 104), [], []⟩)
theorem d_law (c : Ctx w K mg) : ∃ fd, FunD K "law" "law" (defArgs (top 105)) (defBody (top 105)) (defScope (top 105)) [] [] (He.ga K "law") fd := c.says.t.d.def_ 69 (d := ⟨("law", none), "law", "law", defArgs (top 105), defBody (top 105), defScope (top 105), [], []⟩)
theorem dm_Field_init (c : Ctx w K mg) : ∃ fd, FunD K "__init__" "Field.__init__" (defArgs (mth 33 0)) (defBody (mth 33 0)) (defScope (mth 33 0)) [] [] (He.ma K (He.ga K "Field") "__init__") fd := c.says.t.d.def_ 70 (d := ⟨("Field", some "__init__"), "__init__", "Field.__init__", defArgs (mth 33 0), defBody (mth 33 0), defScope (mth 33 0), [], []⟩)
theorem dm_Field_kind (c : Ctx w K mg) : ∃ fd, FunD K "kind" "Field.kind" (defArgs (mth 33 4)) (defBody (mth 33 4)) (defScope (mth 33 4)) [] [] (He.ma K (He.ga K "Field") "kind") fd := c.says.t.d.def_ 71 (d := ⟨("Field", some "kind"), "kind", "Field.kind", defArgs (mth 33 4), defBody (mth 33 4), defScope (mth 33 4), [], []⟩)
theorem dm_Field_turn (c : Ctx w K mg) : ∃ fd, FunD K "turn" "Field.turn" (defArgs (mth 33 5)) (defBody (mth 33 5)) (defScope (mth 33 5)) [] [] (He.ma K (He.ga K "Field") "turn") fd := c.says.t.d.def_ 72 (d := ⟨("Field", some "turn"), "turn", "Field.turn", defArgs (mth 33 5), defBody (mth 33 5), defScope (mth 33 5), [], []⟩)
theorem dm_Field_edge (c : Ctx w K mg) : ∃ fd, FunD K "edge" "Field.edge" (defArgs (mth 33 6)) (defBody (mth 33 6)) (defScope (mth 33 6)) [] [] (He.ma K (He.ga K "Field") "edge") fd := c.says.t.d.def_ 73 (d := ⟨("Field", some "edge"), "edge", "Field.edge", defArgs (mth 33 6), defBody (mth 33 6), defScope (mth 33 6), [], []⟩)
theorem dm_Field_frame (c : Ctx w K mg) : ∃ fd, FunD K "frame" "Field.frame" (defArgs (mth 33 9)) (defBody (mth 33 9)) (defScope (mth 33 9)) [] [] (He.ma K (He.ga K "Field") "frame") fd := c.says.t.d.def_ 74 (d := ⟨("Field", some "frame"), "frame", "Field.frame", defArgs (mth 33 9), defBody (mth 33 9), defScope (mth 33 9), [], []⟩)
theorem dm_Field_look (c : Ctx w K mg) : ∃ fd, FunD K "look" "Field.look" (defArgs (mth 33 10)) (defBody (mth 33 10)) (defScope (mth 33 10)) [] [] (He.ma K (He.ga K "Field") "look") fd := c.says.t.d.def_ 75 (d := ⟨("Field", some "look"), "look", "Field.look", defArgs (mth 33 10), defBody (mth 33 10), defScope (mth 33 10), [], []⟩)
theorem dm_Field_remade (c : Ctx w K mg) : ∃ fd, FunD K "remade" "Field.remade" (defArgs (mth 33 12)) (defBody (mth 33 12)) (defScope (mth 33 12)) [] [] (He.ma K (He.ga K "Field") "remade") fd := c.says.t.d.def_ 76 (d := ⟨("Field", some "remade"), "remade", "Field.remade", defArgs (mth 33 12), defBody (mth 33 12), defScope (mth 33 12), [], []⟩)
theorem dm_Field_cells (c : Ctx w K mg) : ∃ fd, FunD K "cells" "Field.cells" (defArgs (mth 33 14)) (defBody (mth 33 14)) (defScope (mth 33 14)) [] [] (He.ma K (He.ga K "Field") "cells") fd := c.says.t.d.def_ 77 (d := ⟨("Field", some "cells"), "cells", "Field.cells", defArgs (mth 33 14), defBody (mth 33 14), defScope (mth 33 14), [], []⟩)
theorem dm_Rule_init (c : Ctx w K mg) : ∃ fd, FunD K "__init__" "Rule.__init__" (defArgs (mth 46 0)) (defBody (mth 46 0)) (defScope (mth 46 0)) [] [] (He.ma K (He.ga K "Rule") "__init__") fd := c.says.t.d.def_ 78 (d := ⟨("Rule", some "__init__"), "__init__", "Rule.__init__", defArgs (mth 46 0), defBody (mth 46 0), defScope (mth 46 0), [], []⟩)
theorem dm_Rule_is_row (c : Ctx w K mg) : ∃ fd, FunD K "is_row" "Rule.is_row" (defArgs (mth 46 1)) (defBody (mth 46 1)) (defScope (mth 46 1)) [] [] (He.ma K (He.ga K "Rule") "is_row") fd := c.says.t.d.def_ 79 (d := ⟨("Rule", some "is_row"), "is_row", "Rule.is_row", defArgs (mth 46 1), defBody (mth 46 1), defScope (mth 46 1), [], []⟩)
theorem dm_Rule_kind (c : Ctx w K mg) : ∃ fd, FunD K "kind" "Rule.kind" (defArgs (mth 46 2)) (defBody (mth 46 2)) (defScope (mth 46 2)) [] [] (He.ma K (He.ga K "Rule") "kind") fd := c.says.t.d.def_ 80 (d := ⟨("Rule", some "kind"), "kind", "Rule.kind", defArgs (mth 46 2), defBody (mth 46 2), defScope (mth 46 2), [], []⟩)
theorem dm_Rule_near (c : Ctx w K mg) : ∃ fd, FunD K "near" "Rule.near" (defArgs (mth 46 4)) (defBody (mth 46 4)) (defScope (mth 46 4)) [] [] (He.ma K (He.ga K "Rule") "near") fd := c.says.t.d.def_ 81 (d := ⟨("Rule", some "near"), "near", "Rule.near", defArgs (mth 46 4), defBody (mth 46 4), defScope (mth 46 4), [], []⟩)
theorem dm_Rule_rows (c : Ctx w K mg) : ∃ fd, FunD K "rows" "Rule.rows" (defArgs (mth 46 5)) (defBody (mth 46 5)) (defScope (mth 46 5)) [] [] (He.ma K (He.ga K "Rule") "rows") fd := c.says.t.d.def_ 82 (d := ⟨("Rule", some "rows"), "rows", "Rule.rows", defArgs (mth 46 5), defBody (mth 46 5), defScope (mth 46 5), [], []⟩)
theorem dm_Rule_signs (c : Ctx w K mg) : ∃ fd, FunD K "signs" "Rule.signs" (defArgs (mth 46 6)) (defBody (mth 46 6)) (defScope (mth 46 6)) [] [] (He.ma K (He.ga K "Rule") "signs") fd := c.says.t.d.def_ 83 (d := ⟨("Rule", some "signs"), "signs", "Rule.signs", defArgs (mth 46 6), defBody (mth 46 6), defScope (mth 46 6), [], []⟩)
theorem dm_Rule_test_holds (c : Ctx w K mg) : ∃ fd, FunD K "test_holds" "Rule.test_holds" (defArgs (mth 46 7)) (defBody (mth 46 7)) (defScope (mth 46 7)) [] [] (He.ma K (He.ga K "Rule") "test_holds") fd := c.says.t.d.def_ 84 (d := ⟨("Rule", some "test_holds"), "test_holds", "Rule.test_holds", defArgs (mth 46 7), defBody (mth 46 7), defScope (mth 46 7), [], []⟩)
theorem dm_Rule_fate (c : Ctx w K mg) : ∃ fd, FunD K "fate" "Rule.fate" (defArgs (mth 46 8)) (defBody (mth 46 8)) (defScope (mth 46 8)) [] [] (He.ma K (He.ga K "Rule") "fate") fd := c.says.t.d.def_ 85 (d := ⟨("Rule", some "fate"), "fate", "Rule.fate", defArgs (mth 46 8), defBody (mth 46 8), defScope (mth 46 8), [], []⟩)
theorem dm_Rule_fate_of_block (c : Ctx w K mg) : ∃ fd, FunD K "fate_of_block" "Rule.fate_of_block" (defArgs (mth 46 9)) (defBody (mth 46 9)) (defScope (mth 46 9)) [] [] (He.ma K (He.ga K "Rule") "fate_of_block") fd := c.says.t.d.def_ 86 (d := ⟨("Rule", some "fate_of_block"), "fate_of_block", "Rule.fate_of_block", defArgs (mth 46 9), defBody (mth 46 9), defScope (mth 46 9), [], []⟩)
theorem dm_Rule_keeps_ground (c : Ctx w K mg) : ∃ fd, FunD K "keeps_ground" "Rule.keeps_ground" (defArgs (mth 46 12)) (defBody (mth 46 12)) (defScope (mth 46 12)) [] [] (He.ma K (He.ga K "Rule") "keeps_ground") fd := c.says.t.d.def_ 87 (d := ⟨("Rule", some "keeps_ground"), "keeps_ground", "Rule.keeps_ground", defArgs (mth 46 12), defBody (mth 46 12), defScope (mth 46 12), [], []⟩)
theorem dm_TooMany_init (c : Ctx w K mg) : ∃ fd, FunD K "__init__" "TooMany.__init__" (defArgs (mth 6 0)) (defBody (mth 6 0)) (defScope (mth 6 0)) [] [] (He.ma K (He.ga K "TooMany") "__init__") fd := c.says.t.d.def_ 88 (d := ⟨("TooMany", some "__init__"), "__init__", "TooMany.__init__", defArgs (mth 6 0), defBody (mth 6 0), defScope (mth 6 0), [], []⟩)
end
end Cs

set_option Elab.async false
set_option linter.all false
set_option autoImplicit false
set_option maxRecDepth 100000
set_option maxHeartbeats 4000000
/-! Exceptions: a class' __init__ read off an own class; isinstance of a caught error that has a dict. -/
namespace Cs
open PySem PySem.Spec PyProof.Rows L2
structure CellC (K : PySem.W.Frag) (C : Addr) : Prop where
  rd : PySem.W.readsIn K C (.type "type") = true
  ga : PySem.W.specialIn K (.ref C) "__getattribute__" = some (some (.builtin "type.__getattribute__"))
  ini : PySem.W.findCls K (.ref C) (.type "type") "__init__" = some (.val (.builtin "ValueError.__init__"))
structure ExFacts (K : PySem.W.Frag) (C T R : Addr) : Prop where
  cell : CellC K C
  oex : OexC K T
  ini : PySem.W.findIn K (.ref T) "__init__" = some (some (.ref (He.ma K T "__init__")))
  fn : PySem.W.typeIn K (.ref (He.ma K T "__init__")) = some (.type "function")
  most : PySem.W.findIn K (.ref T) "most" = some none
  xf : XfC K T
  isT : ExcC K T
  rex : PySem.W.excIn K R He.veBase "ValueError.__new__" = true
  rkp : PySem.W.keepIn K (.ref R) = true
  rsub : PySem.W.subIn K (.ref R) (.type "BaseException") = some true
  rty : PySem.W.typeIn K (.ref R) = some (.type "type")
  isR : ExcC K R
  tc : PySem.W.exmOne K (.ref T) (.ref C) = some true
  rc : PySem.W.exmOne K (.ref R) (.ref C) = some true
  tt : PySem.W.kitOne K (.ref T) (.ref T) = some true
  tr : PySem.W.kitOne K (.ref T) (.ref R) = some false
  rt : PySem.W.kitOne K (.ref R) (.ref T) = some false
  rr : PySem.W.kitOne K (.ref R) (.ref R) = some true
theorem Ctx.ex {w : World} {K : PySem.W.Frag} {mg : Str → Option Value} (c : Ctx w K mg) : ExFacts K (He.ga K "CellError") (He.ga K "TooMany") (He.ga K "Restless") := by
  have h := c.excs
  simp only [excK, cellB, tmB, rlB, relB, Bool.and_eq_true, decide_eq_true_eq] at h
  obtain ⟨⟨a1, a2, a3⟩, ⟨b1, b2, b3, b4, b5, b6⟩, ⟨c1, c2, c3, c4, c5⟩, d1, d2, d3, d4, d5, d6⟩ := h
  exact ⟨⟨a1, a2, initB_ok a3⟩, oexcB_ok b1, b2, b3, b4, xfB_ok b5, isxB_ok b6, c1, c2, c3, c4, isxB_ok c5, d1, d2, d3, d4, d5, d6⟩
section
variable {X : Cx} {e : Expr} {es : List Expr} {ta : TA} {p1 p2 pos : Pos} {C : Addr} {x : Str}
/-- C.__init__(self, ..), C an own class over ValueError -/
theorem pe_cellinit {pl : Sem Bool} (T : CellC X.K C) (hg : Gl X x) (hm : X.mg x = some (.ref C)) (ha : PA X (e :: es) ta) (hdb : (x == ("__debug__" : Str)) = false := by decide)
    (hc : eval (.Call (.Attribute (.Name x p1) "__init__" p2) (e :: es) [] pos) X.env = (do
      let ov ← eval (.Name x p1) X.env
      standAt p2.atName
      let (f, first) ← holding [ov] (getMethod ov "__init__" pl)
      callWith pos f first (backTo pos (starEach (e :: es) X.env)) (backToKw pos (keywordEach [] X.env))) := by rfl)
    (he : starEach (e :: es) X.env = (false, eval e X.env) :: starEach es X.env := by rfl) (hpl : (backTo pos (starEach es X.env)).any (·.1) = false := by rfl) :
    PE X (.Call (.Attribute (.Name x p1) "__init__" p2) (e :: es) [] pos) (tVeI X.K ta) := by
  refine ⟨fun pins s σ H Q I h => PySem.W.methodCall_KW (ld_glob I hg hm ?_ hdb) hc⟩
  refine PySem.W.method_cls I.kIn T.ga (PySem.W.cls_value I.kIn T.rd T.ini (by decide) ?_)
  show wpAny _ _ (callWith pos (Value.builtin "ValueError.__init__") [] (backTo pos (starEach (e :: es) X.env)) []) _ _ _
  refine PyProof.Rows.callWith_method1 (thn (ha.run pos pins _ σ H _ (I.tok _) h) fun us s1 ⟨vs, H1, I1, r1, a, D, ws, ev, hl, TD, ea, q⟩ => ?_) he hpl
  subst ev
  cases r1 with
  | @cons _ u0 _ ur ra rt =>
    obtain rfl : u0 = Value.ref a := ra
    exact oinit_ok TD I1 ea (by rw [← Paired.length rt, sizeLine_eq]; omega) fun s' J => ⟨.non, H1, J, rfl, q⟩
end
/-! ### isinstance of a caught error -/
section
open PySem.W
variable {prog : Program} {w : World} {A : Around} {E : Value → Shared → Prop} {s : Shared} {K : PySem.W.Frag} {x D : Addr} {ox : Obj} {od : Obj}
/-- e.__class__, e an error that has a dict -/
theorem class_of_err (C : ExcC K D) {Q : Option Value → Shared → Prop} (X : K.In s.heap) (I : InstAt s.heap x ox D (some od)) (h : Q (some (.ref D)) { s with toks := s.toks + 1 }) : wpAny (model prog w) A (getAttr? (.ref x) "__class__") Q E s := by
  have hf : findObj K D (some od) "__class__" = some (.bind (.builtin "getset_descriptor.__get__") (.builtin "object.__class__")) := by
    obtain ⟨cd, hc, _⟩ := any_some C.hd
    exact findObj_data (by rw [hc]; rfl) C.ha C.hn C.ht
  obtain ⟨hp, g, d, t, os⟩ := s
  have own := I.type (M := model prog w)
  have ga := looks_findIn (M := model prog w) X C.hg
  have gt := looks_findIn (M := model prog w) X C.hk
  have at_ := looks_find (M := model prog w) X I hf
  have base : Looks (model prog w) hp (isInstance (.ref x) (.type "BaseException")) true := own.andThen (looks_subIn X C.hs)
  have no1 : (onTheHeap (Value.ref D) && Value.builtin "BaseException.__getattribute__" == Value.builtin "object.__getattribute__") = false := by
    rw [show (Value.builtin "BaseException.__getattribute__" == Value.builtin "object.__getattribute__") = false by decide +kernel, Bool.and_false]
  unfold getAttr? getAttrBy? getAttrBy
  refine wpAny_bind (wpAny_mkText (wpAny_bind (wpAny_attempt (wpAny_holding (wpAny_bind (own.at (wpAny_bind (ga.at ?_))))))))
  show wpAny _ _ (if (onTheHeap (Value.ref D) && Value.builtin "BaseException.__getattribute__" == Value.builtin "object.__getattribute__") = true then _ else _) _ _ _
  rw [no1, if_neg Bool.false_ne_true]
  unfold getAttrByItsOwn hookBefore
  refine wpAny_bind ?_
  rw [if_pos (show onTheHeap (Value.ref D) = true from rfl)]
  refine gt.at (wpAny_bind (wpAny_attempt (wpAny_holding ?_)))
  unfold callGetattribute
  rw [show (false && onTheHeap (Value.builtin "BaseException.__getattribute__")) = false from rfl, if_neg Bool.false_ne_true]
  unfold boundAndCalled
  rw [PySem.F.excAttr_ValueError.ga.bind (.ref x)]
  refine wpAny_bind (wpAny_pure ?_)
  show wpAny _ _ (call (.builtin "BaseException.__getattribute__") [.ref x, .str "__class__" t]) _ _ _
  refine wpAny_call (codeAny_call_builtin PySem.F.excAttr_ValueError.ga.plain PySem.F.entry_bexc_ga ?_)
  refine @check_slot (model prog w) _ _ ⟨hp, g, d, t + 1, os⟩ "BaseException.__getattribute__" "BaseException" "__getattribute__" (.ref x) [.str "__class__" t] [] _ (by decide +kernel) (by decide +kernel) base (PySem.F.args_bexc_ga (.ref x) (.str "__class__" t)) ?_
  unfold Builtin.«object.__getattribute__»
  refine wpAny_bind (wpAny_of_eq (a := ((Value.ref x : Value), [Value.str "__class__" t])) (by first | rfl | (simp only [slotArgs]; rfl)) ?_)
  refine wpAny_bind (wpAny_pure (wpAny_bind (own.at (wpAny_bind (at_.at ?_)))))
  show wpAny _ _ (holding [Value.builtin "object.__class__"] (call (.builtin "getset_descriptor.__get__") [.builtin "object.__class__", .ref x, .ref D]) >>= ret) _ _ _
  refine wpAny_bind (wpAny_holding (wpAny_call (class_get (s := ⟨hp, g, d, t + 1, os⟩) (ox := ox) (od := some od) X I C.hm ?_)))
  refine wpAny_pure ?_
  show wpAny _ _ (handedOut (.ref D)) _ _ _
  rw [handedOut_of (v := .ref D) rfl]
  first
    | exact wpAny_pure (wpAny_pure h)
    | exact wpAny_pure h
    | exact wpAny_pure (wpAny_bind (wpAny_pure (wpAny_pure h)))
theorem kit_err (C : ExcC K D) : KitX K (.ref x) (.ref D) (fun h => ∃ od, InstAt h x ox D (some od)) where
  ty := fun _ _ _ ⟨_, I⟩ => I.type
  it := fun M h X _ => by
    obtain ⟨cd, hc, _⟩ := any_some C.hd
    unfold clsIn at hc
    split at hc
    · rename_i c' d' cd' sl' ho
      intro A' Q' E' s' k q
      unfold isType loadHead
      exact wpAny_bind (wpAny_loadPart (k _ _ (X _ _ ho)) (wpAny_pure q))
    · cases hc
  ne := (handS_kitx_exc (x := x) (ox := ox) C.hg C.hk C.hs C.hd C.ha C.hn C.ht C.hm).ne
  ca := fun X ⟨_, I⟩ k => class_of_err C X I k
end
/-- isinstance(e, c), e the error that the suite holds, its dict at dd -/
theorem call_isD {X : Cx} {a D dd : Addr} {oe : Obj} {pn : List (Addr × Obj)} (C : ExcC X.K D) (hz : Zc (.ref D) (some dd) oe) (hf : ∃ vs, oe.data = .fields vs) : CallR (X.suite a ((a, oe) :: pn)) (.builtin "isinstance") (fun xs H Q => (∃ fs, H dd = some (.xd fs)) ∧ rIsE X.K D a xs H Q) := by
  intro pins s σ H xs us Q I r h
  obtain ⟨⟨fs, hdd⟩, c, cv, b, rfl, hcv, e, q⟩ := h
  cases r with
  | cons rx rr =>
    cases rr with
    | cons rt rr =>
      cases rr
      cases rx
      have ec := hcv _ rt
      subst ec
      obtain ⟨hget, _⟩ := I.pin (a, oe) (List.mem_append.mpr (.inl List.mem_cons_self))
      obtain ⟨vs, hv⟩ := hf
      have hx : ObjOk X.prog X.w H s.heap dd (.xd fs) := I.hok dd _ hdd
      obtain ⟨mA, hns, hr⟩ := hx
      obtain ⟨od, ho, hl⟩ := lookIn_ns hns
      have J : PySem.W.InstAt s.heap a oe D (some od) := ⟨hget, hz.1, by unfold PySem.W.notCls; rw [hv] <;> rfl, by rw [hz.2]; exact ho⟩
      exact PySem.W.kia_one (kit_err C) I.kIn ⟨od, J⟩ e (fun z => nomatch z) fun tk => ⟨.bl b, H, I.kept (t' := tk) fun _ _ z => z, rfl, q⟩
end Cs

set_option Elab.async false
set_option linter.all false
set_option autoImplicit false
set_option maxRecDepth 100000
set_option maxHeartbeats 4000000
/-! The head of a def's proof. -/
namespace Cs
open PySem PySem.Spec PyProof.Rows L2
section
variable {P : Program} {w : World} {K : PySem.W.Frag} {mg : Str → Option Value} {base : Heap}
section
variable {k : Nat} {X : Cx} {W : Option Addr} {Γ : En} {a : Expr} {d : PyData} {pos p p2 : Pos} {x : Str}
/-- isinstance(a, T) -/
theorem ev_is (T : String) (r : Bool) (c : Ctx w K mg) (kk : Cok P w K mg base k X) (hm : mg x = none) (ha : Ev X K W Γ a (Dt K d)) (hr : PySem.W.kitOne K (.type (tyN d)) (.type T) = some r := by rfl) (hv : bootBuiltins x = some (.type T) := by decide +kernel) (hg : Gl X x := by rfl) (hn : x ≠ "__name__" := by decide) (hd : (x == ("__debug__" : Str)) = false := by decide)
    (hg2 : Gl X "isinstance" := by rfl) (he : starEach [a, .Name x p2] X.env = (false, eval a X.env) :: starEach [.Name x p2] X.env := by rfl) (he2 : starEach [.Name x p2] X.env = (false, eval (.Name x p2) X.env) :: starEach [] X.env := by rfl) (hpl : (backTo pos (starEach [.Name x p2] X.env)).any (·.1) = false := by rfl) : Ev X K W Γ (.Call (.Name "isinstance" p) [a, .Name x p2] [] pos) (Dt K (.bool r)) :=
  ev_isi kk (n_isinstance c) (ea_cons ha (ea_cons (ev_ty (T := T) kk hm hv hg hn hd) ea_nil he2) he) hr hg2 he hpl
end
theorem ok_is_whole (c : Ctx w K mg) (i : Int) : DfOk P w K mg base "is_whole" 1 false [Dt K (.int i)] (Dt K (.bool true)) := by
  obtain ⟨fd, F0⟩ := (d_is_whole c)
  refine mk_df ["thing"] (ps := ["thing"]) (N := noA) F0 (g_is_whole c) ⟨rfl, rfl, rfl, by decide +kernel, rfl, by decide +kernel, by decide +kernel⟩ (fun _ _ _ _ _ _ us hl => match us, hl with | [_], _ => rfl) rfl (by simp [noOwns, notOwn]) (fun W X hW k hX => ?_) (fun _ _ _ _ _ z => z.elim)
  obtain ⟨cdv, A, outer, s, H, E, rfl⟩ := hX
  exact srs_ret (ev_and (ev_is "int" true c k (n_int c) (ev_var 0)) fun _ => ev_one (ev_not (ev_is "bool" false c k (n_bool c) (ev_var 0))))
theorem ok_is_from_to (c : Ctx w K mg) (i l h : Int) : DfOk P w K mg base "is_from_to" 2 false [Dt K (.int i), Dt K (.int l), Dt K (.int h)] (Dt K (.bool (decide (l ≤ i) && decide (i ≤ h)))) := by
  obtain ⟨fd, F0⟩ := (d_is_from_to c)
  refine mk_df ["thing", "least", "most"] (ps := ["thing", "least", "most"]) (N := noA) F0 (g_is_from_to c) ⟨rfl, rfl, rfl, by decide +kernel, rfl, by decide +kernel, by decide +kernel⟩ (fun _ _ _ _ _ _ us hl => match us, hl with | [_, _, _], _ => rfl) rfl (by simp [noOwns, notOwn]) (fun W X hW k hX => ?_) (fun _ _ _ _ _ z => z.elim)
  obtain ⟨cdv, A, outer, s, H, E, rfl⟩ := hX
  exact srs_ret (ev_eq (ev_and (ev_call k (ok_is_whole c i) (ea_cons (ev_var 0) ea_nil)) fun _ => ev_one (ev_chain op_le op_le rd_le rd_le (ev_var 1) (ev_var 0) (ev_var 2))) rfl)
end
end Cs

set_option Elab.async false
set_option linter.all false
set_option autoImplicit false
set_option maxRecDepth 100000
set_option maxHeartbeats 4000000
/-! The rule and the world in plain Lean. -/
namespace Cs
open PySem PySem.Spec PyProof.Rows L2
/-! ### signs -/
def allSigs : List Nat := [46, 97, 98, 99, 100, 101, 102, 103, 104, 105, 106, 107, 108, 109, 110, 111, 112, 113, 114, 115, 116, 117, 118, 119, 120, 121, 122]
def sigs (m : Nat) : List Nat := allSigs.take m
def incr : List Nat → Bool
  | [] => true
  | [_] => true
  | a :: b :: r => decide (a < b) && incr (b :: r)
def signsOk (l : List Nat) : Bool := !l.isEmpty && (l.all (fun n => decide (n ∈ allSigs)) && (l.zip (l.drop 1)).all fun z => decide (z.1 < z.2))
def ofOk (l s : List Nat) : Bool := signsOk l && l.all fun n => decide (n ∈ s)
/-! ### rules -/
inductive Tst0 where
  | at_ (p : Nat) (s : List Nat)
  | cnt (lo hi : Nat) (s : List Nat)
structure CRow where
  own : List Nat
  tests : List Tst0
  sign : Nat
structure BRow where
  fours : List (List Nat)
  four : List Nat
inductive Rws where
  | cell (l : List CRow)
  | block (l : List BRow)
structure Rl where
  sort : Nat
  many : Nat
  near : List Nat
  rows : Rws
def plc (p : Nat) : Str := placesL.getD p "n"
def sortS (s : Nat) : Str := if s = 0 then "around" else if s = 1 then "halves" else "blocks"
def tstD : Tst0 → PyData
  | .at_ p s => .tuple [.str "at", .str (plc p), .str (txt s)]
  | .cnt lo hi s => .tuple [.str "count", .int (lo : Nat), .int (hi : Nat), .str (txt s)]
def crowD (r : CRow) : PyData := .tuple [.str (txt r.own), .tuple (r.tests.map tstD), sgn r.sign]
def browD (r : BRow) : PyData := .tuple [.tuple (r.fours.map fun f => .str (txt f)), .str (txt r.four)]
def Rws.D : Rws → List PyData
  | .cell l => l.map crowD
  | .block l => l.map browD
def nearD (n : List Nat) : List PyData := n.map fun p => .str (plc p)
section
variable {P : Program} {w : World} {K : PySem.W.Frag} {mg : Str → Option Value} {base : Heap} {k : Nat} {X : Cx} {W : Option Addr} {Γ : En} {pos : Pos} {elt tg iter : Expr} {ifs : List Expr} {scope : Scope} {α : Type} {js : List Nat}
/-- [f y for y in xs], as data -/
theorem ev_lcm (own : List (Str × Nat)) (xs : List α) (enc : α → T) (f : α → PyData) {Jt : α → En} (c : Cok P w K mg base k X) (hi : PI X tg iter (cI K W Γ (xs.map enc))) (hg : ∀ y ∈ xs, ∀ s H C cl fp, PG (Blk X scope s H C cl fp) tg (cG K W (wipeE Γ (own.map (·.2))) (enc y) (Jt y) js))
    (he : ∀ y ∈ xs, ∀ s H C cl fp, Ev (Blk X scope s H C cl fp) K W (Jt y) elt (Dt K (f y))) (hz : xs.length ≤ 16777000) (ok : blkC X.N X.env.scope scope own = true := by rfl) (js2 : ∀ j ∈ js, j ∈ own.map (·.2) := by decide) (hs : ∀ x, foldedSetIterable iter X.env x = pure x := by intro _; rfl) :
    Ev X K W Γ (.ListComp elt [⟨tg, iter, [], 0⟩] scope pos) (Dt K (.list (xs.map f))) :=
  ev_lc c (lc_still (lc_map f hi (blkOk_by ok) hg he js2 hz) fun G p ho hp z => still_lst hp z) hs
/-- [f y for y in xs if p y], as data -/
theorem ev_lcs (own : List (Str × Nat)) (xs : List α) (enc : α → T) (p : α → Bool) (f : α → PyData) {Jt : α → En} (c : Cok P w K mg base k X) (hi : PI X tg iter (cI K W Γ (xs.map enc))) (hg : ∀ y ∈ xs, ∀ s H C cl fp, PG (Blk X scope s H C cl fp) tg (cG K W (wipeE Γ (own.map (·.2))) (enc y) (Jt y) js))
    (ht : ∀ y ∈ xs, ∀ s H C cl fp, PTs (Blk X scope s H C cl fp) ifs (cT K W (Jt y) (fun b => b = p y)))
    (he : ∀ y ∈ xs, p y = true → ∀ s H C cl fp, Ev (Blk X scope s H C cl fp) K W (Jt y) elt (Dt K (f y))) (hz : xs.length ≤ 16777000) (ok : blkC X.N X.env.scope scope own = true := by rfl) (js2 : ∀ j ∈ js, j ∈ own.map (·.2) := by decide) (hs : ∀ x, foldedSetIterable iter X.env x = pure x := by intro _; rfl) :
    Ev X K W Γ (.ListComp elt [⟨tg, iter, ifs, 0⟩] scope pos) (Dt K (.list ((xs.filter p).map f))) :=
  ev_lc c (lc_still (lc_sel p f hi (blkOk_by ok) hg ht he js2 hz) fun G p ho hp z => still_lst hp z) hs
theorem dec_txt (l m : List Nat) : decide (txt l = txt m) = decide (l = m) := decide_eq_decide.mpr ⟨txt_inj, fun e => by rw [e]⟩
variable {a b : Expr} {i j : Int} {x y : Str} {l m : List Nat} {d1 d2 : PyData}
abbrev HM (op : CmpOp) (b : Expr) : Prop := behindInMarks op b = false
theorem tst_eqD (c : Cok P w K mg base k X) (h1 : SeqAt.shaped d1 = true) (h2 : SeqAt.shaped d2 = true) (ha : Ev X K W Γ a (Dt K d1)) (hb : Ev X K W Γ b (Dt K d2)) (hm : HM .Eq b := by first | exact nomark _ | with_unfolding_all rfl) : Tst X K W Γ (.Compare a [.Eq] [b] pos) (fun r => r = PyData.eqv d1 d2) := tst_cmp1 (op_eqK c) (rd_eqD h1 h2) ha hb hm
theorem tst_neD (c : Cok P w K mg base k X) (h1 : SeqAt.shaped d1 = true) (h2 : SeqAt.shaped d2 = true) (ha : Ev X K W Γ a (Dt K d1)) (hb : Ev X K W Γ b (Dt K d2)) (hm : HM .NotEq b := by first | exact nomark _ | with_unfolding_all rfl) : Tst X K W Γ (.Compare a [.NotEq] [b] pos) (fun r => r = !PyData.eqv d1 d2) := tst_cmp1 (op_neK c) (rd_neD h1 h2) ha hb hm
theorem ev_eqD (c : Cok P w K mg base k X) (h1 : SeqAt.shaped d1 = true) (h2 : SeqAt.shaped d2 = true) (ha : Ev X K W Γ a (Dt K d1)) (hb : Ev X K W Γ b (Dt K d2)) (hm : HM .Eq b := by first | exact nomark _ | with_unfolding_all rfl) : Ev X K W Γ (.Compare a [.Eq] [b] pos) (Dt K (.bool (PyData.eqv d1 d2))) := ev_cmp (op_eqK c) (rd_eqD h1 h2) ha hb hm
theorem ev_neD (c : Cok P w K mg base k X) (h1 : SeqAt.shaped d1 = true) (h2 : SeqAt.shaped d2 = true) (ha : Ev X K W Γ a (Dt K d1)) (hb : Ev X K W Γ b (Dt K d2)) (hm : HM .NotEq b := by first | exact nomark _ | with_unfolding_all rfl) : Ev X K W Γ (.Compare a [.NotEq] [b] pos) (Dt K (.bool (!PyData.eqv d1 d2))) := ev_cmp (op_neK c) (rd_neD h1 h2) ha hb hm
theorem tst_eqI (c : Cok P w K mg base k X) (ha : Ev X K W Γ a (Dt K (.int i))) (hb : Ev X K W Γ b (Dt K (.int j))) (hm : HM .Eq b := by first | exact nomark _ | with_unfolding_all rfl) : Tst X K W Γ (.Compare a [.Eq] [b] pos) (fun r => r = decide (i = j)) := tst_cmp1 op_eq rd_eqI ha hb hm
theorem tst_neI (c : Cok P w K mg base k X) (ha : Ev X K W Γ a (Dt K (.int i))) (hb : Ev X K W Γ b (Dt K (.int j))) (hm : HM .NotEq b := by first | exact nomark _ | with_unfolding_all rfl) : Tst X K W Γ (.Compare a [.NotEq] [b] pos) (fun r => r = !decide (i = j)) := tst_cmp1 op_ne rd_neI ha hb hm
theorem tst_eqS (c : Cok P w K mg base k X) (ha : Ev X K W Γ a (Dt K (.str x))) (hb : Ev X K W Γ b (Dt K (.str y))) (hm : HM .Eq b := by first | exact nomark _ | with_unfolding_all rfl) : Tst X K W Γ (.Compare a [.Eq] [b] pos) (fun r => r = decide (x = y)) := tst_cmp1 op_eq rd_eqS ha hb hm
theorem tst_neS (c : Cok P w K mg base k X) (ha : Ev X K W Γ a (Dt K (.str x))) (hb : Ev X K W Γ b (Dt K (.str y))) (hm : HM .NotEq b := by first | exact nomark _ | with_unfolding_all rfl) : Tst X K W Γ (.Compare a [.NotEq] [b] pos) (fun r => r = !decide (x = y)) := tst_cmp1 op_ne rd_neS ha hb hm
theorem tst_eqX (c : Cok P w K mg base k X) (ha : Ev X K W Γ a (Dt K (.str (txt l)))) (hb : Ev X K W Γ b (Dt K (.str (txt m)))) (hm : HM .Eq b := by first | exact nomark _ | with_unfolding_all rfl) : Tst X K W Γ (.Compare a [.Eq] [b] pos) (fun r => r = decide (l = m)) := tst_eq (tst_eqS c ha hb hm) (dec_txt l m)
theorem tst_neX (c : Cok P w K mg base k X) (ha : Ev X K W Γ a (Dt K (.str (txt l)))) (hb : Ev X K W Γ b (Dt K (.str (txt m)))) (hm : HM .NotEq b := by first | exact nomark _ | with_unfolding_all rfl) : Tst X K W Γ (.Compare a [.NotEq] [b] pos) (fun r => r = !decide (l = m)) := tst_eq (tst_neS c ha hb hm) (by rw [dec_txt])
theorem ev_eqI (c : Cok P w K mg base k X) (ha : Ev X K W Γ a (Dt K (.int i))) (hb : Ev X K W Γ b (Dt K (.int j))) (hm : HM .Eq b := by first | exact nomark _ | with_unfolding_all rfl) : Ev X K W Γ (.Compare a [.Eq] [b] pos) (Dt K (.bool (decide (i = j)))) := ev_cmp op_eq rd_eqI ha hb hm
theorem ev_neI (c : Cok P w K mg base k X) (ha : Ev X K W Γ a (Dt K (.int i))) (hb : Ev X K W Γ b (Dt K (.int j))) (hm : HM .NotEq b := by first | exact nomark _ | with_unfolding_all rfl) : Ev X K W Γ (.Compare a [.NotEq] [b] pos) (Dt K (.bool (!decide (i = j)))) := ev_cmp op_ne rd_neI ha hb hm
theorem ev_eqS (c : Cok P w K mg base k X) (ha : Ev X K W Γ a (Dt K (.str x))) (hb : Ev X K W Γ b (Dt K (.str y))) (hm : HM .Eq b := by first | exact nomark _ | with_unfolding_all rfl) : Ev X K W Γ (.Compare a [.Eq] [b] pos) (Dt K (.bool (decide (x = y)))) := ev_cmp op_eq rd_eqS ha hb hm
theorem ev_neS (c : Cok P w K mg base k X) (ha : Ev X K W Γ a (Dt K (.str x))) (hb : Ev X K W Γ b (Dt K (.str y))) (hm : HM .NotEq b := by first | exact nomark _ | with_unfolding_all rfl) : Ev X K W Γ (.Compare a [.NotEq] [b] pos) (Dt K (.bool (!decide (x = y)))) := ev_cmp op_ne rd_neS ha hb hm
theorem ev_eqX (c : Cok P w K mg base k X) (ha : Ev X K W Γ a (Dt K (.str (txt l)))) (hb : Ev X K W Γ b (Dt K (.str (txt m)))) (hm : HM .Eq b := by first | exact nomark _ | with_unfolding_all rfl) : Ev X K W Γ (.Compare a [.Eq] [b] pos) (Dt K (.bool (decide (l = m)))) := ev_eq (ev_eqS c ha hb hm) (by rw [dec_txt])
theorem ev_neX (c : Cok P w K mg base k X) (ha : Ev X K W Γ a (Dt K (.str (txt l)))) (hb : Ev X K W Γ b (Dt K (.str (txt m)))) (hm : HM .NotEq b := by first | exact nomark _ | with_unfolding_all rfl) : Ev X K W Γ (.Compare a [.NotEq] [b] pos) (Dt K (.bool (!decide (l = m)))) := ev_eq (ev_neS c ha hb hm) (by rw [dec_txt])
theorem ev_gtxt {x z : Str} (l : List Nat) (c : Cok P w K mg base k X) (hm : ∃ t, mg x = some (.str z t)) (hz : z = txt l := by decide +kernel) (hg : Gl X x := by rfl) (hd : (x == ("__debug__" : Str)) = false := by decide) : Ev X K W Γ (.Name x pos) (Dt K (.str (txt l))) := by
  subst hz
  exact ev_gstr c hm hg hd
end
section
variable {P : Program} {w : World} {K : PySem.W.Frag} {mg : Str → Option Value} {base : Heap} {k : Nat} {X : Cx} {W : Option Addr} {Γ : En} {pos p : Pos} {a : Expr} {α : Type}
/-- all([f y ..]), any([f y ..]) -/
theorem ev_allL (xs : List α) (f : α → Bool) (c : Cok P w K mg base k X) (hm : mg "all" = none) (ha : Ev X K W Γ a (Dt K (.list (xs.map fun y => .bool (f y))))) (hg : Gl X "all" := by rfl) (he : A1 X a := by rfl) : Ev X K W Γ (.Call (.Name "all" p) [a] [] pos) (Dt K (.bool (xs.all f))) := by
  have e : (xs.map fun y => PyData.bool (f y)) = (xs.map f).map .bool := by rw [List.map_map]; rfl
  rw [e] at ha
  exact ev_eq (ev_all c hm (ea_cons ha ea_nil he) hg he) (by rw [List.all_map]; rfl)
theorem ev_anyL (xs : List α) (f : α → Bool) (c : Cok P w K mg base k X) (hm : mg "any" = none) (ha : Ev X K W Γ a (Dt K (.list (xs.map fun y => .bool (f y))))) (hg : Gl X "any" := by rfl) (he : A1 X a := by rfl) : Ev X K W Γ (.Call (.Name "any" p) [a] [] pos) (Dt K (.bool (xs.any f))) := by
  have e : (xs.map fun y => PyData.bool (f y)) = (xs.map f).map .bool := by rw [List.map_map]; rfl
  rw [e] at ha
  exact ev_eq (ev_any c hm (ea_cons ha ea_nil he) hg he) (by rw [List.any_map]; rfl)
end
theorem str_sgn (n : Nat) : (.str ⟨#[n]⟩ : PyData) = sgn n := rfl
theorem lt_sing (a b : Nat) : decide ([a] < [b]) = decide (a < b) := by
  apply decide_eq_decide.mpr
  constructor
  · intro h
    cases h with
    | rel h => exact h
    | cons h => cases h
  · intro h
    exact List.Lex.rel h
theorem items_txt (l : List Nat) : items (.str (txt l)) = some (l.map sgn) := by
  show some ((txt l).cps.toList.map fun c => PyData.str ⟨#[c]⟩) = _
  rw [txt_list]; rfl
theorem cut_drop1 {α : Type} (l : List α) : cut l (some 1) none = l.drop 1 := by
  unfold cut HT.sIx
  cases l with
  | nil => rfl
  | cons a r => simp
section
variable {P : Program} {w : World} {K : PySem.W.Frag} {mg : Str → Option Value} {base : Heap}
theorem ok_is_sign (c : Ctx w K mg) (n : Nat) : DfOk P w K mg base "is_sign" 1 false [Dt K (sgn n)] (Dt K (.bool (decide (n ∈ allSigs)))) := by
  obtain ⟨fd, F0⟩ := (d_is_sign c)
  refine mk_df ["thing"] (ps := ["thing"]) (N := noA) F0 (g_is_sign c) ⟨rfl, rfl, rfl, by decide +kernel, rfl, by decide +kernel, by decide +kernel⟩ (fun _ _ _ _ _ _ us hl => match us, hl with | [_], _ => rfl) rfl (by simp [noOwns, notOwn]) (fun W X hW k hX => ?_) (fun _ _ _ _ _ z => z.elim)
  obtain ⟨cdv, A, outer, s, H, E, rfl⟩ := hX
  exact srs_ret (ev_eq (ev_and (ev_is "str" true c k (n_str c) (ev_var 0)) fun _ => ev_and (ev_eqI k (ev_lenS k (n_len c) (ea_cons (ev_var 0) ea_nil) (Nat.le_of_ble_eq_true rfl)) ev_int) fun _ => ev_one (ev_cmp op_inS rd_inS (ev_var 0) (ev_gtxt allSigs k (s_SIGNS c)))) rfl)
/-- all([sign in s for sign in l]) -/
theorem all_in {k : Nat} {X : Cx} {W : Option Addr} {Γ : En} {pos p r1 r2 r3 r4 : Pos} {a b : Expr} {scope : Scope} (c : Ctx w K mg) (kk : Cok P w K mg base k X) (i : Nat) (l s : List Nat) (ha : Ev X K W Γ a (Dt K (.str (txt l)))) (hb : ∀ (y : Nat) (s0 : Shared) (H : Hp) (C : Addr) (cl : List (Str × Addr)) (fp : List Addr), Ev (Blk X scope s0 H C cl fp) K W ((wipeE Γ [i]).set i (some (Dt K (sgn y)))) b (Dt K (.str (txt s)))) (hl : l.length ≤ 16777000)
    (hv : ∀ (y : Nat) (s0 : Shared) (H : Hp) (C : Addr) (cl : List (Str × Addr)) (fp : List Addr), Ev (Blk X scope s0 H C cl fp) K W ((wipeE Γ [i]).set i (some (Dt K (sgn y)))) (.Name "sign" r1) (Dt K (sgn y))) (hg : ∀ (y : Nat) (s0 : Shared) (H : Hp) (C : Addr) (cl : List (Str × Addr)) (fp : List Addr), PG (Blk X scope s0 H C cl fp) (.Name "sign" r2) (cG K W (wipeE Γ [i]) (dat K (sgn y)) ((wipeE Γ [i]).set i (some (Dt K (sgn y)))) [i]))
    (hm : behindInMarks .In b = false := by first | exact nomark _ | with_unfolding_all rfl) (ok : blkC X.N X.env.scope scope [("sign", i)] = true := by rfl) (hs : ∀ x, foldedSetIterable a X.env x = pure x := by intro _; rfl) (hga : Gl X "all" := by rfl) (he : A1 X (.ListComp (.Compare (.Name "sign" r1) [.In] [b] r3) [⟨.Name "sign" r2, a, [], 0⟩] scope r4) := by rfl) :
    Ev X K W Γ (.Call (.Name "all" p) [.ListComp (.Compare (.Name "sign" r1) [.In] [b] r3) [⟨.Name "sign" r2, a, [], 0⟩] scope r4] [] pos) (Dt K (.bool (l.all fun n => decide (n ∈ s)))) :=
  ev_allL l _ kk (n_all c) (ev_lcm [("sign", i)] l (fun n => dat K (sgn n)) (fun n => .bool (decide (n ∈ s))) kk (it_str ha) (fun y _ => hg y) (fun y _ s0 H C cl fp => ev_cmp op_inS rd_inS (hv y s0 H C cl fp) (hb y s0 H C cl fp) hm) hl ok (by simp) hs) hga he
theorem ok_is_signs (c : Ctx w K mg) (l : List Nat) (hl : l.length ≤ 1000) : DfOk P w K mg base "is_signs" 1 false [Dt K (.str (txt l))] (Dt K (.bool (signsOk l))) := by
  obtain ⟨fd, F0⟩ := (d_is_signs c)
  refine mk_df ["thing", "sign", "one", "other"] (ps := ["thing"]) (N := noA) F0 (g_is_signs c) ⟨rfl, rfl, rfl, by decide +kernel, rfl, by decide +kernel, by decide +kernel⟩ (fun _ _ _ _ _ _ us hl => match us, hl with | [_], _ => rfl) rfl (by simp [noOwns, notOwn]) (fun W X hW k hX => ?_) (fun _ _ _ _ _ z => z.elim)
  obtain ⟨cdv, A, outer, s, H, E, rfl⟩ := hX
  refine srs_ifR (cv := decide (l = []) || !(l.all fun n => decide (n ∈ allSigs))) (tst_eq (tst_w (tsw_or (tst_not (tst_val (ev_is "str" true c k (n_str c) (ev_var 0)))) fun _ => tsw_or (tst_eqX k (ev_var 0) (ev_txt [])) fun _ => tsw_or1 (tst_not (tst_val
    (all_in c k 1 l allSigs (ev_var 0) (fun y s0 H C cl fp => ev_gtxt allSigs k.blk (s_SIGNS c)) (by omega) (fun y s0 H C cl fp => ev_var 1) (fun y s0 H C cl fp => tg_name 1 k.blk)))))) rfl) (fun h => srs_ret (ev_eq ev_bl ?_)) fun h => ?_
  · unfold signsOk
    cases l with
    | nil => rfl
    | cons a r =>
      have h2 : (List.all (a :: r) fun n => decide (n ∈ allSigs)) = false := by
        cases q : (List.all (a :: r) fun n => decide (n ∈ allSigs)) with
        | true => rw [q] at h; simp at h
        | false => rfl
      rw [h2]
      rfl
  · have e1 : (l.all fun n => decide (n ∈ allSigs)) = true := by
      cases q : (l.all fun n => decide (n ∈ allSigs)) with
      | true => rfl
      | false => rw [q] at h; simp at h
    have e2 : l.isEmpty = false := by
      cases l with
      | nil => simp at h
      | cons _ _ => rfl
    have hz : (l.zip (l.drop 1)).length ≤ 16777000 := by rw [List.length_zip]; omega
    refine srs_ret (ev_eq (ev_allL (l.zip (l.drop 1)) (fun z => decide (z.1 < z.2)) k (n_all c) (ev_lcm [("one", 2), ("other", 3)] (l.zip (l.drop 1)) (fun z => dat K (.tuple [sgn z.1, sgn z.2])) (fun z => .bool (decide (z.1 < z.2))) k ?_ (fun y _ s0 H C cl fp => tg_dat _ k.blk (tgs_cons (tg_name 2 k.blk) (tgs_cons (tg_name 3 k.blk) tgs_nil))) (fun y _ s0 H C cl fp => ?_) hz)) ?_)
    · have e : ((l.map sgn).zip ((l.drop 1).map sgn)).map (fun z => dat K (.tuple [z.1, z.2])) = (l.zip (l.drop 1)).map fun z => dat K (.tuple [sgn z.1, sgn z.2]) := by
        rw [List.zip_map, List.map_map]; rfl
      rw [← e]
      exact it_zip k (n_zip c) (ea_cons (ev_var 0) (ea_cons (ev_eq (ev_slS (ev_var 0) (op_some ev_int) op_none (by omega)) (d2 := .str (txt (l.drop 1))) (by rw [cut_drop1])) ea_nil)) (items_txt l) (items_txt _)
    · exact ev_eq (ev_cmp op_lt_str rd_ltS (ev_var 2) (ev_var 3)) (by rw [lt_sing])
    · unfold signsOk
      rw [e1, e2]
      rfl
end
end Cs

set_option Elab.async false
set_option linter.all false
set_option autoImplicit false
set_option maxRecDepth 100000
set_option maxHeartbeats 4000000
/-! Equality of data as equality; a list unpacked; membership; l.index. -/
namespace Cs
open PySem PySem.Spec PyProof.Rows L2
/-! ### data without bools and dicts -/
mutual
def pur : PyData → Bool
  | .none => true
  | .bool _ => false
  | .int _ => true
  | .str _ => true
  | .list ds => purs ds
  | .tuple ds => purs ds
  | .dict _ => false
def purs : List PyData → Bool
  | [] => true
  | d :: ds => pur d && purs ds
end
mutual
theorem eqv_pur : ∀ (d e : PyData), pur d = true → pur e = true → (PyData.eqv d e = true ↔ d = e)
  | .none, e, _, h => by cases e <;> simp_all [PyData.eqv, pur]
  | .bool _, _, h, _ => by simp [pur] at h
  | .int i, e, _, h => by cases e <;> simp_all [PyData.eqv, pur]
  | .str i, e, _, h => by cases e <;> simp_all [PyData.eqv, pur]
  | .list ds, e, h, h' => by
    cases e with
    | list es =>
      rw [show PyData.eqv (.list ds) (.list es) = PyData.eqvAll ds es by simp only [PyData.eqv], eqv_purs ds es (by simpa [pur] using h) (by simpa [pur] using h')]
      simp
    | _ => simp_all [PyData.eqv, pur]
  | .tuple ds, e, h, h' => by
    cases e with
    | tuple es =>
      rw [show PyData.eqv (.tuple ds) (.tuple es) = PyData.eqvAll ds es by simp only [PyData.eqv], eqv_purs ds es (by simpa [pur] using h) (by simpa [pur] using h')]
      simp
    | _ => simp_all [PyData.eqv, pur]
  | .dict _, _, h, _ => by simp [pur] at h
theorem eqv_purs : ∀ (ds es : List PyData), purs ds = true → purs es = true → (PyData.eqvAll ds es = true ↔ ds = es)
  | [], [], _, _ => by simp [PyData.eqvAll]
  | [], _ :: _, _, _ => by simp [PyData.eqvAll]
  | _ :: _, [], _, _ => by simp [PyData.eqvAll]
  | d :: ds, e :: es, h, h' => by
    rw [purs, Bool.and_eq_true] at h h'
    rw [show PyData.eqvAll (d :: ds) (e :: es) = (PyData.eqv d e && PyData.eqvAll ds es) by simp only [PyData.eqvAll], Bool.and_eq_true, eqv_pur d e h.1 h'.1, eqv_purs ds es h.2 h'.2]
    simp
end
theorem purs_all : ∀ {ds : List PyData}, (∀ d ∈ ds, pur d = true) → purs ds = true
  | [], _ => by simp only [purs]
  | d :: ds, h => by rw [purs, h d (List.mem_cons_self ..), purs_all fun e he => h e (List.mem_cons_of_mem _ he)]; rfl
theorem pur_map {α : Type} {f : α → PyData} {l : List α} (h : ∀ y, pur (f y) = true) : purs (l.map f) = true := purs_all fun d hd => by
  obtain ⟨y, _, rfl⟩ := List.mem_map.mp hd
  exact h y
/-! ### data that may be compared -/
def ShD (n : Nat) (d : PyData) : Prop := d.canLay0 = true ∧ d.depth ≤ n
def ShA (n : Nat) (ds : List PyData) : Prop := PyData.canLayAll0 ds = true ∧ PyData.depthAll ds ≤ n
theorem ShD.sh {n : Nat} {d : PyData} (h : ShD n d) (hn : n ≤ 64 := by decide) : SeqAt.shaped d = true := by
  show (d.canLay0 && decide (d.depth ≤ 64)) = true
  rw [Bool.and_eq_true]
  exact ⟨h.1, decide_eq_true (Nat.le_trans h.2 hn)⟩
theorem sh_nil {n : Nat} : ShA n [] := ⟨rfl, by simp [PyData.depthAll]⟩
theorem sh_cons {n : Nat} {d : PyData} {ds : List PyData} (h : ShD n d) (t : ShA n ds) : ShA n (d :: ds) :=
  ⟨by rw [show PyData.canLayAll0 (d :: ds) = (d.canLay0 && PyData.canLayAll0 ds) by simp only [PyData.canLayAll0], h.1, t.1]; rfl, by simp only [PyData.depthAll]; exact Nat.max_le.mpr ⟨h.2, t.2⟩⟩
theorem sh_all {n : Nat} : ∀ {ds : List PyData}, (∀ d ∈ ds, ShD n d) → ShA n ds
  | [], _ => sh_nil
  | _ :: _, h => sh_cons (h _ (List.mem_cons_self ..)) (sh_all fun d hd => h d (List.mem_cons_of_mem _ hd))
theorem sh_map {α : Type} {n : Nat} {f : α → PyData} {l : List α} (h : ∀ y ∈ l, ShD n (f y)) : ShA n (l.map f) := sh_all fun d hd => by
  obtain ⟨y, hy, rfl⟩ := List.mem_map.mp hd
  exact h y hy
theorem sh_int {n : Nat} {i : Int} : ShD n (.int i) := ⟨rfl, by simp [PyData.depth]⟩
theorem sh_none {n : Nat} : ShD n .none := ⟨rfl, by simp [PyData.depth]⟩
theorem sh_bool {n : Nat} {b : Bool} : ShD n (.bool b) := ⟨rfl, by simp [PyData.depth]⟩
theorem sh_str {n : Nat} {z : Str} (h : PyData.strOk z = true) : ShD n (.str z) := ⟨h, by simp [PyData.depth]⟩
theorem ok_txt {l : List Nat} (h : ∀ c ∈ l, c < 1114112) : PyData.strOk (txt l) = true := by
  show ((txt l).cps.all fun c => decide (c < 1114112)) = true
  unfold txt
  simpa using h
theorem sh_txt {n : Nat} {l : List Nat} (h : ∀ c ∈ l, c < 1114112) : ShD n (.str (txt l)) := sh_str (ok_txt h)
theorem sh_tup {n : Nat} {ds : List PyData} (h : ShA n ds) : ShD (n + 1) (.tuple ds) := ⟨by simp only [PyData.canLay0]; exact h.1, by simp only [PyData.depth]; have := h.2; omega⟩
theorem sh_lst {n : Nat} {ds : List PyData} (h : ShA n ds) : ShD (n + 1) (.list ds) := ⟨by simp only [PyData.canLay0]; exact h.1, by simp only [PyData.depth]; have := h.2; omega⟩
section
variable {P : Program} {w : World} {K : PySem.W.Frag} {mg : Str → Option Value} {base : Heap} {k : Nat} {X : Cx} {W : Option Addr} {Γ Γ' : En} {pos p p2 apos cpos : Pos} {a b : Expr} {es : List Expr} {ds : List PyData} {d d2 : PyData} {n k0 : Nat} {ts : List T} {js : List Nat}
/-! ### a list is unpacked -/
theorem tg_lstT (c : Cok P w K mg base k X) (h : PGs X es (cGs K W Γ ts Γ' js)) (hl : ts.length = n := by rfl) (hn : (assignEach es X.env).length = n := by rfl) (hst : (assignEach es X.env).findIdx? (·.1) = none := by rfl) : PG X (.Tuple es k0 pos) (cG K W Γ (lstT K ts) Γ' js) :=
  pgI (pg_unl c.hc h hn hst) fun v σ H Q ⟨H0, G, f, en, q, k⟩ => by
    obtain ⟨p, xs, rfl, e, r⟩ := up.now q
    exact ⟨p, xs, rfl, by rw [c.hK]; exact f.seqL e, by rw [← hl]; exact r.length, H0, G, f, en, r, k⟩
theorem tg_datL (ds : List PyData) (c : Cok P w K mg base k X) (h : PGs X es (cGs K W Γ (ds.map (dat K)) Γ' js)) (hl : ds.length = n := by rfl) (hn : (assignEach es X.env).length = n := by rfl) (hst : (assignEach es X.env).findIdx? (·.1) = none := by rfl) : PG X (.Tuple es k0 pos) (cG K W Γ (dat K (.list ds)) Γ' js) :=
  pgI (tg_lstT c h (by rw [List.length_map]; exact hl) hn hst) fun v σ H Q ⟨H0, G, f, en, q, k⟩ => ⟨H0, G, f, en, lstT_of q, k⟩
theorem sr_unp {t : T} {a tg : Expr} {B C : As} {R : Ent} (ha : Ev X K W Γ a (.fro t)) (hg : PG X tg (cG K W Γ t Γ' js)) (hs : swapsWithSole [tg] a pos.line X.env = pure false := by rfl) (hw : swappedStores [tg] a X.env = pure none := by rfl) (h1 : (assignEach [tg] X.env).map (·.2) = [assign tg X.env] := by rfl) :
    Sr X K W (.Assign [tg] a pos) (envA W Γ) (envA W Γ') B C R := sr_unpack (N := noA) ha hg hs hw h1
/-! ### x in a tuple of texts -/
theorem inV_str {z : Str} {xs : List Str} : inV (.str z) (xs.map V.str) = decide (z ∈ xs) := by
  unfold inV
  rw [List.any_map]
  induction xs with
  | nil => rfl
  | cons y ys ih =>
    rw [List.any_cons, ih]
    by_cases e : y = z
    · subst e; simp [eqV]
    · have e' : ¬ z = y := fun q => e q.symm
      simp [eqV, e, e']
theorem inV_bl {z : Bool} {xs : List Bool} : inV (.bl z) (xs.map V.bl) = decide (z ∈ xs) := by
  unfold inV
  rw [List.any_map]
  induction xs with
  | nil => rfl
  | cons y ys ih =>
    rw [List.any_cons, ih]
    cases y <;> cases z <;> simp [eqV]
theorem flat_strs (xs : List Str) : (xs.map V.str).all flatV = true := by rw [List.all_map, List.all_eq_true]; intro _ _; rfl
theorem rd_inT {z : Str} {xs : List Str} : RdO K W (rIn K false) (Dt K (.str z)) (Dt K (.tuple (xs.map .str))) (Dt K (.bool (decide (z ∈ xs)))) := fun H0 G H x y f hb q1 q2 Q k => by
  obtain ⟨p, vs, rfl, hs, hd⟩ := dt_tuple q2
  rw [dpStrs hd] at hs
  refine ⟨p, xs.map V.str, rfl, .inr (f.seqT hs), by rw [dt_str q1]; rfl, flat_strs xs, k _ H G (Step.refl f) (dt_of ?_)⟩
  rw [dt_str q1, if_neg Bool.false_ne_true, inV_str]
  exact .bl _
theorem rd_niT {z : Str} {xs : List Str} : RdO K W (rIn K true) (Dt K (.str z)) (Dt K (.tuple (xs.map .str))) (Dt K (.bool (!decide (z ∈ xs)))) := fun H0 G H x y f hb q1 q2 Q k => by
  obtain ⟨p, vs, rfl, hs, hd⟩ := dt_tuple q2
  rw [dpStrs hd] at hs
  refine ⟨p, xs.map V.str, rfl, .inr (f.seqT hs), by rw [dt_str q1]; rfl, flat_strs xs, k _ H G (Step.refl f) (dt_of ?_)⟩
  rw [dt_str q1, if_pos rfl, inV_str]
  exact .bl _
theorem op_inQ (c : Cok P w K mg base k X) : OpR X (compareOp .In) (rIn K false) := by
  have h : OpR X (compareOp .In) (rIn X.K false) := op_in_seq
  rwa [c.hK] at h
theorem op_niQ (c : Cok P w K mg base k X) : OpR X (compareOp .NotIn) (rIn K true) := by
  have h : OpR X (compareOp .NotIn) (rIn X.K true) := op_notIn_seq
  rwa [c.hK] at h
/-- False in a list of bools -/
theorem rd_inBs {z : Bool} {xs : List Bool} : RdO K W (rIn K false) (Dt K (.bool z)) (Dt K (.list (xs.map .bool))) (Dt K (.bool (decide (z ∈ xs)))) := fun H0 G H x y f hb q1 q2 Q k => by
  obtain ⟨p, vs, rfl, hs, hd⟩ := dt_list q2
  rw [dpBools hd] at hs
  refine ⟨p, xs.map V.bl, rfl, .inl (f.seqL hs), by rw [dt_bool q1]; rfl, by rw [List.all_map, List.all_eq_true]; intro _ _; rfl, k _ H G (Step.refl f) (dt_of ?_)⟩
  rw [dt_bool q1, if_neg Bool.false_ne_true]
  rw [inV_bl]
  exact .bl _
/-! ### l.index(x) -/
theorem Cok.deep (c : Cok P w K mg base k X) : X.A.units + 65 < cLine := by have := c.hr.un; omega
theorem ev_lIndex {j : Nat} {z : PyData} (c : Cok P w K mg base k X) (ha : Ev X K W Γ a (Dt K (.list ds))) (hb : Ev X K W Γ b (Dt K d)) (s1 : SeqAt.shaped (.list ds) = true) (s2 : SeqAt.shaped d = true) (hj : ds[j]? = some z) (hz : PyData.eqv z d = true) (hno : ∀ (m : Nat) (z' : PyData), m < j → ds[m]? = some z' → PyData.eqv z' d = false)
    (hbase : attributeBase a "index" X.env (eval a X.env) = eval a X.env := by rfl)
    (hfew : ((backTo cpos (starEach [b] X.env)).all (fun x => !x.1) && (backToKw cpos (keywordEach [] X.env)).all (fun x => x.1.isSome)
      && decide ([b].length + ([] : List Keyword).length + (if ([] : List Keyword).isEmpty then 0 else 1) < 30)) = true := by rfl)
    (hline : (apos.endLine == cpos.line) = true := by rfl) (hs : starEach [b] X.env = (false, eval b X.env) :: starEach [] X.env := by rfl) : Ev X K W Γ (.Call (.Attribute a "index" apos) [b] [] cpos) (Dt K (.int (j : Nat))) :=
  peI (pe_bm PySem.F.plainAttrs_list PySem.F.slot_list_index PySem.F.type_list_index (mt_indexD c.deep) ha (ea_cons hb ea_nil hs) hbase hfew hline hs rfl) fun σ H Q ⟨H0, G, f, en, k⟩ => ⟨H0, G, f, en, fun v H1 G1 st1 q1 => by
    obtain ⟨p, xs, rfl, hs, hd⟩ := dt_list q1
    refine ⟨.inl ⟨rfl, xs, by rw [c.hK]; exact st1.frm.seqL hs⟩, H0, G1, st1.frm, en.step st1, fun vs H2 G2 st2 q2 => ?_⟩
    obtain ⟨y, rfl, qy⟩ := args1 q2
    refine ⟨p, y, d, ds, j, z, rfl, rfl, ?_, ?_, s1, s2, hj, hz, hno, k _ H2 G2 (st1.trans st2) (dt_of (.int _))⟩
    · rw [c.hK]; exact st2.frm.dp (Lk.dat (Lk.same st2.gro) (.lst hs hd))
    · rw [c.hK]; exact st2.frm.dp (dt_dp qy)⟩
end
end Cs

set_option Elab.async false
set_option linter.all false
set_option autoImplicit false
set_option maxRecDepth 100000
set_option maxHeartbeats 4000000
/-! A rule's rows are told to be rows. -/
namespace Cs
open PySem PySem.Spec PyProof.Rows L2
structure OfOk (l s : List Nat) : Prop where
  ok : signsOk l = true
  few : l.length ≤ 27
  sub : (l.all fun n => decide (n ∈ s)) = true
def tstOk (near s : List Nat) : Tst0 → Prop
  | .at_ p l => p < 8 ∧ p ∈ near ∧ OfOk l s
  | .cnt lo hi l => lo ≤ hi ∧ hi ≤ 8 ∧ OfOk l s
structure CRowOk (near s : List Nat) (r : CRow) : Prop where
  own : OfOk r.own s
  few : r.tests.length ≤ 8
  tests : ∀ t ∈ r.tests, tstOk near s t
  sign : r.sign ∈ s ∧ r.sign ∈ allSigs
structure BRowOk (s : List Nat) (r : BRow) : Prop where
  n4 : r.fours.length = 4
  fours : ∀ f ∈ r.fours, OfOk f s
  m4 : r.four.length = 4
  four : (r.four.all fun n => decide (n ∈ s)) = true
theorem plc_inj : ∀ {p q : Nat}, p < 8 → q < 8 → plc p = plc q → p = q := by
  have h : ∀ p, p < 8 → ∀ q, q < 8 → plc p = plc q → p = q := by decide +kernel
  intro p q hp hq e
  exact h p hp q hq e
theorem plc_mem : ∀ {p : Nat}, p < 8 → plc p ∈ placesL := by
  have h : ∀ p, p < 8 → plc p ∈ placesL := by decide +kernel
  intro p hp
  exact h p hp
theorem OfOk.lt {l s : List Nat} (h : OfOk l s) : ∀ c ∈ l, c < 1114112 := fun c hc => by
  have h1 := h.ok
  unfold signsOk at h1
  rw [Bool.and_eq_true, Bool.and_eq_true, List.all_eq_true] at h1
  have h2 := of_decide_eq_true (h1.2.1 c hc)
  have h3 : ∀ n ∈ allSigs, n < 1114112 := by decide
  exact h3 c h2
theorem plc_ok {p : Nat} (h : p < 8) : PyData.strOk (plc p) = true := by
  have h0 : ∀ p, p < 8 → PyData.strOk (plc p) = true := by decide +kernel
  exact h0 p h
theorem tst_sh {near s : List Nat} {t : Tst0} (h : tstOk near s t) : SeqAt.shaped (tstD t) = true := by
  cases t with
  | at_ p l => exact (sh_tup (n := 1) (sh_cons (sh_str (by decide +kernel)) (sh_cons (sh_str (plc_ok h.1)) (sh_cons (sh_txt h.2.2.lt) sh_nil)))).sh
  | cnt lo hi l => exact (sh_tup (n := 1) (sh_cons (sh_str (by decide +kernel)) (sh_cons sh_int (sh_cons sh_int (sh_cons (sh_txt h.2.2.lt) sh_nil))))).sh
def nearS (n : List Nat) : List Str := n.map plc
theorem nearD_eq (n : List Nat) : nearD n = (nearS n).map .str := by unfold nearD nearS; rw [List.map_map]; rfl
theorem plc_in {p : Nat} {n : List Nat} (h : p ∈ n) : plc p ∈ nearS n := List.mem_map.mpr ⟨p, h, rfl⟩
theorem dpStrsR {K : PySem.W.Frag} {G : Hp} : ∀ xs : List Str, DpAll K G (xs.map V.str) (xs.map .str)
  | [] => .nil
  | x :: xs => .cons (.str x) (dpStrsR xs)
section
variable {P : Program} {w : World} {K : PySem.W.Frag} {mg : Str → Option Value} {base : Heap}
section
variable {k : Nat} {X : Cx} {W : Option Addr} {Γ : En} {pos : Pos}
theorem ev_places (c : Ctx w K mg) (kk : Cok P w K mg base k X) (hg : Gl X "PLACES" := by rfl) : Ev X K W Γ (.Name "PLACES" pos) (Dt K (.tuple (placesL.map .str))) :=
  ev_gref kk (g_PLACES c) (fun G => .tup (c.places G) (dpStrsR placesL)) hg
theorem ev_sorts (c : Ctx w K mg) (kk : Cok P w K mg base k X) (hg : Gl X "SORTS" := by rfl) : Ev X K W Γ (.Name "SORTS" pos) (Dt K (.tuple ((["around", "halves", "blocks"] : List Str).map .str))) :=
  ev_gref kk (g_SORTS c) (fun G => .tup (c.sorts G) (dpStrsR ["around", "halves", "blocks"])) hg
theorem ev_straight (c : Ctx w K mg) (kk : Cok P w K mg base k X) (hg : Gl X "STRAIGHT" := by rfl) : Ev X K W Γ (.Name "STRAIGHT" pos) (Dt K (.tuple ((["n", "e", "s", "w"] : List Str).map .str))) :=
  ev_gref kk (g_STRAIGHT c) (fun G => .tup (c.straight G) (dpStrsR ["n", "e", "s", "w"])) hg
end
theorem ok_is_place (c : Ctx w K mg) (z : Str) (hz : z ∈ placesL) : DfOk P w K mg base "is_place" 1 false [Dt K (.str z)] (Dt K (.bool true)) := by
  obtain ⟨fd, F0⟩ := (d_is_place c)
  refine mk_df ["thing"] (ps := ["thing"]) (N := noA) F0 (g_is_place c) ⟨rfl, rfl, rfl, by decide +kernel, rfl, by decide +kernel, by decide +kernel⟩ (fun _ _ _ _ _ _ us hl => match us, hl with | [_], _ => rfl) rfl (by simp [noOwns, notOwn]) (fun W X hW k hX => ?_) (fun _ _ _ _ _ z => z.elim)
  obtain ⟨cdv, A, outer, s, H, E, rfl⟩ := hX
  exact srs_ret (ev_eq (ev_and (ev_is "str" true c k (n_str c) (ev_var 0)) fun _ => ev_one (ev_cmp (op_inQ k) rd_inT (ev_var 0) (ev_places c k))) (by rw [decide_eq_true hz]; rfl))
theorem ok_are_of (c : Ctx w K mg) (l sg : List Nat) (h : OfOk l sg) : DfOk P w K mg base "are_of" 2 false [Dt K (.str (txt l)), Dt K (.str (txt sg))] (Dt K (.bool true)) := by
  obtain ⟨fd, F0⟩ := (d_are_of c)
  refine mk_df ["thing", "signs", "sign"] (ps := ["thing", "signs"]) (N := noA) F0 (g_are_of c) ⟨rfl, rfl, rfl, by decide +kernel, rfl, by decide +kernel, by decide +kernel⟩ (fun _ _ _ _ _ _ us hl => match us, hl with | [_, _], _ => rfl) rfl (by simp [noOwns, notOwn]) (fun W X hW k hX => ?_) (fun _ _ _ _ _ z => z.elim)
  obtain ⟨cdv, A, outer, s, H, E, rfl⟩ := hX
  have := h.few
  exact srs_ret (ev_eq (ev_and (ev_call k (ok_is_signs c l (by omega)) (ea_cons (ev_var 0) ea_nil)) fun _ => ev_one (all_in c k 2 l sg (ev_var 0) (fun y s0 H C cl fp => ev_var 1) (by omega) (fun y s0 H C cl fp => ev_var 2) (fun y s0 H C cl fp => tg_name 2 k.blk))) (by rw [h.ok, h.sub]; rfl))
theorem ok_is_test (c : Ctx w K mg) (near sg : List Nat) (t : Tst0) (h : tstOk near sg t) : DfOk P w K mg base "is_test" 3 false [Dt K (tstD t), Dt K (.tuple (nearD near)), Dt K (.str (txt sg))] (Dt K (.bool true)) := by
  cases t with
  | at_ p l =>
    obtain ⟨fd, F0⟩ := (d_is_test c)
    refine mk_df ["thing", "near", "signs", "word", "rest", "low", "high", "counted"] (ps := ["thing", "near", "signs"]) (N := noA) F0 (g_is_test c) ⟨rfl, rfl, rfl, by decide +kernel, rfl, by decide +kernel, by decide +kernel⟩ (fun _ _ _ _ _ _ us hl => match us, hl with | [_, _, _], _ => rfl) rfl (by simp [noOwns, notOwn]) (fun W X hW k hX => ?_) (fun _ _ _ _ _ z => z.elim)
    obtain ⟨cdv, A, outer, s, H, E, rfl⟩ := hX
    refine srs_no (tst_eq (tst_w (tsw_or (tst_not (tst_val (ev_is "tuple" true c k (n_tuple c) (ev_var 0)))) fun _ => tsw_or (tst_eqD k (tst_sh h) (by decide +kernel) (ev_var 0) (ev_tup ead_nil)) fun _ => tsw_or1 (tst_not (tst_val (ev_is "str" true c k (n_str c) (ev_ixT k (ev_var 0) ev_int rfl)))))) (by simp [tstD, PyData.eqv, PyData.eqvAll])) ?_
    refine srs_cons (sr_star 3 4 k (ev_var 0)) ?_
    refine srs_ifR (cv := true) (tst_eq (tst_w (tsw_and (tst_eqS k (ev_var 3) ev_str) fun _ => tsw_and1 (tst_eqI k (ev_lenL k (n_len c) (ea_cons (ev_var 4) ea_nil)) ev_int))) rfl) (fun _ => ?_) fun z => nomatch z
    have e1 : decide (plc p ∈ nearS near) = true := decide_eq_true (plc_in h.2.1)
    exact srs_ret (ev_eq (ev_and (ev_call k (ok_is_place c (plc p) (plc_mem h.1)) (ea_cons (ev_ixL k (ev_var 4) ev_int rfl) ea_nil)) fun _ => ev_and (ev_cmp (op_inQ k) rd_inT (ev_ixL k (ev_var 4) ev_int rfl) (by rw [nearD_eq]; exact ev_var 1)) fun _ => ev_one (ev_call k (ok_are_of c l sg h.2.2) (ea_cons (ev_ixL k (ev_var 4) ev_int rfl) (ea_cons (ev_var 2) ea_nil)))) (by rw [e1]; rfl))
  | cnt lo hi l =>
    obtain ⟨fd, F0⟩ := (d_is_test c)
    refine mk_df ["thing", "near", "signs", "word", "rest", "low", "high", "counted"] (ps := ["thing", "near", "signs"]) (N := noA) F0 (g_is_test c) ⟨rfl, rfl, rfl, by decide +kernel, rfl, by decide +kernel, by decide +kernel⟩ (fun _ _ _ _ _ _ us hl => match us, hl with | [_, _, _], _ => rfl) rfl (by simp [noOwns, notOwn]) (fun W X hW k hX => ?_) (fun _ _ _ _ _ z => z.elim)
    obtain ⟨cdv, A, outer, s, H, E, rfl⟩ := hX
    refine srs_no (tst_eq (tst_w (tsw_or (tst_not (tst_val (ev_is "tuple" true c k (n_tuple c) (ev_var 0)))) fun _ => tsw_or (tst_eqD k (tst_sh h) (by decide +kernel) (ev_var 0) (ev_tup ead_nil)) fun _ => tsw_or1 (tst_not (tst_val (ev_is "str" true c k (n_str c) (ev_ixT k (ev_var 0) ev_int rfl)))))) (by simp [tstD, PyData.eqv, PyData.eqvAll])) ?_
    refine srs_cons (sr_star 3 4 k (ev_var 0)) ?_
    refine srs_no (tst_eq (tst_w (tsw_and (tst_eqS k (ev_var 3) ev_str) fun _ => tsw_and1 (tst_eqI k (ev_lenL k (n_len c) (ea_cons (ev_var 4) ea_nil)) ev_int))) rfl) ?_
    refine srs_no (tst_eq (tst_w (tsw_or (tst_neS k (ev_var 3) ev_str) fun _ => tsw_or1 (tst_neI k (ev_lenL k (n_len c) (ea_cons (ev_var 4) ea_nil)) ev_int))) rfl) ?_
    refine srs_cons (sr_unp (ev_var 4) (tg_datL [.int lo, .int hi, .str (txt l)] k (tgs_cons (tg_name 5 k) (tgs_cons (tg_name 6 k) (tgs_cons (tg_name 7 k) tgs_nil))))) ?_
    have e1 : (decide ((0 : Int) ≤ (lo : Int)) && decide ((lo : Int) ≤ 8)) = true := by
      have := h.1
      have := h.2.1
      rw [decide_eq_true (by omega), decide_eq_true (by omega)]
      rfl
    have e2 : (decide ((lo : Int) ≤ (hi : Int)) && decide ((hi : Int) ≤ 8)) = true := by
      have := h.1
      have := h.2.1
      rw [decide_eq_true (by omega), decide_eq_true (by omega)]
      rfl
    exact srs_ret (ev_eq (ev_and (ev_call k (ok_is_from_to c lo 0 8) (ea_cons (ev_var 5) (ea_cons ev_int (ea_cons (ev_gint k (i_MOST_TESTS c)) ea_nil)))) fun _ => ev_and (ev_call k (ok_is_from_to c hi lo 8) (ea_cons (ev_var 6) (ea_cons (ev_var 5) (ea_cons (ev_gint k (i_MOST_TESTS c)) ea_nil)))) fun _ => ev_one (ev_call k (ok_are_of c l sg h.2.2) (ea_cons (ev_var 7) (ea_cons (ev_var 2) ea_nil)))) (by rw [e1, e2]; rfl))
end
end Cs

set_option Elab.async false
set_option linter.all false
set_option autoImplicit false
set_option maxRecDepth 100000
set_option maxHeartbeats 4000000
/-! Rows, the making of a rule. -/
namespace Cs
open PySem PySem.Spec PyProof.Rows L2
theorem mk_mt {P : Program} {w : World} {K : PySem.W.Frag} {mg : Str → Option Value} {base : Heap} {x qual : Str} {st : Stmt} {C f : Addr} {fd : FuncData} {k : Nat} {bg : Bool} {as : List Ent} {r : Ent} {ps : List Str} (Nm : List Str) {N : As} (F : FunD K x qual (defArgs st) (defBody st) (defScope st) [] [] f fd) (hC : Cls K C) (hM : Meth K C x f) (S : FnScope Nm ps (defScope st))
    (bi : ∀ (kV doc pm : Value) (an : Option Addr) (cdv ct : Value) (us : List Value), us.length = ps.length → bindArgs (PySem.W.fnOf x qual (defArgs st) (defBody st) (defScope st) .none kV doc pm an cdv ct) ⟨us, []⟩ = pure (ps.zip us))
    (hl : as.length = ps.length) (n : noOwns as)
    (h : ∀ (W : Option Addr) (X : Cx), (bg = false → W = none) → Cok P w K mg base k X → (∃ cdv A outer s H E, X = (cxOf CX0 P w K mg base Nm qual (defScope st) f cdv A outer s H E).nox) → Srs X K W (defBody st) (envA W (initE Nm.length as)) N noA noA r)
    (hN : ∀ W H0 G H σ, N H0 G H σ → EntOk W H0 G H .non r) : MtOk P w K mg base C x (k + 1) bg as r :=
  ⟨f, fd, ps, hC, hM, F.bindsN bi, mk_fn Nm F S hl n h hN⟩
/-- a rule as an object -/
def ruleF (K : PySem.W.Frag) (so : Str) (many : Nat) (near : List Nat) (rows : List PyData) : Flds := [("listed", dat K (.list rows)), ("looked_at", xtT K (nearD near)), ("count", dat K (.int many)), ("sort_told", dat K (.str so))]
def sigsL (m : Nat) : List Nat := allSigs.take m
theorem cut_to {α : Type} (l : List α) (m : Nat) : cut l none (some (m : Int)) = l.take m := by
  unfold cut
  rw [HT.sIx_nat, HT.sIx_none, List.drop_zero, Nat.sub_zero]
  by_cases h : m ≤ l.length
  · rw [Nat.min_eq_left h]
  · rw [Nat.min_eq_right (by omega), List.take_of_length_le (Nat.le_refl _), List.take_of_length_le (by omega)]
section
variable {P : Program} {w : World} {K : PySem.W.Frag} {mg : Str → Option Value} {base : Heap}
theorem ok_is_text_of (c : Ctx w K mg) (l sg : List Nat) (m : Nat) (hl : l.length = m) (hm : m ≤ 1000) (hs : (l.all fun n => decide (n ∈ sg)) = true) : DfOk P w K mg base "is_text_of" 1 false [Dt K (.str (txt l)), Dt K (.int m), Dt K (.str (txt sg))] (Dt K (.bool true)) := by
  obtain ⟨fd, F0⟩ := (d_is_text_of c)
  refine mk_df ["thing", "many", "signs", "sign"] (ps := ["thing", "many", "signs"]) (N := noA) F0 (g_is_text_of c) ⟨rfl, rfl, rfl, by decide +kernel, rfl, by decide +kernel, by decide +kernel⟩ (fun _ _ _ _ _ _ us hl => match us, hl with | [_, _, _], _ => rfl) rfl (by simp [noOwns, notOwn]) (fun W X hW k hX => ?_) (fun _ _ _ _ _ z => z.elim)
  obtain ⟨cdv, A, outer, s, H, E, rfl⟩ := hX
  exact srs_ret (ev_eq (ev_and (ev_is "str" true c k (n_str c) (ev_var 0)) fun _ => ev_and (ev_eqI k (ev_lenS k (n_len c) (ea_cons (ev_var 0) ea_nil)) (ev_var 1)) fun _ => ev_one (all_in c k 3 l sg (ev_var 0) (fun y s0 H C cl fp => ev_var 2) (by omega) (fun y s0 H C cl fp => ev_var 3) (fun y s0 H C cl fp => tg_name 3 k.blk))) (by rw [hl, hs]; simp))
theorem ok_is_cell_row (c : Ctx w K mg) (near sg : List Nat) (r : CRow) (h : CRowOk near sg r) : DfOk P w K mg base "is_cell_row" 4 false [Dt K (crowD r), Dt K (.tuple (nearD near)), Dt K (.str (txt sg))] (Dt K (.bool true)) := by
  obtain ⟨fd, F0⟩ := (d_is_cell_row c)
  refine mk_df ["thing", "near", "signs", "own", "tests", "sign", "test"] (ps := ["thing", "near", "signs"]) (N := noA) F0 (g_is_cell_row c) ⟨rfl, rfl, rfl, by decide +kernel, rfl, by decide +kernel, by decide +kernel⟩ (fun _ _ _ _ _ _ us hl => match us, hl with | [_, _, _], _ => rfl) rfl (by simp [noOwns, notOwn]) (fun W X hW k hX => ?_) (fun _ _ _ _ _ z => z.elim)
  obtain ⟨cdv, A, outer, s, H, E, rfl⟩ := hX
  refine srs_no (tst_eq (tst_w (tsw_or (tst_not (tst_val (ev_is "tuple" true c k (n_tuple c) (ev_var 0)))) fun _ => tsw_or1 (tst_neI k (ev_lenT k (n_len c) (ea_cons (ev_var 0) ea_nil)) ev_int))) rfl) ?_
  refine srs_cons (sr_unp (ev_var 0) (tg_dat [.str (txt r.own), .tuple (r.tests.map tstD), sgn r.sign] k (tgs_cons (tg_name 3 k) (tgs_cons (tg_name 4 k) (tgs_cons (tg_name 5 k) tgs_nil))))) ?_
  refine srs_no (tst_eq (tst_w (tsw_or (tst_not (tst_val (ev_call k (ok_are_of c r.own sg h.own) (ea_cons (ev_var 3) (ea_cons (ev_var 2) ea_nil))))) fun _ => tsw_or (tst_not (tst_val (ev_call k (ok_is_sign c r.sign) (ea_cons (ev_var 5) ea_nil)))) fun _ => tsw_or1 (tst_cmp1 op_notInS rd_niS (ev_var 5) (ev_var 2)))) (by rw [decide_eq_true h.sign.1, decide_eq_true h.sign.2]; rfl)) ?_
  refine srs_no (tst_eq (tst_w (tsw_or (tst_not (tst_val (ev_is "tuple" true c k (n_tuple c) (ev_var 4)))) fun _ => tsw_or1 (tst_cmp1 op_gt rd_gt (ev_lenT k (n_len c) (ea_cons (ev_var 4) ea_nil)) (ev_gint k (i_MOST_TESTS c))))) (by rw [List.length_map, decide_eq_false (by have := h.few; omega)]; rfl)) ?_
  refine srs_ret (ev_eq (ev_allL r.tests (fun _ => true) k (n_all c) (ev_lcm [("test", 6)] r.tests (fun t => dat K (tstD t)) (fun _ => .bool true) k (it_tup r.tests tstD k (ev_var 4)) (fun y _ s0 H C cl fp => tg_name 6 k.blk) (fun y hy s0 H C cl fp => ev_call k.blk (ok_is_test c near sg y (h.tests y hy)) (ea_cons (ev_var 6) (ea_cons (ev_var 1) (ea_cons (ev_var 2) ea_nil)))) (by have := h.few; omega))) ?_)
  rw [show (r.tests.all fun _ => true) = true by simp]
theorem ok_is_block_row (c : Ctx w K mg) (sg : List Nat) (r : BRow) (h : BRowOk sg r) : DfOk P w K mg base "is_block_row" 3 false [Dt K (browD r), Dt K (.str (txt sg))] (Dt K (.bool true)) := by
  obtain ⟨fd, F0⟩ := (d_is_block_row c)
  refine mk_df ["thing", "signs", "fours", "four", "one"] (ps := ["thing", "signs"]) (N := noA) F0 (g_is_block_row c) ⟨rfl, rfl, rfl, by decide +kernel, rfl, by decide +kernel, by decide +kernel⟩ (fun _ _ _ _ _ _ us hl => match us, hl with | [_, _], _ => rfl) rfl (by simp [noOwns, notOwn]) (fun W X hW k hX => ?_) (fun _ _ _ _ _ z => z.elim)
  obtain ⟨cdv, A, outer, s, H, E, rfl⟩ := hX
  refine srs_no (tst_eq (tst_w (tsw_or (tst_not (tst_val (ev_is "tuple" true c k (n_tuple c) (ev_var 0)))) fun _ => tsw_or1 (tst_neI k (ev_lenT k (n_len c) (ea_cons (ev_var 0) ea_nil)) ev_int))) rfl) ?_
  refine srs_cons (sr_unp (ev_var 0) (tg_dat [.tuple (r.fours.map fun f => .str (txt f)), .str (txt r.four)] k (tgs_cons (tg_name 2 k) (tgs_cons (tg_name 3 k) tgs_nil)))) ?_
  refine srs_no (tst_eq (tst_w (tsw_or (tst_not (tst_val (ev_is "tuple" true c k (n_tuple c) (ev_var 2)))) fun _ => tsw_or (tst_neI k (ev_lenT k (n_len c) (ea_cons (ev_var 2) ea_nil)) ev_int) fun _ => tsw_or1 (tst_not (tst_val
    (ev_allL r.fours (fun _ => true) k (n_all c) (ev_lcm [("one", 4)] r.fours (fun f => dat K (.str (txt f))) (fun _ => .bool true) k (it_tup r.fours (fun f => .str (txt f)) k (ev_var 2)) (fun y _ s0 H C cl fp => tg_name 4 k.blk) (fun y hy s0 H C cl fp => ev_call k.blk (ok_are_of c y sg (h.fours y hy)) (ea_cons (ev_var 4) (ea_cons (ev_var 1) ea_nil))) (by have := h.n4; omega))))))) (by
      rw [List.length_map, h.n4, show (r.fours.all fun _ => true) = true by simp]; rfl)) ?_
  exact srs_ret (ev_call k (ok_is_text_of c r.four sg 4 h.m4 (by decide) h.four) (ea_cons (ev_var 3) (ea_cons ev_int (ea_cons (ev_var 1) ea_nil))))
/-! ### what a rule tells -/
section
variable (so : Str) (m : Nat) (near : List Nat) (rows : List PyData)
abbrev ruT (K : PySem.W.Frag) (so : Str) (m : Nat) (near : List Nat) (rows : List PyData) : Ent := .fro (obj (He.ga K "Rule") (ruleF K so m near rows))
theorem ok_R_kind (c : Ctx w K mg) (so : Str) (m : Nat) (near : List Nat) (rows : List PyData) : MtOk P w K mg base (He.ga K "Rule") "kind" 1 false [ruT K so m near rows] (Dt K (.str so)) := by
  obtain ⟨fd, F0⟩ := (dm_Rule_kind c)
  refine mk_mt ["self"] (ps := ["self"]) (N := noA) F0 (C_Rule c) (mt_Rule_kind c) ⟨rfl, rfl, rfl, by decide +kernel, rfl, by decide +kernel, by decide +kernel⟩ (fun _ _ _ _ _ _ us hl => match us, hl with | [_], _ => rfl) rfl (by simp [noOwns, notOwn]) (fun W X hW k hX => ?_) (fun _ _ _ _ _ z => z.elim)
  obtain ⟨cdv, A, outer, s, H, E, rfl⟩ := hX
  exact srs_ret (ev_fld k (C_Rule c) (na_Rule_sort_told c) (ev_var 0))
theorem ok_R_near (c : Ctx w K mg) (so : Str) (m : Nat) (near : List Nat) (rows : List PyData) : MtOk P w K mg base (He.ga K "Rule") "near" 1 false [ruT K so m near rows] (.fro (xtT K (nearD near))) := by
  obtain ⟨fd, F0⟩ := (dm_Rule_near c)
  refine mk_mt ["self"] (ps := ["self"]) (N := noA) F0 (C_Rule c) (mt_Rule_near c) ⟨rfl, rfl, rfl, by decide +kernel, rfl, by decide +kernel, by decide +kernel⟩ (fun _ _ _ _ _ _ us hl => match us, hl with | [_], _ => rfl) rfl (by simp [noOwns, notOwn]) (fun W X hW k hX => ?_) (fun _ _ _ _ _ z => z.elim)
  obtain ⟨cdv, A, outer, s, H, E, rfl⟩ := hX
  exact srs_ret (ev_fld k (C_Rule c) (na_Rule_looked_at c) (ev_var 0))
theorem ok_R_signs (c : Ctx w K mg) (so : Str) (m : Nat) (near : List Nat) (rows : List PyData) : MtOk P w K mg base (He.ga K "Rule") "signs" 1 false [ruT K so m near rows] (Dt K (.str (txt (sigs m)))) := by
  obtain ⟨fd, F0⟩ := (dm_Rule_signs c)
  refine mk_mt ["self"] (ps := ["self"]) (N := noA) F0 (C_Rule c) (mt_Rule_signs c) ⟨rfl, rfl, rfl, by decide +kernel, rfl, by decide +kernel, by decide +kernel⟩ (fun _ _ _ _ _ _ us hl => match us, hl with | [_], _ => rfl) rfl (by simp [noOwns, notOwn]) (fun W X hW k hX => ?_) (fun _ _ _ _ _ z => z.elim)
  obtain ⟨cdv, A, outer, s, H, E, rfl⟩ := hX
  exact srs_ret (ev_eq (ev_slS (ev_gtxt allSigs k (s_SIGNS c)) op_none (op_some (ev_fld k (C_Rule c) (na_Rule_count c) (ev_var 0))) (Nat.le_of_ble_eq_true rfl)) (by rw [cut_to]; rfl))
end
/-! ### near -/
structure NearOk (so : Str) (near : List Nat) : Prop where
  lt : ∀ p ∈ near, p < 8
  nd : near.Nodup
  few : near.length ≤ 8
  hv : so = "halves" → ∀ p ∈ near, plc p ∈ (["n", "e", "s", "w"] : List Str)
  ar : so ≠ "halves" → so = "around" ∨ near = []
theorem nearS_nd {near : List Nat} (h : ∀ p ∈ near, p < 8) (nd : near.Nodup) : (nearS near).Nodup := by
  unfold nearS
  rw [List.nodup_iff_pairwise_ne, List.pairwise_map]
  exact (List.nodup_iff_pairwise_ne.mp nd).imp_of_mem fun {a b} ha hb n e => n (plc_inj (h a ha) (h b hb) e)
theorem near_sh {near : List Nat} (h : ∀ p ∈ near, p < 8) : SeqAt.shaped (.tuple (nearD near)) = true := (sh_tup (n := 1) (sh_map fun p hp => sh_str (plc_ok (h p hp)))).sh
theorem tupEmpty {ds : List PyData} : PyData.eqv (.tuple ds) (.tuple []) = decide (ds = []) := by
  cases ds <;> simp [PyData.eqv, PyData.eqvAll]
theorem ok_is_near (c : Ctx w K mg) (so : Str) (near : List Nat) (h : NearOk so near) : DfOk P w K mg base "is_near" 2 false [Dt K (.str so), Dt K (.tuple (nearD near))] (Dt K (.bool true)) := by
  obtain ⟨fd, F0⟩ := (d_is_near c)
  refine mk_df ["sort", "thing", "place"] (ps := ["sort", "thing"]) (N := noA) F0 (g_is_near c) ⟨rfl, rfl, rfl, by decide +kernel, rfl, by decide +kernel, by decide +kernel⟩ (fun _ _ _ _ _ _ us hl => match us, hl with | [_, _], _ => rfl) rfl (by simp [noOwns, notOwn]) (fun W X hW k hX => ?_) (fun _ _ _ _ _ z => z.elim)
  obtain ⟨cdv, A, outer, s, H, E, rfl⟩ := hX
  have n8 := h.few
  have hit : ∀ {X : Cx} {k : Nat} {tg : Expr} {pos : Pos} (kk : Cok P w K mg base k X) (e : Ev X K W (initE 3 [Dt K (.str so), Dt K (.tuple (nearD near))]) (.Name "thing" pos) (Dt K (.tuple (nearD near)))), PI X tg (.Name "thing" pos) (cI K W (initE 3 [Dt K (.str so), Dt K (.tuple (nearD near))]) (near.map fun p => dat K (.str (plc p)))) := fun kk e => it_tup near (fun p => .str (plc p)) kk e
  refine srs_no (tst_eq (tst_w (tsw_or (tst_not (tst_val (ev_is "tuple" true c k (n_tuple c) (ev_var 1)))) fun _ => tsw_or (tst_not (tst_val
    (ev_allL near (fun _ => true) k (n_all c) (ev_lcm [("place", 2)] near (fun p => dat K (.str (plc p))) (fun _ => .bool true) k (hit k (ev_var 1)) (fun y _ s0 H C cl fp => tg_name 2 k.blk) (fun y hy s0 H C cl fp => ev_call k.blk (ok_is_place c (plc y) (plc_mem (h.lt y hy))) (ea_cons (ev_var 2) ea_nil)) (by omega))))) fun _ => tsw_or1
      (tst_neI k (ev_lenSet (xs := nearS near) k (n_len c) (n_set c) (by rw [← nearD_eq]; exact ev_var 1) (nearS_nd h.lt h.nd) (by unfold nearS; rw [List.length_map]; omega)) (ev_lenT k (n_len c) (ea_cons (ev_var 1) ea_nil))))) (by
        rw [show (near.all fun _ => true) = true by simp]; unfold nearS nearD; rw [List.length_map, List.length_map]; simp)) ?_
  refine srs_ifR (tst_eqS k (ev_var 0) ev_str) (fun z => ?_) fun z => ?_
  · have hs := h.hv (of_decide_eq_true z)
    refine srs_ret (ev_eq (ev_allL near (fun p => decide (plc p ∈ (["n", "e", "s", "w"] : List Str))) k (n_all c) (ev_lcm [("place", 2)] near (fun p => dat K (.str (plc p))) (fun p => .bool (decide (plc p ∈ (["n", "e", "s", "w"] : List Str)))) k (hit k (ev_var 1)) (fun y _ s0 H C cl fp => tg_name 2 k.blk) (fun y hy s0 H C cl fp => ev_cmp (op_inQ k.blk) rd_inT (ev_var 2) (ev_straight c k.blk)) (by omega))) ?_)
    rw [List.all_eq_true.mpr fun p hp => decide_eq_true (hs p hp)]
  · have hs := h.ar (of_decide_eq_false z)
    refine srs_ret (ev_eq (ev_or (ev_eqS k (ev_var 0) ev_str) fun _ => ev_one (ev_eqD k (near_sh h.lt) (by decide +kernel) (ev_var 1) (ev_tup ead_nil))) ?_)
    rw [tupEmpty]
    rcases hs with e | e
    · subst e; rfl
    · subst e; simp [nearD]
end
end Cs

set_option Elab.async false
set_option linter.all false
set_option autoImplicit false
set_option maxRecDepth 100000
set_option maxHeartbeats 4000000
/-! The making of a rule. -/
namespace Cs
open PySem PySem.Spec PyProof.Rows L2
section
variable {P : Program} {w : World} {K : PySem.W.Frag} {mg : Str → Option Value} {base : Heap} {k : Nat} {X : Cx} {W : Option Addr} {Γ : En} {pos p tpos : Pos} {a : Expr} {ds : List PyData} {elts : List Expr} {kk : Nat}
theorem it_enumL (c : Cok P w K mg base k X) (hm : mg "enumerate" = none) (ha : Ea X K W Γ [a] [Dt K (.list ds)]) (hg : Gl X "enumerate" := by rfl) (hs : starEach [a] X.env = [(false, eval a X.env)] := by rfl) :
    PI X (.Tuple elts kk tpos) (.Call (.Name "enumerate" p) [a] [] pos) (cI K W Γ ((List.range ds.length).map fun i => dat K (.tuple [.int (i : Nat), ds.getD i .none]))) :=
  piI (pi_enum hg (by rw [c.hmg]; exact hm) ha hs) fun σ H R ⟨H0, G, f, en, q⟩ => ⟨H0, G, f, en, fun vs H1 G1 s1 q1 => by
    obtain ⟨v, rfl, q2⟩ := args1 q1
    obtain ⟨a, xs, rfl, hl0, hx⟩ := dt_list q2
    have hl := hx.length
    refine ⟨a, xs, rfl, by rw [c.hK]; exact s1.frm.seqL hl0, ?_⟩
    rw [c.hK]
    refine q _ H1 G1 s1 ⟨fun i H' G' lt f' s' => ?_, fun H' G' f' s' => ⟨xs, f'.seqL (s'.seq hl0), ?_⟩, fun i H' G' v2 H2 lt f' s' y => ?_⟩
    · have lt' : i < xs.length := by rw [List.length_map, List.length_range] at lt; rw [hl]; exact lt
      exact ⟨xs, xs[i], f'.seqL (s'.seq hl0), List.getElem?_eq_getElem lt'⟩
    · rw [List.length_map, List.length_range]; exact Nat.le_of_eq hl
    · obtain ⟨T, x, rfl, hT, rfl, hx'⟩ := y
      have lt' : i < ds.length := by rw [List.length_map, List.length_range] at lt; exact lt
      have hxi := hx' xs (f'.seqL (s'.seq hl0))
      obtain ⟨u, hu, du⟩ := hx.get (List.getElem?_eq_getElem lt')
      rw [hxi] at hu
      cases hu
      obtain ⟨s3, q3⟩ := new_tup (ds := [.int (i : Nat), ds[i]]) f' (.cons (.int _) (.cons ((Lk.same s').dat du) .nil)) hT
      refine ⟨_, s3, dat K (.tuple [.int (i : Nat), ds[i]]), ?_, q3⟩
      rw [List.getElem?_map, List.getElem?_range lt']
      simp [lt']⟩
end
theorem enum_eq {K : PySem.W.Frag} {α : Type} (xs : List α) (enc : α → PyData) : ((List.range (xs.map enc).length).map fun i => dat K (.tuple [.int (i : Nat), (xs.map enc).getD i .none])) = xs.zipIdx.map fun z => dat K (.tuple [.int (z.2 : Nat), enc z.1]) := by
  refine List.ext_getElem? fun i => ?_
  rw [List.getElem?_map, List.getElem?_map, List.getElem?_zipIdx]
  by_cases h : i < xs.length
  · rw [List.getElem?_range (by rw [List.length_map]; exact h), List.getElem?_eq_getElem h]
    simp [h]
  · rw [List.getElem?_eq_none (by simpa using h), List.getElem?_eq_none (by simpa using h)]
    rfl
/-- the rows, of the kind the sort asks -/
def RowsOk (so : Str) (near sg : List Nat) : Rws → Prop
  | .cell l => so ≠ "blocks" ∧ ∀ r ∈ l, CRowOk near sg r
  | .block l => so = "blocks" ∧ ∀ r ∈ l, BRowOk sg r
structure RlOk (so : Str) (m : Nat) (near : List Nat) (rows : Rws) : Prop where
  sort : so ∈ (["around", "halves", "blocks"] : List Str)
  lo : 2 ≤ m
  hi : m ≤ 27
  nr : NearOk so near
  few : rows.D.length ≤ 80
  rows : RowsOk so near (sigs m) rows
section
variable {P : Program} {w : World} {K : PySem.W.Frag} {mg : Str → Option Value} {base : Heap}
/-- is_row, the rule's own listing not looked at -/
theorem ok_R_is_row (c : Ctx w K mg) (so : Str) (m : Nat) (near : List Nat) (rows : List PyData) (rw : Rws) (h : RowsOk so near (sigs m) rw) (d : PyData) (hd : d ∈ rw.D) : MtOk P w K mg base (He.ga K "Rule") "is_row" 5 false [ruT K so m near rows, Dt K d] (Dt K (.bool true)) := by
  obtain ⟨fd, F0⟩ := (dm_Rule_is_row c)
  refine mk_mt ["self", "thing"] (ps := ["self", "thing"]) (N := noA) F0 (C_Rule c) (mt_Rule_is_row c) ⟨rfl, rfl, rfl, by decide +kernel, rfl, by decide +kernel, by decide +kernel⟩ (fun _ _ _ _ _ _ us hl => match us, hl with | [_, _], _ => rfl) rfl (by simp [noOwns, notOwn]) (fun W X hW k hX => ?_) (fun _ _ _ _ _ z => z.elim)
  obtain ⟨cdv, A, outer, s, H, E, rfl⟩ := hX
  cases rw with
  | cell l =>
    obtain ⟨r, hr, rfl⟩ := List.mem_map.mp hd
    refine srs_no (tst_eq (tst_eqS k (ev_fld k (C_Rule c) (na_Rule_sort_told c) (ev_var 0)) ev_str) (decide_eq_false h.1)) ?_
    exact srs_ret (ev_call k (ok_is_cell_row c near (sigs m) r (h.2 r hr)) (ea_cons (ev_var 1) (ea_cons (ev_xd (ev_fld k (C_Rule c) (na_Rule_looked_at c) (ev_var 0))) (ea_cons (ev_meth0 k (ok_R_signs c so m near rows) (ev_var 0) (hl := rfl)) ea_nil))))
  | block l =>
    obtain ⟨r, hr, rfl⟩ := List.mem_map.mp hd
    refine srs_ifR (cv := true) (tst_eq (tst_eqS k (ev_fld k (C_Rule c) (na_Rule_sort_told c) (ev_var 0)) ev_str) (decide_eq_true h.1)) (fun _ => ?_) fun z => nomatch z
    exact srs_ret (ev_call k (ok_is_block_row c (sigs m) r (h.2 r hr)) (ea_cons (ev_var 1) (ea_cons (ev_meth0 k (ok_R_signs c so m near rows) (ev_var 0) (hl := rfl)) ea_nil)))
theorem ok_Rule (c : Ctx w K mg) (so : Str) (m : Nat) (near : List Nat) (rw : Rws) (h : RlOk so m near rw) :
    MkOk P w K mg base "Rule" (He.ga K "Rule") 6 [Dt K (.str so), Dt K (.int m), .fro (xtT K (nearD near)), Dt K (.list rw.D)] (ruleF K so m near rw.D) := by
  obtain ⟨fd, F0⟩ := dm_Rule_init c
  refine mk_init ["self", "sort", "many", "near", "rows", "at", "row"] (ps := ["self", "sort", "many", "near", "rows"]) (Γ' := fun s => [some (.fro (objX s (He.ga K "Rule") (ruleF K so m near rw.D))), none, none, none, none, none, none]) (mk_Rule c) (g_Rule c) F0 ⟨rfl, rfl, rfl, by decide +kernel, rfl, by decide +kernel, by decide +kernel⟩ (fun _ _ _ _ _ _ us hl => match us, hl with | [_, _, _, _, _], _ => rfl) rfl (by simp [noOwns, notOwn]) (fun _ => rfl) (fun s X k hX => ?_)
  obtain ⟨cdv, A, outer, sh, H, E, rfl⟩ := hX
  have e27 : (decide ((2 : Int) ≤ (m : Int)) && decide ((m : Int) ≤ (allSigs.length : Nat))) = true := by
    have := h.lo
    have := h.hi
    rw [decide_eq_true (by omega), decide_eq_true (by show (m : Int) ≤ 27; omega)]
    rfl
  refine srs_no (tst_eq (tst_w (tsw_or (tst_not (tst_val (ev_is "str" true c k (n_str c) (ev_var 1)))) fun _ => tsw_or1 (tst_cmp1 (op_niQ k) rd_niT (ev_var 1) (ev_sorts c k)))) (by rw [decide_eq_true h.sort]; rfl)) ?_
  refine srs_no (tst_eq (tst_not (tst_val (ev_call k (ok_is_from_to c m 2 allSigs.length) (ea_cons (ev_var 2) (ea_cons ev_int (ea_cons (ev_lenS k (n_len c) (ea_cons (ev_gtxt allSigs k (s_SIGNS c)) ea_nil) (Nat.le_of_ble_eq_true rfl)) ea_nil)))))) (by rw [e27]; rfl)) ?_
  refine srs_no (tst_not (tst_val (ev_call k (ok_is_near c so near h.nr) (ea_cons (ev_var 1) (ea_cons (ev_xd (ev_var 3)) ea_nil))))) ?_
  refine srs_no (tst_eq (tst_w (tsw_or (tst_not (tst_val (ev_is "list" true c k (n_list c) (ev_var 4)))) fun _ => tsw_or1 (tst_cmp1 op_gt rd_gt (ev_lenL k (n_len c) (ea_cons (ev_var 4) ea_nil)) (ev_gint k (i_MOST_ROWS c))))) (by rw [decide_eq_false (by have := h.few; omega)]; rfl)) ?_
  refine srs_cons (sr_fld 0 (fl := (ruleF K so m near rw.D).drop 4) (hl := Nat.le_of_ble_eq_true rfl) k (C_Rule c) (na_Rule_sort_told c) (ev_var 1)) ?_
  refine srs_cons (sr_fld 0 (fl := (ruleF K so m near rw.D).drop 3) (hl := Nat.le_of_ble_eq_true rfl) k (C_Rule c) (na_Rule_count c) (ev_var 2)) ?_
  refine srs_cons (sr_fld 0 (fl := (ruleF K so m near rw.D).drop 2) (hl := Nat.le_of_ble_eq_true rfl) k (C_Rule c) (na_Rule_looked_at c) (ev_var 3)) ?_
  refine srs_cons (sr_fld 0 (fl := (ruleF K so m near rw.D).drop 1) (hl := Nat.le_of_ble_eq_true rfl) k (C_Rule c) (na_Rule_listed c) (ev_listL k (n_list c) (ea_cons (ev_var 4) ea_nil))) ?_
  refine srs_obj 0 ?_
  let Γ0 : En := [some (.fro (objX s (He.ga K "Rule") (ruleF K so m near rw.D))), some (Dt K (.str so)), some (Dt K (.int m)), some (.fro (xtT K (nearD near))), some (Dt K (.list rw.D)), none, none]
  let Γ1 : En := [some (.fro (objX s (He.ga K "Rule") (ruleF K so m near rw.D))), none, none, none, none, none, none]
  have en : ((List.range rw.D.length).map fun i => dat K (.tuple [.int (i : Nat), rw.D.getD i .none])) = rw.D.zipIdx.map fun z => dat K (.tuple [.int (z.2 : Nat), z.1]) := by
    have := enum_eq (K := K) rw.D (fun d => d)
    rwa [List.map_id'] at this
  refine srs_cons (sr_for rw.D.zipIdx (fun z => dat K (.tuple [.int (z.2 : Nat), z.1])) (fun _ => Γ1) (fun _ z => (Γ1.set 5 (some (Dt K (.int (z.2 : Nat))))).set 6 (some (Dt K z.1))) k (by rw [← en]; exact it_enumL k (n_enumerate c) (ea_cons (ev_var 4) ea_nil)) ?_ (fun pre y post _ => tg_dat _ k (tgs_cons (tg_name 5 k) (tgs_cons (tg_name 6 k) tgs_nil))) (fun pre y post e => ?_) (fun _ _ _ _ q => q)) srs_end
  · exact ⟨.inr rfl, .inl rfl, .inl rfl, .inl rfl, .inl rfl, .inr rfl, .inr rfl, trivial⟩
  · have hy : y.1 ∈ rw.D := by
      have : y ∈ rw.D.zipIdx := by rw [e]; simp
      exact List.fst_mem_of_mem_zipIdx this
    refine srs_no (tst_not (tst_val (ev_meth k (ok_R_is_row c so m near rw.D rw h.rows y.1 hy) (ev_self (ev_var 0)) (ea_cons (ev_var 6) ea_nil) (hl := rfl)))) (srs_nil fun _ _ _ _ q => q.sub ?_)
    exact ⟨.inr rfl, .inr rfl, .inr rfl, .inr rfl, .inr rfl, .inl rfl, .inl rfl, trivial⟩
end
end Cs

set_option Elab.async false
set_option linter.all false
set_option autoImplicit false
set_option maxRecDepth 100000
set_option maxHeartbeats 4000000
/-! Loops that carry a plain fact; the first item that passes. -/
namespace Cs
open PySem PySem.Spec PyProof.Rows L2
def facA (p : Prop) (A : As) : As := fun H0 G H σ => p ∧ A H0 G H σ
section
variable {P : Program} {w : World} {K : PySem.W.Frag} {mg : Str → Option Value} {base : Heap} {k : Nat} {X : Cx} {W : Option Addr} {Γ : En} {tg iter : Expr} {body rest : List Stmt} {pos : Pos} {α : Type} {js : List Nat} {N B C A M : As} {R : Ent}
theorem srs_fac {p : Prop} (h : p → Srs X K W rest A N B C R) : Srs X K W rest (facA p A) N B C R := by
  by_cases z : p
  · exact srs_pre (h z) fun _ _ _ _ q => q.2
  · exact pssI pss_never fun D σ H ⟨_, _, _, _, q, _⟩ => z q.1
theorem srs_loose {B' C' : As} (h : Srs X K W rest A N B C R) (b : ∀ H0 G H σ, B H0 G H σ → B' H0 G H σ) (c : ∀ H0 G H σ, C H0 G H σ → C' H0 G H σ) : Srs X K W rest A N B' C' R :=
  pssI h fun D σ H ⟨H0, G0, G, s, a, n, r, bk, ct⟩ => ⟨H0, G0, G, s, a, n, r, fun σ' H' G' s' q => bk σ' H' G' s' (b _ _ _ _ q), fun σ' H' G' s' q => ct σ' H' G' s' (c _ _ _ _ q)⟩
theorem sr_forP (xs : List α) (enc : α → T) (Ip : List α → Prop) (J : List α → En) (Jt : List α → α → En) (c : Cok P w K mg base k X) (hi : PI X tg iter (cI K W Γ (xs.map enc))) (h0 : Sub Γ (J [])) (hI : Ip [])
    (hg : ∀ pre y post, xs = pre ++ y :: post → PG X tg (cG K W (J pre) (enc y) (Jt pre y) js)) (hb : ∀ pre y post, xs = pre ++ y :: post → Ip pre → Srs X K W body (envA W (Jt pre y)) (facA (Ip (pre ++ [y])) (envA W (J (pre ++ [y])))) N (facA (Ip (pre ++ [y])) (envA W (J (pre ++ [y])))) R)
    (hd : ∀ H0 G H σ, Ip xs → EnvOk W H0 G H σ (J xs) → N H0 G H σ) (hp : PassesOwn (model X.prog X.w) X.A X.env X.xe := by exact PassesOwn.never) (hs : ∀ x, foldedSetIterable iter X.env x = pure x := by intro _; rfl) : Sr X K W (.For tg iter body [] pos) (envA W Γ) N B C R := by
  refine psI (ps_for hp c.hc hi (pg_ex (ι := List α × α) (fun i => ∃ post, xs = i.1 ++ i.2 :: post) fun i ⟨post, e⟩ => hg i.1 i.2 post e) (pss_ex (ι := List α × α) (fun i => (∃ post, xs = i.1 ++ i.2 :: post) ∧ Ip i.1) fun i ⟨⟨post, e⟩, z⟩ => hb i.1 i.2 post e z) hs) ?_
  intro D σ H ⟨H0, G0, G, s0, en, n, rt, bk, ct⟩
  refine ⟨H0, G, s0.frm, en, fun It H1 G1 s1 gv => ?_⟩
  let Pv : Nat → L2.St → Hp → Prop := fun i σ' H' => ∃ G', Step K W G0 H0 G' H' ∧ Same G1 G' ∧ EnvOk W H0 G' H' σ' (J (xs.take i)) ∧ Ip (xs.take i)
  have ws : Walk It xs.length (fun H' => ∃ G', Frm K W G' H' ∧ Same G1 G') (fun i H' v H2 => ∀ G', Frm K W G' H' → Same G1 G' → ∃ G2, Step K W G' H' G2 H2 ∧ ∃ y, xs[i]? = some y ∧ up (enc y) G2 v) :=
    ⟨fun i H' lt ⟨G', f, s⟩ => gv.goes i H' G' (by rw [List.length_map]; exact lt) f s, fun H' ⟨G', f, s⟩ => by have := gv.stops H' G' f s; rw [List.length_map] at this; exact this, fun i H' v H2 lt _ y G' f s => by
      obtain ⟨G2, s2, d, e, q⟩ := gv.yields i H' G' v H2 (by rw [List.length_map]; exact lt) f s y
      rw [List.getElem?_map] at e
      cases z : xs[i]? with
      | none => rw [z] at e; cases e
      | some y0 => rw [z] at e; cases e; exact ⟨G2, s2, y0, rfl, q⟩⟩
  refine for_it (D := D) (g := fun v σ H Q => ∃ i : List α × α, (∃ post, xs = i.1 ++ i.2 :: post) ∧ cG K W (J i.1) (enc i.2) (Jt i.1 i.2) js v σ H Q)
    (tb := fun D σ H => ∃ i : List α × α, ((∃ post, xs = i.1 ++ i.2 :: post) ∧ Ip i.1) ∧ cS K W (envA W (Jt i.1 i.2)) (facA (Ip (i.1 ++ [i.2])) (envA W (J (i.1 ++ [i.2])))) N (facA (Ip (i.1 ++ [i.2])) (envA W (J (i.1 ++ [i.2])))) R D σ H) ws Pv ⟨G1, s0.trans s1, Same.refl _, (en.step s1).sub h0, hI⟩ (fun i σ' H' _ ⟨G', s, l, _⟩ => ⟨G', s.frm, l⟩) (fun i v σ' H' H2 lt ⟨G', s, l, en', ip⟩ y => ?_) (fun σ' H' ⟨G', s, l, en', ip⟩ => ?_)
  · obtain ⟨G2, s2, y0, ey, q⟩ := y G' s.frm l
    obtain ⟨e1, e2⟩ := split_at ey
    have st := s.trans s2
    refine ⟨(xs.take i, y0), ⟨_, e1⟩, H0, G2, s2.frm, en'.step s2, q, fun σ2 en2 _ => ⟨(xs.take i, y0), ⟨⟨_, e1⟩, ip⟩, H0, G2, G2, st.re, en2, fun σ3 H3 G3 s3 en3 => ?_, fun u H3 G3 s3 q3 => rt u H3 G3 (st.cat s3) q3, fun σ3 H3 G3 s3 q3 => n σ3 H3 G3 (st.cat s3) q3, fun σ3 H3 G3 s3 en3 => ?_⟩⟩
    · exact ⟨G3, st.cat s3, (l.trans s2.gro).trans s3.gro, by rw [e2]; exact en3.2, by rw [e2]; exact en3.1⟩
    · exact ⟨G3, st.cat s3, (l.trans s2.gro).trans s3.gro, by rw [e2]; exact en3.2, by rw [e2]; exact en3.1⟩
  · rw [List.take_length] at en' ip
    exact n σ' H' G' s (hd _ _ _ _ ip en')
/-- for y in xs: if p y: return ..; the rest where none passes -/
theorem srs_find (xs : List α) (enc : α → T) (p : α → Bool) (Γ1 : En) (Jt : α → En) (c : Cok P w K mg base k X) (hi : PI X tg iter (cI K W Γ (xs.map enc))) (h0 : Sub Γ Γ1)
    (hg : ∀ y ∈ xs, PG X tg (cG K W Γ1 (enc y) (Jt y) js)) (h1 : ∀ y ∈ xs, xs.find? p = some y → p y = true → Srs X K W body (envA W (Jt y)) noA noA noA R) (h2 : ∀ y ∈ xs, p y = false → Srs X K W body (envA W (Jt y)) (envA W Γ1) noA noA R)
    (h3 : xs.find? p = none → Srs X K W rest (envA W Γ1) N B C R) (hp : PassesOwn (model X.prog X.w) X.A X.env X.xe := by exact PassesOwn.never) (hs : ∀ x, foldedSetIterable iter X.env x = pure x := by intro _; rfl) : Srs X K W (.For tg iter body [] pos :: rest) (envA W Γ) N B C R := by
  refine srs_cons (sr_forP xs enc (fun pre => pre.find? p = none) (fun _ => Γ1) (fun _ y => Jt y) c hi h0 rfl (fun pre y post e => hg y (by rw [e]; simp)) (fun pre y post e ip => ?_) (fun _ _ _ _ ip q => (⟨ip, q⟩ : facA (xs.find? p = none) (envA W Γ1) _ _ _ _)) hp hs) (srs_fac h3)
  have my : y ∈ xs := by rw [e]; simp
  cases hy : p y with
  | true =>
    have hf : xs.find? p = some y := by rw [e, List.find?_append, ip, List.find?_cons, hy]; rfl
    exact srs_loose (srs_post (h1 y my hf hy) fun _ _ _ _ z => z.elim) (fun _ _ _ _ z => z.elim) fun _ _ _ _ z => z.elim
  | false =>
    have hf : (pre ++ [y]).find? p = none := by rw [List.find?_append, ip, List.find?_cons, hy]; rfl
    exact srs_loose (srs_post (h2 y my hy) fun _ _ _ _ z => ⟨hf, z⟩) (fun _ _ _ _ z => z.elim) fun _ _ _ _ z => z.elim
end
end Cs

set_option Elab.async false
set_option linter.all false
set_option autoImplicit false
set_option maxRecDepth 100000
set_option maxHeartbeats 4000000
/-! What a rule answers. -/
namespace Cs
open PySem PySem.Spec PyProof.Rows L2
def holds (near ar : List Nat) : Tst0 → Bool
  | .at_ p l => decide (ar.getD (near.idxOf p) 0 ∈ l)
  | .cnt lo hi l => decide (lo ≤ (ar.filter fun n => decide (n ∈ l)).length) && decide ((ar.filter fun n => decide (n ∈ l)).length ≤ hi)
def rowFits (near : List Nat) (own : Nat) (ar : List Nat) (r : CRow) : Bool := decide (own ∈ r.own) && r.tests.all (holds near ar)
def fateC (near : List Nat) (rows : List CRow) (own : Nat) (ar : List Nat) : Nat := match rows.find? (rowFits near own ar) with
  | some r => r.sign
  | none => own
def fitB (four : List Nat) (r : BRow) : Bool := (four.zip r.fours).all fun z => decide (z.1 ∈ z.2)
def fateB (rows : List BRow) (four : List Nat) : List Nat := match rows.find? (fitB four) with
  | some r => r.four
  | none => four
theorem idx_lt {p : Nat} {near : List Nat} (h : p ∈ near) : near.idxOf p < near.length := List.idxOf_lt_length_of_mem h
theorem idx_get {p : Nat} {near : List Nat} (h : p ∈ near) : near[near.idxOf p]? = some p := by
  rw [List.getElem?_eq_getElem (idx_lt h)]
  exact congrArg some (List.getElem_idxOf (idx_lt h))
theorem idx_first {p : Nat} : ∀ {near : List Nat} {m : Nat}, m < near.idxOf p → near[m]? ≠ some p
  | [], m, h => by simp at h
  | q :: near, m, h => by
    rw [List.idxOf_cons] at h
    by_cases e : q = p
    · subst e; simp at h
    · have eb : (q == p) = false := beq_eq_false_iff_ne.mpr e
      rw [eb, cond_false] at h
      cases m with
      | zero => simpa using e
      | succ m => simpa using idx_first (near := near) (m := m) (by omega)
theorem near_idx {p : Nat} {near : List Nat} (hl : ∀ q ∈ near, q < 8) (h : p ∈ near) : (nearS near)[near.idxOf p]? = some (plc p) := by
  unfold nearS
  rw [List.getElem?_map, idx_get h]; rfl
theorem near_no {p : Nat} {near : List Nat} (hl : ∀ q ∈ near, q < 8) (h : p ∈ near) (m : Nat) (hm : m < near.idxOf p) : (nearS near)[m]? ≠ some (plc p) := fun e => by
  unfold nearS at e
  rw [List.getElem?_map] at e
  have n := idx_first hm
  cases z : near[m]? with
  | none => rw [z] at e; cases e
  | some q =>
    rw [z] at e
    have e1 : plc q = plc p := by simpa using e
    exact n (by rw [z, plc_inj (hl q (List.mem_of_getElem? z)) (hl p h) e1])
section
variable {P : Program} {w : World} {K : PySem.W.Frag} {mg : Str → Option Value} {base : Heap}
theorem ok_R_holds (c : Ctx w K mg) (so : Str) (m : Nat) (near sg : List Nat) (rows : List PyData) (hl : ∀ q ∈ near, q < 8) (h8 : near.length ≤ 8) (ar : List Nat) (har : ar.length = near.length) (t : Tst0) (ht : tstOk near sg t) :
    MtOk P w K mg base (He.ga K "Rule") "test_holds" 1 false [ruT K so m near rows, Dt K (tstD t), Dt K (.str (txt ar))] (Dt K (.bool (holds near ar t))) := by
  obtain ⟨fd, F0⟩ := (dm_Rule_test_holds c)
  refine mk_mt ["self", "test", "around", "word", "low", "high", "counted", "sign"] (ps := ["self", "test", "around"]) (N := noA) F0 (C_Rule c) (mt_Rule_test_holds c) ⟨rfl, rfl, rfl, by decide +kernel, rfl, by decide +kernel, by decide +kernel⟩ (fun _ _ _ _ _ _ us hl => match us, hl with | [_, _, _], _ => rfl) rfl (by simp [noOwns, notOwn]) (fun W X hW k hX => ?_) (fun _ _ _ _ _ z => z.elim)
  obtain ⟨cdv, A, outer, s, H, E, rfl⟩ := hX
  cases t with
  | at_ p l =>
    refine srs_ifR (cv := true) (tst_eq (tst_eqS k (ev_ixT k (ev_var 1) ev_int rfl) ev_str) rfl) (fun _ => ?_) fun z => nomatch z
    have hp := ht.2.1
    have hlt : near.idxOf p < ar.length := by rw [har]; exact idx_lt hp
    refine srs_ret (ev_eq (ev_cmp op_inS rd_inS (ev_ixS (l := ar) (n := ar.getD (near.idxOf p) 0) (ev_var 2) (ev_tIndex k (by rw [← nearD_eq]; exact ev_fld k (C_Rule c) (na_Rule_looked_at c) (ev_var 0)) (ev_ixT k (ev_var 1) ev_int rfl) (near_idx hl hp) (near_no hl hp)) ?_ (by omega)) (ev_ixT k (ev_var 1) ev_int rfl)) rfl)
    refine atI_nat ?_
    rw [List.getElem?_eq_getElem hlt]
    simp [hlt]
  | cnt lo hi l =>
    refine srs_no (tst_eq (tst_eqS k (ev_ixT k (ev_var 1) ev_int rfl) ev_str) rfl) ?_
    refine srs_cons (sr_unp (ev_var 1) (tg_dat [.str "count", .int (lo : Nat), .int (hi : Nat), .str (txt l)] k (tgs_cons (tg_name 3 k) (tgs_cons (tg_name 4 k) (tgs_cons (tg_name 5 k) (tgs_cons (tg_name 6 k) tgs_nil)))))) ?_
    have hf : (ar.filter fun n => decide (n ∈ l)).length ≤ ar.length := List.length_filter_le _ _
    refine srs_ret (ev_eq (ev_chain op_le op_le rd_le rd_le (ev_var 4) (ev_lenL k (n_len c) (ea_cons (ev_lcs [("sign", 7)] ar (fun n => dat K (sgn n)) (fun n => decide (n ∈ l)) (fun n => sgn n) k (it_str (ev_var 2)) (fun y _ s0 H C cl fp => tg_name 7 k.blk) (fun y _ s0 H C cl fp => tsts_one (tst_cmp1 op_inS rd_inS (ev_var 7) (ev_var 6))) (fun y _ _ s0 H C cl fp => ev_var 7) (by omega)) ea_nil)) (ev_var 5)) ?_)
    rw [List.length_map]
    unfold holds
    congr 1
    congr 1
    · exact decide_eq_decide.mpr Int.ofNat_le
    · exact decide_eq_decide.mpr Int.ofNat_le
theorem ok_R_fate (c : Ctx w K mg) (so : Str) (m : Nat) (near sg : List Nat) (l : List CRow) (hr : ∀ r ∈ l, CRowOk near sg r) (hl : ∀ q ∈ near, q < 8) (h8 : near.length ≤ 8) (hll : l.length ≤ 1000) (ar : List Nat) (har : ar.length = near.length) (own : Nat) :
    MtOk P w K mg base (He.ga K "Rule") "fate" 2 false [ruT K so m near (l.map crowD), Dt K (sgn own), Dt K (.str (txt ar))] (Dt K (sgn (fateC near l own ar))) := by
  obtain ⟨fd, F0⟩ := (dm_Rule_fate c)
  refine mk_mt ["self", "own", "around", "mine", "tests", "sign", "test"] (ps := ["self", "own", "around"]) (N := noA) F0 (C_Rule c) (mt_Rule_fate c) ⟨rfl, rfl, rfl, by decide +kernel, rfl, by decide +kernel, by decide +kernel⟩ (fun _ _ _ _ _ _ us hl => match us, hl with | [_, _, _], _ => rfl) rfl (by simp [noOwns, notOwn]) (fun W X hW k hX => ?_) (fun _ _ _ _ _ z => z.elim)
  obtain ⟨cdv, A, outer, s, H, E, rfl⟩ := hX
  let Γ1 : En := [some (ruT K so m near (l.map crowD)), some (Dt K (sgn own)), some (Dt K (.str (txt ar))), none, none, none, none]
  have cond : ∀ y ∈ l, Tst (cxOf CX0 P w K mg base ["self", "own", "around", "mine", "tests", "sign", "test"] "Rule.fate" (defScope (mth 46 8)) (He.ma K (He.ga K "Rule") "fate") cdv A outer s H E).nox K W (((Γ1.set 3 (some (Dt K (.str (txt y.own))))).set 4 (some (Dt K (.tuple (y.tests.map tstD))))).set 5 (some (Dt K (sgn y.sign))))
      (match defBody (mth 46 8) with | .For _ _ (.If t _ _ _ :: _) _ _ :: _ => t | _ => .Constant .none 0 ⟨0, 0, 0, 0⟩) (fun b => b = rowFits near own ar y) := fun y hy =>
    tst_w (tsw_and (tst_cmp1 op_inS rd_inS (ev_var 1) (ev_var 3)) fun _ => tsw_and1 (tst_val (ev_allL y.tests (holds near ar) k (n_all c) (ev_lcm [("test", 6)] y.tests (fun t => dat K (tstD t)) (fun t => .bool (holds near ar t)) k (it_tup y.tests tstD k (ev_var 4)) (fun t _ s0 H C cl fp => tg_name 6 k.blk)
      (fun t ht s0 H C cl fp => ev_meth k.blk (ok_R_holds c so m near sg (l.map crowD) hl h8 ar har t ((hr y hy).tests t ht)) (ev_var 0) (ea_cons (ev_var 6) (ea_cons (ev_var 2) ea_nil)) (hl := rfl)) (by have := (hr y hy).few; omega)))))
  refine srs_find l (fun r => dat K (crowD r)) (rowFits near own ar) Γ1 (fun y => ((Γ1.set 3 (some (Dt K (.str (txt y.own))))).set 4 (some (Dt K (.tuple (y.tests.map tstD))))).set 5 (some (Dt K (sgn y.sign)))) k (it_lst l crowD k (ev_fld k (C_Rule c) (na_Rule_listed c) (ev_var 0))) (Sub.refl _)
    (fun y _ => tg_dat [.str (txt y.own), .tuple (y.tests.map tstD), sgn y.sign] k (tgs_cons (tg_name 3 k) (tgs_cons (tg_name 4 k) (tgs_cons (tg_name 5 k) tgs_nil)))) (fun y hy hf hp => ?_) (fun y hy hp => ?_) (fun hf => ?_)
  · refine srs_ifR (tst_eq (cond y hy) hp) (fun _ => srs_ret (ev_eq (ev_var 5) ?_)) fun z => nomatch z
    unfold fateC
    rw [hf]
  · refine srs_no (tst_eq (cond y hy) hp) (srs_nil fun _ _ _ _ q => q.sub ?_)
    exact ⟨.inr rfl, .inr rfl, .inr rfl, .inl rfl, .inl rfl, .inl rfl, .inr rfl, trivial⟩
  · refine srs_ret (ev_eq (ev_var 1) ?_)
    unfold fateC
    rw [hf]
theorem ok_R_fateB (c : Ctx w K mg) (so : Str) (m : Nat) (near sg : List Nat) (l : List BRow) (hr : ∀ r ∈ l, BRowOk sg r) (hll : l.length ≤ 1000) (four : List Nat) (h4 : four.length = 4) :
    MtOk P w K mg base (He.ga K "Rule") "fate_of_block" 2 false [ruT K so m near (l.map browD), Dt K (.str (txt four))] (Dt K (.str (txt (fateB l four)))) := by
  obtain ⟨fd, F0⟩ := (dm_Rule_fate_of_block c)
  refine mk_mt ["self", "four", "fours", "behind", "sign", "some"] (ps := ["self", "four"]) (N := noA) F0 (C_Rule c) (mt_Rule_fate_of_block c) ⟨rfl, rfl, rfl, by decide +kernel, rfl, by decide +kernel, by decide +kernel⟩ (fun _ _ _ _ _ _ us hl => match us, hl with | [_, _], _ => rfl) rfl (by simp [noOwns, notOwn]) (fun W X hW k hX => ?_) (fun _ _ _ _ _ z => z.elim)
  obtain ⟨cdv, A, outer, s, H, E, rfl⟩ := hX
  let Γ1 : En := [some (ruT K so m near (l.map browD)), some (Dt K (.str (txt four))), none, none, none, none]
  have cond : ∀ y ∈ l, Tst (cxOf CX0 P w K mg base ["self", "four", "fours", "behind", "sign", "some"] "Rule.fate_of_block" (defScope (mth 46 9)) (He.ma K (He.ga K "Rule") "fate_of_block") cdv A outer s H E).nox K W ((Γ1.set 2 (some (Dt K (.tuple (y.fours.map fun f => .str (txt f)))))).set 3 (some (Dt K (.str (txt y.four)))))
      (match defBody (mth 46 9) with | .For _ _ (.If t _ _ _ :: _) _ _ :: _ => t | _ => .Constant .none 0 ⟨0, 0, 0, 0⟩) (fun b => b = fitB four y) := fun y hy => by
    have e : ((four.map sgn).zip (y.fours.map fun f => .str (txt f))).map (fun z => dat K (.tuple [z.1, z.2])) = (four.zip y.fours).map fun z => dat K (.tuple [sgn z.1, .str (txt z.2)]) := by
      rw [List.zip_map, List.map_map]; rfl
    refine tst_val (ev_allL (four.zip y.fours) (fun z => decide (z.1 ∈ z.2)) k (n_all c) (ev_lcm [("sign", 4), ("some", 5)] (four.zip y.fours) (fun z => dat K (.tuple [sgn z.1, .str (txt z.2)])) (fun z => .bool (decide (z.1 ∈ z.2))) k ?_ (fun t _ s0 H C cl fp => tg_dat _ k.blk (tgs_cons (tg_name 4 k.blk) (tgs_cons (tg_name 5 k.blk) tgs_nil)))
      (fun t ht s0 H C cl fp => ev_cmp op_inS rd_inS (ev_var 4) (ev_var 5)) (by rw [List.length_zip]; omega)))
    rw [← e]
    exact it_zip k (n_zip c) (ea_cons (ev_var 1) (ea_cons (ev_var 2) ea_nil)) (items_txt four) rfl
  refine srs_find l (fun r => dat K (browD r)) (fitB four) Γ1 (fun y => (Γ1.set 2 (some (Dt K (.tuple (y.fours.map fun f => .str (txt f)))))).set 3 (some (Dt K (.str (txt y.four))))) k (it_lst l browD k (ev_fld k (C_Rule c) (na_Rule_listed c) (ev_var 0))) (Sub.refl _)
    (fun y _ => tg_dat [.tuple (y.fours.map fun f => .str (txt f)), .str (txt y.four)] k (tgs_cons (tg_name 2 k) (tgs_cons (tg_name 3 k) tgs_nil))) (fun y hy hf hp => ?_) (fun y hy hp => ?_) (fun hf => ?_)
  · refine srs_ifR (tst_eq (cond y hy) hp) (fun _ => srs_ret (ev_eq (ev_var 3) ?_)) fun z => nomatch z
    unfold fateB
    rw [hf]
  · refine srs_no (tst_eq (cond y hy) hp) (srs_nil fun _ _ _ _ q => q.sub ?_)
    exact ⟨.inr rfl, .inr rfl, .inl rfl, .inl rfl, .inr rfl, .inr rfl, trivial⟩
  · refine srs_ret (ev_eq (ev_var 1) ?_)
    unfold fateB
    rw [hf]
end
end Cs

set_option Elab.async false
set_option linter.all false
set_option autoImplicit false
set_option maxRecDepth 100000
set_option maxHeartbeats 4000000
/-! keeps_ground; the field. -/
namespace Cs
open PySem PySem.Spec PyProof.Rows L2 PySem.W
structure Ru where
  so : Str
  m : Nat
  near : List Nat
  rows : Rws
abbrev Ru.ent (K : PySem.W.Frag) (r : Ru) : Ent := ruT K r.so r.m r.near r.rows.D
abbrev Ru.Ok (r : Ru) : Prop := RlOk r.so r.m r.near r.rows
def keepsG (r : Ru) : Bool := match r.rows with
  | .cell l => decide (fateC r.near l 46 (List.replicate r.near.length 46) = 46)
  | .block l => decide (fateB l [46, 46, 46, 46] = [46, 46, 46, 46])
theorem flat_one (n a : Nat) : (List.replicate n [a]).flatten = List.replicate n a := by
  induction n with
  | zero => rfl
  | succ n ih => rw [List.replicate_succ, List.flatten_cons, ih]; rfl
section
variable {P : Program} {w : World} {K : PySem.W.Frag} {mg : Str → Option Value} {base : Heap}
theorem ok_R_keeps (c : Ctx w K mg) (r : Ru) (h : r.Ok) : MtOk P w K mg base (He.ga K "Rule") "keeps_ground" 3 false [r.ent K] (Dt K (.bool (keepsG r))) := by
  obtain ⟨so, m, near, rows⟩ := r
  obtain ⟨fd, F0⟩ := (dm_Rule_keeps_ground c)
  refine mk_mt ["self"] (ps := ["self"]) (N := noA) F0 (C_Rule c) (mt_Rule_keeps_ground c) ⟨rfl, rfl, rfl, by decide +kernel, rfl, by decide +kernel, by decide +kernel⟩ (fun _ _ _ _ _ _ us hl => match us, hl with | [_], _ => rfl) rfl (by simp [noOwns, notOwn]) (fun W X hW k hX => ?_) (fun _ _ _ _ _ z => z.elim)
  obtain ⟨cdv, A, outer, s, H, E, rfl⟩ := hX
  have hn : near.length ≤ 8 := h.nr.few
  cases rows with
  | cell l =>
    refine srs_no (tst_eq (tst_eqS k (ev_fld k (C_Rule c) (na_Rule_sort_told c) (ev_var 0)) ev_str) (decide_eq_false h.rows.1)) ?_
    have e1 : (List.replicate near.length [46]).flatten = List.replicate near.length 46 := flat_one _ _
    refine srs_ret (ev_eq (ev_eqX (l := [_]) (m := [46]) k (ev_meth k (ok_R_fate c so m near (sigs m) l h.rows.2 h.nr.lt hn (by have := h.few; rw [Rws.D, List.length_map] at this; omega) (List.replicate near.length 46) (by simp) 46) (ev_var 0) (ea_cons (ev_gtxt [46] k (s_GROUND_kinds c)) (ea_cons (ev_eq (ev_mulS (l := [46]) (n := near.length) (ev_gtxt [46] k (s_GROUND_kinds c)) (ev_eq (ev_lenT k (n_len c) (ea_cons (ev_xd (ev_fld k (C_Rule c) (na_Rule_looked_at c) (ev_var 0))) ea_nil)) (by unfold nearD; rw [List.length_map])) (by simp; omega) (by omega)) (by rw [e1])) ea_nil)) (hl := rfl)) (ev_gtxt [46] k (s_GROUND_kinds c))) ?_)
    unfold keepsG
    simp
  | block l =>
    refine srs_ifR (cv := true) (tst_eq (tst_eqS k (ev_fld k (C_Rule c) (na_Rule_sort_told c) (ev_var 0)) ev_str) (decide_eq_true h.rows.1)) (fun _ => ?_) fun z => nomatch z
    have g4 : ∀ {pos1 pos2 pos3 : Pos} {kk : Nat}, Ev (cxOf CX0 P w K mg base ["self"] "Rule.keeps_ground" (defScope (mth 46 12)) (He.ma K (He.ga K "Rule") "keeps_ground") cdv A outer s H E).nox K W (initE 1 [ruT K so m near (l.map browD)]) (.BinOp (.Name "GROUND_kinds" pos1) .Mult (.Constant (.int 4) kk pos2) pos3) (Dt K (.str (txt [46, 46, 46, 46]))) := ev_mulS (l := [46]) (n := 4) (ev_gtxt [46] k (s_GROUND_kinds c)) ev_int (by decide) (by decide)
    exact srs_ret (ev_eqX k (ev_meth k (ok_R_fateB c so m near (sigs m) l h.rows.2 (by have := h.few; rw [Rws.D, List.length_map] at this; omega) [46, 46, 46, 46] rfl) (ev_var 0) (ea_cons g4 ea_nil) (hl := rfl)) g4)
/-! ### the field -/
theorem tg_key {k : Nat} {X : Cx} {W : Option Addr} {Γ Γ' : En} {pos : Pos} {es : List Expr} {k0 : Nat} {js : List Nat} {q : Spot} (c : Cok P w K mg base k X) (h : PGs X es (cGs K W Γ [dat K (.int q.1), dat K (.int q.2)] Γ' js)) (hn : (assignEach es X.env).length = 2 := by rfl) (hst : (assignEach es X.env).findIdx? (·.1) = none := by rfl) : PG X (.Tuple es k0 pos) (cG K W Γ (keyT q) Γ' js) :=
  pgI (tg_dat [.int q.1, .int q.2] c h rfl hn hst) fun v σ H Q ⟨H0, G, f, en, z, k⟩ => ⟨H0, G, f, en, key_dat z, k⟩
abbrev Cell3 : Type := Int × Int × Nat
def c3D (z : Cell3) : PyData := .tuple [.int z.1, .int z.2.1, sgn z.2.2]
def srt (l : List Cell3) : List Cell3 := l.mergeSort (dataLe false c3D)
def cl3 (c : Cells) : List Cell3 := c.map fun z => (z.1.1, z.1.2, z.2)
def fieldF (K : PySem.W.Frag) (cs : Cells) (t : Int) : Flds := [("rim", dat K .none), ("height", dat K .none), ("width", dat K .none), ("when", dat K (.int t)), ("laid", dctT (sgs cs)), ("form", dat K (.str "endless"))]
abbrev fiT (K : PySem.W.Frag) (cs : Cells) (t : Int) : Ent := .fro (obj (He.ga K "Field") (fieldF K cs t))
theorem ok_Field (c : Ctx w K mg) (cs : Cells) (t : Int) : MkOk P w K mg base "Field" (He.ga K "Field") 1 [Dt K (.str "endless"), .fro (dctT (sgs cs)), Dt K (.int t), Dt K .none, Dt K .none, Dt K .none] (fieldF K cs t) := by
  obtain ⟨fd, F0⟩ := dm_Field_init c
  refine mk_init ["self", "form", "laid", "now", "width", "height", "rim"] (ps := ["self", "form", "laid", "now", "width", "height", "rim"]) (Γ' := fun s => [some (.fro (objX s (He.ga K "Field") (fieldF K cs t))), some (Dt K (.str "endless")), some (.fro (dctT (sgs cs))), some (Dt K (.int t)), some (Dt K .none), some (Dt K .none), some (Dt K .none)]) (mk_Field c) (g_Field c) F0 ⟨rfl, rfl, rfl, by decide +kernel, rfl, by decide +kernel, by decide +kernel⟩ (fun _ _ _ _ _ _ us hl => match us, hl with | [_, _, _, _, _, _, _], _ => rfl) rfl (by simp [noOwns, notOwn]) (fun _ => rfl) (fun s X k hX => ?_)
  obtain ⟨cdv, A, outer, sh, H, E, rfl⟩ := hX
  refine srs_cons (sr_fld 0 (fl := (fieldF K cs t).drop 6) (hl := Nat.le_of_ble_eq_true rfl) k (C_Field c) (na_Field_form c) (ev_var 1)) ?_
  refine srs_cons (sr_fld 0 (fl := (fieldF K cs t).drop 5) (hl := Nat.le_of_ble_eq_true rfl) k (C_Field c) (na_Field_laid c) (ev_var 2)) ?_
  refine srs_cons (sr_fld 0 (fl := (fieldF K cs t).drop 4) (hl := Nat.le_of_ble_eq_true rfl) k (C_Field c) (na_Field_when c) (ev_var 3)) ?_
  refine srs_cons (sr_fld 0 (fl := (fieldF K cs t).drop 3) (hl := Nat.le_of_ble_eq_true rfl) k (C_Field c) (na_Field_width c) (ev_var 4)) ?_
  refine srs_cons (sr_fld 0 (fl := (fieldF K cs t).drop 2) (hl := Nat.le_of_ble_eq_true rfl) k (C_Field c) (na_Field_height c) (ev_var 5)) ?_
  refine srs_cons (sr_fld 0 (fl := (fieldF K cs t).drop 1) (hl := Nat.le_of_ble_eq_true rfl) k (C_Field c) (na_Field_rim c) (ev_var 6)) ?_
  exact srs_obj 0 srs_end
theorem ok_F_kind (c : Ctx w K mg) (cs : Cells) (t : Int) : MtOk P w K mg base (He.ga K "Field") "kind" 1 false [fiT K cs t] (Dt K (.str "endless")) := by
  obtain ⟨fd, F0⟩ := (dm_Field_kind c)
  refine mk_mt ["self"] (ps := ["self"]) (N := noA) F0 (C_Field c) (mt_Field_kind c) ⟨rfl, rfl, rfl, by decide +kernel, rfl, by decide +kernel, by decide +kernel⟩ (fun _ _ _ _ _ _ us hl => match us, hl with | [_], _ => rfl) rfl (by simp [noOwns, notOwn]) (fun W X hW k hX => ?_) (fun _ _ _ _ _ z => z.elim)
  obtain ⟨cdv, A, outer, s, H, E, rfl⟩ := hX
  exact srs_ret (ev_fld k (C_Field c) (na_Field_form c) (ev_var 0))
theorem ok_F_turn (c : Ctx w K mg) (cs : Cells) (t : Int) : MtOk P w K mg base (He.ga K "Field") "turn" 1 false [fiT K cs t] (Dt K (.int t)) := by
  obtain ⟨fd, F0⟩ := (dm_Field_turn c)
  refine mk_mt ["self"] (ps := ["self"]) (N := noA) F0 (C_Field c) (mt_Field_turn c) ⟨rfl, rfl, rfl, by decide +kernel, rfl, by decide +kernel, by decide +kernel⟩ (fun _ _ _ _ _ _ us hl => match us, hl with | [_], _ => rfl) rfl (by simp [noOwns, notOwn]) (fun W X hW k hX => ?_) (fun _ _ _ _ _ z => z.elim)
  obtain ⟨cdv, A, outer, s, H, E, rfl⟩ := hX
  exact srs_ret (ev_fld k (C_Field c) (na_Field_when c) (ev_var 0))
theorem ok_F_edge (c : Ctx w K mg) (cs : Cells) (t : Int) : MtOk P w K mg base (He.ga K "Field") "edge" 1 false [fiT K cs t] (Dt K .none) := by
  obtain ⟨fd, F0⟩ := (dm_Field_edge c)
  refine mk_mt ["self"] (ps := ["self"]) (N := noA) F0 (C_Field c) (mt_Field_edge c) ⟨rfl, rfl, rfl, by decide +kernel, rfl, by decide +kernel, by decide +kernel⟩ (fun _ _ _ _ _ _ us hl => match us, hl with | [_], _ => rfl) rfl (by simp [noOwns, notOwn]) (fun W X hW k hX => ?_) (fun _ _ _ _ _ z => z.elim)
  obtain ⟨cdv, A, outer, s, H, E, rfl⟩ := hX
  exact srs_ret (ev_fld k (C_Field c) (na_Field_rim c) (ev_var 0))
theorem ok_F_remade (c : Ctx w K mg) (cs cs2 : Cells) (t t2 : Int) : MtOk P w K mg base (He.ga K "Field") "remade" 3 false [fiT K cs t, .fro (dctT (sgs cs2)), Dt K (.int t2)] (fiT K cs2 t2) := by
  obtain ⟨fd, F0⟩ := (dm_Field_remade c)
  refine mk_mt ["self", "laid", "now"] (ps := ["self", "laid", "now"]) (N := noA) F0 (C_Field c) (mt_Field_remade c) ⟨rfl, rfl, rfl, by decide +kernel, rfl, by decide +kernel, by decide +kernel⟩ (fun _ _ _ _ _ _ us hl => match us, hl with | [_, _, _], _ => rfl) rfl (by simp [noOwns, notOwn]) (fun W X hW k hX => ?_) (fun _ _ _ _ _ z => z.elim)
  obtain ⟨cdv, A, outer, s, H, E, rfl⟩ := hX
  exact srs_ret (ev_make k (ok_Field c cs2 t2) (ea_cons (ev_fld k (C_Field c) (na_Field_form c) (ev_var 0)) (ea_cons (ev_var 1) (ea_cons (ev_var 2) (ea_cons (ev_fld k (C_Field c) (na_Field_width c) (ev_var 0)) (ea_cons (ev_fld k (C_Field c) (na_Field_height c) (ev_var 0)) (ea_cons (ev_fld k (C_Field c) (na_Field_rim c) (ev_var 0)) ea_nil)))))))
def at_ (cs : Cells) (x y : Int) : Nat := (lk cs (x, y)).getD 46
theorem ok_F_look (c : Ctx w K mg) (cs : Cells) (t x y : Int) : MtOk P w K mg base (He.ga K "Field") "look" 1 false [fiT K cs t, Dt K (.int x), Dt K (.int y)] (Dt K (sgn (at_ cs x y))) := by
  obtain ⟨fd, F0⟩ := (dm_Field_look c)
  refine mk_mt ["self", "x", "y"] (ps := ["self", "x", "y"]) (N := noA) F0 (C_Field c) (mt_Field_look c) ⟨rfl, rfl, rfl, by decide +kernel, rfl, by decide +kernel, by decide +kernel⟩ (fun _ _ _ _ _ _ us hl => match us, hl with | [_, _, _], _ => rfl) rfl (by simp [noOwns, notOwn]) (fun W X hW k hX => ?_) (fun _ _ _ _ _ z => z.elim)
  obtain ⟨cdv, A, outer, s, H, E, rfl⟩ := hX
  refine srs_no (tst_eq (tst_eqS k (ev_fld k (C_Field c) (na_Field_form c) (ev_var 0)) ev_str) rfl) ?_
  refine srs_no (tst_eq (tst_w (tsw_and (c2 := false) (tst_eqS k (ev_fld k (C_Field c) (na_Field_form c) (ev_var 0)) ev_str) fun z => absurd z (by decide))) rfl) ?_
  exact srs_ret (ev_dgetD (q := (x, y)) (n := 46) k (ev_fld k (C_Field c) (na_Field_laid c) (ev_var 0)) (ev_key (ead_cons (ev_var 1) (ead_cons (ev_var 2) ead_nil))) (ev_gtxt [46] k (s_GROUND_kinds c)))
theorem c3_alike (a b : Cell3) : alike (c3D a) (c3D b) = true := by simp [c3D, sgn, alike, alikeAll]
theorem ok_F_cells (c : Ctx w K mg) (cs : Cells) (t : Int) (hz : cs.length ≤ 16777000) : MtOk P w K mg base (He.ga K "Field") "cells" 1 false [fiT K cs t] (Dt K (.list ((srt (cl3 cs)).map c3D))) := by
  obtain ⟨fd, F0⟩ := (dm_Field_cells c)
  refine mk_mt ["self", "x", "y", "sign"] (ps := ["self"]) (N := noA) F0 (C_Field c) (mt_Field_cells c) ⟨rfl, rfl, rfl, by decide +kernel, rfl, by decide +kernel, by decide +kernel⟩ (fun _ _ _ _ _ _ us hl => match us, hl with | [_], _ => rfl) rfl (by simp [noOwns, notOwn]) (fun W X hW k hX => ?_) (fun _ _ _ _ _ z => z.elim)
  obtain ⟨cdv, A, outer, s, H, E, rfl⟩ := hX
  refine srs_ret (ev_sorted (cl3 cs) c3D k (n_sorted c) (ea_cons ?_ ea_nil) (fun d hd d' hd' => ?_) (.inl fun d hd => ?_) (fun b _ => ?_))
  · refine ev_eq (ev_lcm [("x", 1), ("y", 2), ("sign", 3)] cs (itemT K) (fun z => c3D (z.1.1, z.1.2, z.2)) k (it_items (ev_fld k (C_Field c) (na_Field_laid c) (ev_var 0))) (fun y _ s0 H C cl fp => tg_tup k.blk (tgs_cons (tg_key k.blk (tgs_cons (tg_name 1 k.blk) (tgs_cons (tg_name 2 k.blk) tgs_nil))) (tgs_cons (tg_name 3 k.blk) tgs_nil))) (fun y _ s0 H C cl fp => ev_tup (ead_cons (ev_var 1) (ead_cons (ev_var 2) (ead_cons (ev_var 3) ead_nil)))) hz) ?_
    unfold cl3
    rw [List.map_map]; rfl
  · obtain ⟨a, _, rfl⟩ := List.mem_map.mp hd
    obtain ⟨b, _, rfl⟩ := List.mem_map.mp hd'
    exact c3_alike a b
  · obtain ⟨a, _, rfl⟩ := List.mem_map.mp hd
    exact ⟨_, _, rfl⟩
  · show (PyData.depth (.tuple [.int b.1, .int b.2.1, sgn b.2.2])) ≤ 100
    simp [PyData.depth, PyData.depthAll, sgn]
end
end Cs

set_option Elab.async false
set_option linter.all false
set_option autoImplicit false
set_option maxRecDepth 100000
set_option maxHeartbeats 4000000
/-! A sign behind. -/
namespace Cs
open PySem PySem.Spec PyProof.Rows L2
def offP (p : Nat) : Int × Int := (offsL.getD p ("n", 0, -1)).2
def offD (p : Nat) : PyData := .tuple [.int (offP p).1, .int (offP p).2]
theorem offs_at : ∀ p, p < 8 → (plc p, offP p) ∈ offsL := by decide +kernel
section
variable {P : Program} {w : World} {K : PySem.W.Frag} {mg : Str → Option Value} {base : Heap}
/-- OFFS[place] -/
theorem ev_offs {k : Nat} {X : Cx} {W : Option Addr} {Γ : En} {b : Expr} {pos po : Pos} {p : Nat} (cc : Ctx w K mg) (c : Cok P w K mg base k X) (hp : p < 8) (hb : Ev X K W Γ b (Dt K (.str (plc p)))) (hs : NoSl b := by intro _ _; rfl) (hg : Gl X "OFFS" := by rfl) :
    Ev X K W Γ (.Subscript (.Name "OFFS" po) b pos) (Dt K (offD p)) := by
  obtain ⟨a, ea, ht⟩ := cc.offs (offs_at p hp)
  obtain ⟨es, n, D⟩ := cc.offsD
  have D' : KDict X.K X.w (He.ga K "OFFS") es n := by rw [c.hK, c.hw]; exact D
  have hO : Ev X K W Γ (.Name "OFFS" po) (.fro fun _ v => v = .ref (He.ga K "OFFS")) := ev_gref c (g_OFFS cc) (fun _ => rfl) hg
  refine ⟨fun pins s σ H Q I h => ?_⟩
  obtain ⟨H0, G, f, en, kk⟩ := h
  refine subD_of PySem.F.slot_dict_getitem.lookup hs (thn (hO.run pins s σ H _ I ⟨H0, G, f, en, fun v H1 G1 s1 q1 => (⟨G1, s1, up.now q1⟩ : ∃ G1, Step K W G H G1 H1 ∧ v = .ref (He.ga K "OFFS"))⟩) fun u s1 ⟨x, H1, I1, rx, G1, st1, ex⟩ => ?_)
  subst ex
  obtain rfl : u = Value.ref (He.ga K "OFFS") := rx
  refine thn (hb.run pins s1 σ H1 _ I1 ⟨H0, G1, st1.frm, en.step st1, fun v H2 G2 s2 q2 => (⟨G2, st1.trans s2, dt_str q2⟩ : ∃ G2, Step K W G H G2 H2 ∧ v = .str (plc p))⟩) fun iv s2 ⟨y, H2, I2, ry, G2, st2, ey⟩ => ?_
  subst ey
  refine ⟨kd_type D' I2, op_item_kd D' pins s2 σ H2 (.ref (He.ga K "OFFS")) _ _ _ Q I2 rfl ry ⟨plc p, .ref a, .ref a, rfl, rfl, by rw [c.hK]; exact ea, rfl, ?_⟩⟩
  exact kk _ H2 G2 st2 (dt_of (.tup (ht G2) (.cons (.int _) (.cons (.int _) .nil))))
/-! ### blocks -/
def blkS (x y t : Int) : List Spot := [(x - (x + t) % 2, y - (y + t) % 2), (x - (x + t) % 2 + 1, y - (y + t) % 2), (x - (x + t) % 2, y - (y + t) % 2 + 1), (x - (x + t) % 2 + 1, y - (y + t) % 2 + 1)]
theorem ok_block_spots (c : Ctx w K mg) (x y t : Int) : DfOk P w K mg base "block_spots" 1 false [Dt K (.int x), Dt K (.int y), Dt K (.int t)] (Dt K (.list ((blkS x y t).map sptD))) := by
  obtain ⟨fd, F0⟩ := (d_block_spots c)
  refine mk_df ["x", "y", "now", "left", "top"] (ps := ["x", "y", "now"]) (N := noA) F0 (g_block_spots c) ⟨rfl, rfl, rfl, by decide +kernel, rfl, by decide +kernel, by decide +kernel⟩ (fun _ _ _ _ _ _ us hl => match us, hl with | [_, _, _], _ => rfl) rfl (by simp [noOwns, notOwn]) (fun W X hW k hX => ?_) (fun _ _ _ _ _ z => z.elim)
  obtain ⟨cdv, A, outer, s, H, E, rfl⟩ := hX
  exact srs_cons (sr_par 3 4 k (ea_cons (ev_sub (ev_var 0) (ev_mod (ev_add (ev_var 0) (ev_var 2)) ev_int (by decide))) (ea_cons (ev_sub (ev_var 1) (ev_mod (ev_add (ev_var 1) (ev_var 2)) ev_int (by decide))) ea_nil)))
    (srs_ret (ev_lst (ead_cons (ev_tup (ead_cons (ev_var 3) (ead_cons (ev_var 4) ead_nil))) (ead_cons (ev_tup (ead_cons (ev_add (ev_var 3) ev_int) (ead_cons (ev_var 4) ead_nil))) (ead_cons (ev_tup (ead_cons (ev_var 3) (ead_cons (ev_add (ev_var 4) ev_int) ead_nil)))
      (ead_cons (ev_tup (ead_cons (ev_add (ev_var 3) ev_int) (ead_cons (ev_add (ev_var 4) ev_int) ead_nil))) ead_nil))))))
theorem ok_is_inside (c : Ctx w K mg) (cs : Cells) (t x y : Int) : DfOk P w K mg base "is_inside" 2 false [fiT K cs t, Dt K (.int x), Dt K (.int y)] (Dt K (.bool true)) := by
  obtain ⟨fd, F0⟩ := (d_is_inside c)
  refine mk_df ["field", "x", "y"] (ps := ["field", "x", "y"]) (N := noA) F0 (g_is_inside c) ⟨rfl, rfl, rfl, by decide +kernel, rfl, by decide +kernel, by decide +kernel⟩ (fun _ _ _ _ _ _ us hl => match us, hl with | [_, _, _], _ => rfl) rfl (by simp [noOwns, notOwn]) (fun W X hW k hX => ?_) (fun _ _ _ _ _ z => z.elim)
  obtain ⟨cdv, A, outer, s, H, E, rfl⟩ := hX
  exact srs_ret (ev_eq (ev_or (c2 := true) (ev_neS k (ev_meth0 k (ok_F_kind c cs t) (ev_var 0) (hl := rfl)) ev_str) fun z => absurd z (by decide)) rfl)
/-- the sign behind, in a rule of blocks -/
def behB (l : List BRow) (cs : Cells) (t x y : Int) : Nat := (fateB l ((blkS x y t).map fun q => at_ cs q.1 q.2)).getD ((blkS x y t).idxOf (x, y)) 46
theorem spt_pur (q : Spot) : pur (sptD q) = true := by simp [sptD, pur, purs]
theorem spt_eqv (p q : Spot) : PyData.eqv (sptD p) (sptD q) = decide (p = q) := by
  have h := eqv_pur _ _ (spt_pur p) (spt_pur q)
  cases e : PyData.eqv (sptD p) (sptD q) with
  | true =>
    have := h.mp e
    simp only [sptD, PyData.tuple.injEq, List.cons.injEq, PyData.int.injEq, and_true] at this
    rw [decide_eq_true (Prod.ext this.1 this.2)]
  | false =>
    rw [decide_eq_false fun z => by rw [h.mpr (by rw [z])] at e; cases e]
theorem spt_sh (q : Spot) : ShD 2 (sptD q) := sh_tup (sh_cons sh_int (sh_cons sh_int sh_nil))
theorem blk_mem (x y t : Int) : (x, y) ∈ blkS x y t := by
  unfold blkS
  have h1 := Int.emod_two_eq (x + t)
  have h2 := Int.emod_two_eq (y + t)
  simp only [List.mem_cons, Prod.mk.injEq, List.not_mem_nil, or_false]
  omega
theorem find_first {α : Type} [BEq α] [LawfulBEq α] {l : List α} {a : α} (h : a ∈ l) : l[l.idxOf a]? = some a := by
  have h1 := List.idxOf_lt_length_of_mem h
  rw [List.getElem?_eq_getElem h1]
  exact congrArg some (List.getElem_idxOf h1)
theorem first_no {α : Type} [BEq α] [LawfulBEq α] {a : α} : ∀ {l : List α} {m : Nat}, m < l.idxOf a → l[m]? ≠ some a
  | [], m, h => by simp at h
  | q :: l, m, h => by
    rw [List.idxOf_cons] at h
    by_cases e : q = a
    · subst e; simp at h
    · rw [beq_eq_false_iff_ne.mpr e, cond_false] at h
      cases m with
      | zero => simpa using e
      | succ m => simpa using first_no (l := l) (m := m) (by omega)
theorem fateB_len {sg : List Nat} {l : List BRow} (hr : ∀ r ∈ l, BRowOk sg r) {four : List Nat} (h4 : four.length = 4) : (fateB l four).length = 4 := by
  unfold fateB
  split
  · rename_i r e
    exact (hr r (List.mem_of_find?_eq_some e)).m4
  · exact h4
theorem ok_sign_in_block (c : Ctx w K mg) (so : Str) (m : Nat) (near sg : List Nat) (l : List BRow) (hr : ∀ r ∈ l, BRowOk sg r) (hll : l.length ≤ 1000) (cs : Cells) (t x y : Int) :
    DfOk P w K mg base "sign_in_block" 3 false [ruT K so m near (l.map browD), fiT K cs t, Dt K (.int x), Dt K (.int y)] (Dt K (sgn (behB l cs t x y))) := by
  obtain ⟨fd, F0⟩ := (d_sign_in_block c)
  refine mk_df ["rule", "field", "x", "y", "spots", "across", "down", "four"] (ps := ["rule", "field", "x", "y"]) (N := noA) F0 (g_sign_in_block c) ⟨rfl, rfl, rfl, by decide +kernel, rfl, by decide +kernel, by decide +kernel⟩ (fun _ _ _ _ _ _ us hl => match us, hl with | [_, _, _, _], _ => rfl) rfl (by simp [noOwns, notOwn]) (fun W X hW k hX => ?_) (fun _ _ _ _ _ z => z.elim)
  obtain ⟨cdv, A, outer, s, H, E, rfl⟩ := hX
  refine srs_set 4 k (ev_call k (ok_block_spots c x y t) (ea_cons (ev_var 2) (ea_cons (ev_var 3) (ea_cons (ev_meth0 k (ok_F_turn c cs t) (ev_var 1) (hl := rfl)) ea_nil)))) ?_
  refine srs_no (tst_eq (tst_not (tst_val (ev_allL (blkS x y t) (fun _ => true) k (n_all c) (ev_lcm [("across", 5), ("down", 6)] (blkS x y t) (fun q => dat K (sptD q)) (fun _ => .bool true) k (it_lst (blkS x y t) sptD k (ev_var 4)) (fun q _ s0 H C cl fp => tg_dat _ k.blk (tgs_cons (tg_name 5 k.blk) (tgs_cons (tg_name 6 k.blk) tgs_nil)))
    (fun q _ s0 H C cl fp => ev_call k.blk (ok_is_inside c cs t q.1 q.2) (ea_cons (ev_var 1) (ea_cons (ev_var 5) (ea_cons (ev_var 6) ea_nil)))) (Nat.le_of_ble_eq_true rfl))))) (by simp)) ?_
  have e0 : ((blkS x y t).map fun q => sgn (at_ cs q.1 q.2)) = ((blkS x y t).map fun q => [at_ cs q.1 q.2]).map fun z => PyData.str (txt z) := by rw [List.map_map]; rfl
  have e1 : ((blkS x y t).map fun q => [at_ cs q.1 q.2]).flatten = (blkS x y t).map fun q => at_ cs q.1 q.2 := rfl
  refine srs_set 7 k (ev_eq (ev_join (l := []) (xs := (blkS x y t).map fun q => [at_ cs q.1 q.2]) k (ev_txt []) (ev_eq (ev_lcm [("across", 5), ("down", 6)] (blkS x y t) (fun q => dat K (sptD q)) (fun q => sgn (at_ cs q.1 q.2)) k (it_lst (blkS x y t) sptD k (ev_var 4)) (fun q _ s0 H C cl fp => tg_dat _ k.blk (tgs_cons (tg_name 5 k.blk) (tgs_cons (tg_name 6 k.blk) tgs_nil)))
    (fun q _ s0 H C cl fp => ev_meth k.blk (ok_F_look c cs t q.1 q.2) (ev_var 1) (ea_cons (ev_var 5) (ea_cons (ev_var 6) ea_nil)) (hl := rfl)) (Nat.le_of_ble_eq_true rfl)) (congrArg PyData.list e0)) (Nat.le_of_ble_eq_true rfl)) (by rw [e1])) ?_
  have hj := find_first (blk_mem x y t)
  have hlt := List.idxOf_lt_length_of_mem (blk_mem x y t)
  have h4 := fateB_len hr (four := (blkS x y t).map fun q => at_ cs q.1 q.2) rfl
  have hlt4 : (blkS x y t).idxOf (x, y) < (fateB l ((blkS x y t).map fun q => at_ cs q.1 q.2)).length := by rw [h4]; exact hlt
  refine srs_ret (ev_ixS (l := fateB l ((blkS x y t).map fun q => at_ cs q.1 q.2)) (n := behB l cs t x y) (ev_meth k (ok_R_fateB c so m near sg l hr hll _ rfl) (ev_var 0) (ea_cons (ev_var 7) ea_nil) (hl := rfl))
    (ev_lIndex (j := (blkS x y t).idxOf (x, y)) (z := sptD (x, y)) k (ev_var 4) (ev_tup (ead_cons (ev_var 2) (ead_cons (ev_var 3) ead_nil))) (sh_lst (sh_map fun q _ => spt_sh q)).sh (spt_sh (x, y)).sh (by rw [List.getElem?_map, hj]; rfl) ((spt_eqv _ _).trans (decide_eq_true rfl)) (fun m' z' hm hz => ?_)) ?_ (by rw [h4]; decide))
  · rw [List.getElem?_map] at hz
    cases e : (blkS x y t)[m']? with
    | none => rw [e] at hz; cases hz
    | some q =>
      rw [e] at hz
      cases hz
      refine (spt_eqv q (x, y)).trans (decide_eq_false fun z => first_no hm (by rw [e, z]))
  · refine atI_nat ?_
    unfold behB
    rw [List.getElem?_eq_getElem hlt4]
    simp [hlt4]
end
end Cs

set_option Elab.async false
set_option linter.all false
set_option autoImplicit false
set_option maxRecDepth 100000
set_option maxHeartbeats 4000000
/-! The sign behind; the spots looked at. -/
namespace Cs
open PySem PySem.Spec PyProof.Rows L2
def beside (near : List Nat) (cs : Cells) (x y : Int) : List Nat := near.map fun p => at_ cs (x + (offP p).1) (y + (offP p).2)
def behind (r : Ru) (cs : Cells) (t x y : Int) : Nat := match r.rows with
  | .block l => behB l cs t x y
  | .cell l => if r.so = "halves" ∧ (x + y + t) % 2 = 1 then at_ cs x y else fateC r.near l (at_ cs x y) (beside r.near cs x y)
def addS (l : List Spot) (q : Spot) : List Spot := if q ∈ l then l else l ++ [q]
def nb1 (g : Spot → Nat → Spot) (q : Spot) (l : List Spot) (ks : List Nat) : List Spot := ks.foldl (fun l k => addS l (g q k)) l
def nbs (g : Spot → Nat → Spot) (qs : List Spot) : List Spot := qs.foldl (fun l q => nb1 g q l (List.range 9)) []
def marks (l : List Spot) : List (Spot × V) := l.map fun q => (q, V.bl true)
theorem put_marks (l : List Spot) (q : Spot) : putK (marks l) q (.bl true) = marks (addS l q) := by
  unfold putK addS marks
  have e : ((l.map fun q => (q, V.bl true)).any fun kv => decide (kv.1 = q)) = decide (q ∈ l) := by
    rw [List.any_map]
    induction l with
    | nil => rfl
    | cons a l ih =>
      rw [List.any_cons, ih]
      by_cases h : a = q
      · subst h; simp
      · have h' : ¬ q = a := fun z => h z.symm
        simp [h, h']
  rw [e]
  by_cases h : q ∈ l
  · rw [if_pos (decide_eq_true h), if_pos h, List.map_map]
    refine List.map_congr_left fun a _ => ?_
    show (if a = q then (a, V.bl true) else (a, V.bl true)) = _
    split <;> rfl
  · rw [if_neg (by simpa using h), if_neg h, List.map_append]; rfl
theorem addS_len (l : List Spot) (q : Spot) : (addS l q).length ≤ l.length + 1 := by
  unfold addS
  split
  · omega
  · simp
theorem nb1_len (g : Spot → Nat → Spot) (q : Spot) : ∀ (ks : List Nat) (l : List Spot), (nb1 g q l ks).length ≤ l.length + ks.length
  | [], l => Nat.le_refl _
  | k :: ks, l => by
    have h1 := nb1_len g q ks (addS l (g q k))
    have h2 := addS_len l (g q k)
    show (nb1 g q (addS l (g q k)) ks).length ≤ _
    rw [List.length_cons]
    omega
theorem nbs_snoc (g : Spot → Nat → Spot) (qs : List Spot) (q : Spot) : nbs g (qs ++ [q]) = nb1 g q (nbs g qs) (List.range 9) := by
  unfold nbs
  rw [List.foldl_append, List.foldl_cons, List.foldl_nil]
theorem nbs_len (g : Spot → Nat → Spot) (qs : List Spot) : (nbs g qs).length ≤ 9 * qs.length := by
  have key : ∀ (qs l : List Spot), (qs.foldl (fun l q => nb1 g q l (List.range 9)) l).length ≤ l.length + 9 * qs.length := by
    intro qs
    induction qs with
    | nil => intro l; simp
    | cons q qs ih =>
      intro l
      have h1 := ih (nb1 g q l (List.range 9))
      have h2 := nb1_len g q (List.range 9) l
      rw [List.length_range] at h2
      rw [List.foldl_cons, List.length_cons]
      omega
  have h := key qs []
  rw [List.length_nil, Nat.zero_add] at h
  exact h
theorem nb1_snoc (g : Spot → Nat → Spot) (q : Spot) (l : List Spot) (ks : List Nat) (k : Nat) : nb1 g q l (ks ++ [k]) = addS (nb1 g q l ks) (g q k) := by
  unfold nb1
  rw [List.foldl_append, List.foldl_cons, List.foldl_nil]
def gS (q : Spot) (k : Nat) : Spot := (q.1 - 1 + (k : Int) / 3, q.2 - 1 + (k : Int) % 3)
def gL (q : Spot) (k : Nat) : Spot := (q.1 - 1 + (k : Int) % 3, q.2 - 1 + (k : Int) / 3)
section
variable {P : Program} {w : World} {K : PySem.W.Frag} {mg : Str → Option Value} {base : Heap}
section
variable {k : Nat} {X : Cx} {W : Option Addr} {Γ : En} {pos spos py : Pos} {elt tg iter : Expr} {ifs : List Expr} {scope : Scope} {α : Type} {js : List Nat} {y : Str} {N B C : As} {R : Ent} {rest : List Stmt}
/-- n = [f y for y in xs], as data -/
theorem srs_lcm (i : Nat) (own : List (Str × Nat)) (xs : List α) (enc : α → T) (f : α → PyData) {Jt : α → En} (c : Cok P w K mg base k X) (hi : PI X tg iter (cI K W Γ (xs.map enc))) (hg : ∀ y ∈ xs, ∀ s H C cl fp, PG (Blk X scope s H C cl fp) tg (cG K W (wipeE Γ (own.map (·.2))) (enc y) (Jt y) js))
    (he : ∀ y ∈ xs, ∀ s H C cl fp, Ev (Blk X scope s H C cl fp) K W (Jt y) elt (Dt K (f y))) (hz : xs.length ≤ 16777000) (hr : Srs X K W rest (envA W (Γ.set i (some (Dt K (.list (xs.map f)))))) N B C R) (ok : blkC X.N X.env.scope scope own = true := by rfl) (js2 : ∀ j ∈ js, j ∈ own.map (·.2) := by decide)
    (hy : X.N[i]? = some y := by rfl) (hyl : X.env.scope.names.lookup y = some .local := by rfl)
    (hsw : swapsWith (.ListComp elt [⟨tg, iter, [], 0⟩] scope pos) (some (.Name y py)) spos.line X.env = pure true := by exact sw_true rfl rfl rfl (by decide +kernel)) (hs : ∀ x, foldedSetIterable iter X.env x = pure x := by intro _; rfl) :
    Srs X K W (.Assign [.Name y py] (.ListComp elt [⟨tg, iter, [], 0⟩] scope pos) spos :: rest) (envA W Γ) N B C R :=
  srs_cons (sr_setLc i c (lc_still (lc_map f hi (blkOk_by ok) hg he js2 hz) fun G p ho hp z => still_lst hp z) hy hyl hsw hs) hr
end
theorem flat_map1 {α : Type} (l : List α) (f : α → Nat) : (l.map fun p => [f p]).flatten = l.map f := by
  induction l with
  | nil => rfl
  | cons a l ih => rw [List.map_cons, List.flatten_cons, ih]; rfl
theorem sum_map1 {α : Type} (l : List α) (f : α → Nat) : ((l.map fun p => [f p]).map List.length).sum = l.length := by
  induction l with
  | nil => rfl
  | cons a l ih => rw [List.map_cons, List.map_cons, List.sum_cons, ih, List.length_cons, List.length_cons]; simp; omega
theorem ok_sign_behind (c : Ctx w K mg) (r : Ru) (h : r.Ok) (cs : Cells) (t x y : Int) : DfOk P w K mg base "sign_behind" 4 false [r.ent K, fiT K cs t, Dt K (.int x), Dt K (.int y)] (Dt K (sgn (behind r cs t x y))) := by
  obtain ⟨so, m, near, rows⟩ := r
  obtain ⟨fd, F0⟩ := (d_sign_behind c)
  refine mk_df ["rule", "field", "x", "y", "own", "beside", "place", "dx", "dy"] (ps := ["rule", "field", "x", "y"]) (N := noA) F0 (g_sign_behind c) ⟨rfl, rfl, rfl, by decide +kernel, rfl, by decide +kernel, by decide +kernel⟩ (fun _ _ _ _ _ _ us hl => match us, hl with | [_, _, _, _], _ => rfl) rfl (by simp [noOwns, notOwn]) (fun W X hW k hX => ?_) (fun _ _ _ _ _ z => z.elim)
  obtain ⟨cdv, A, outer, s, H, E, rfl⟩ := hX
  have hfew := h.few
  cases rows with
  | block l =>
    rw [Rws.D, List.length_map] at hfew
    refine srs_ifR (cv := true) (tst_eq (tst_eqS k (ev_meth0 k (ok_R_kind c so m near (l.map browD)) (ev_var 0) (hl := rfl)) ev_str) (decide_eq_true h.rows.1)) (fun _ => ?_) fun z => nomatch z
    exact srs_ret (ev_call k (ok_sign_in_block c so m near (sigs m) l h.rows.2 (by omega) cs t x y) (ea_cons (ev_var 0) (ea_cons (ev_var 1) (ea_cons (ev_var 2) (ea_cons (ev_var 3) ea_nil)))))
  | cell l =>
    rw [Rws.D, List.length_map] at hfew
    have h8 : near.length ≤ 8 := h.nr.few
    refine srs_no (tst_eq (tst_eqS k (ev_meth0 k (ok_R_kind c so m near (l.map crowD)) (ev_var 0) (hl := rfl)) ev_str) (decide_eq_false h.rows.1)) ?_
    refine srs_set 4 k (ev_meth k (ok_F_look c cs t x y) (ev_var 1) (ea_cons (ev_var 2) (ea_cons (ev_var 3) ea_nil)) (hl := rfl)) ?_
    refine srs_ifR (cv := decide (so = "halves") && decide ((x + y + t) % 2 = 1)) (tst_w (tsw_and (tst_eqS k (ev_meth0 k (ok_R_kind c so m near (l.map crowD)) (ev_var 0) (hl := rfl)) ev_str) fun _ => tsw_and1 (tst_eqI k (ev_mod (ev_add (ev_add (ev_var 2) (ev_var 3)) (ev_meth0 k (ok_F_turn c cs t) (ev_var 1) (hl := rfl))) ev_int (by decide)) ev_int))) (fun z => srs_ret (ev_eq (ev_var 4) ?_)) fun z => ?_
    · rw [Bool.and_eq_true] at z
      show _ = sgn (if so = "halves" ∧ (x + y + t) % 2 = 1 then at_ cs x y else _)
      rw [if_pos ⟨of_decide_eq_true z.1, of_decide_eq_true z.2⟩]
    · have hn : ¬ (so = "halves" ∧ (x + y + t) % 2 = 1) := fun q => by rw [decide_eq_true q.1, decide_eq_true q.2] at z; cases z
      refine srs_lcm 5 [("place", 6)] near (fun p => dat K (.str (plc p))) offD k (it_tup near (fun p => .str (plc p)) k (ev_xd (ev_meth0 k (ok_R_near c so m near (l.map crowD)) (ev_var 0) (hl := rfl)))) (fun p _ s0 H C cl fp => tg_name 6 k.blk) (fun p hp s0 H C cl fp => ev_offs c k.blk (h.nr.lt p hp) (ev_var 6)) (by omega) ?_
      have e0 : (near.map fun p => sgn (at_ cs (x + (offP p).1) (y + (offP p).2))) = (near.map fun p => [at_ cs (x + (offP p).1) (y + (offP p).2)]).map fun z => PyData.str (txt z) := by rw [List.map_map]; rfl
      have e1 : (near.map fun p => [at_ cs (x + (offP p).1) (y + (offP p).2)]).flatten = beside near cs x y := flat_map1 near _
      refine srs_ret (ev_eq (ev_meth k (ok_R_fate c so m near (sigs m) l h.rows.2 h.nr.lt h8 (by omega) (beside near cs x y) (by unfold beside; rw [List.length_map]) (at_ cs x y)) (ev_var 0) (ea_cons (ev_var 4) (ea_cons (ev_eq (ev_join (l := []) (xs := near.map fun p => [at_ cs (x + (offP p).1) (y + (offP p).2)]) k (ev_txt []) (ev_eq (ev_lcm [("dx", 7), ("dy", 8)] near (fun p => dat K (offD p)) (fun p => sgn (at_ cs (x + (offP p).1) (y + (offP p).2))) k (it_lst near offD k (ev_var 5))
        (fun p _ s0 H C cl fp => tg_dat [.int (offP p).1, .int (offP p).2] k.blk (tgs_cons (tg_name 7 k.blk) (tgs_cons (tg_name 8 k.blk) tgs_nil))) (fun p _ s0 H C cl fp => ev_meth k.blk (ok_F_look c cs t (x + (offP p).1) (y + (offP p).2)) (ev_var 1) (ea_cons (ev_add (ev_var 2) (ev_var 7)) (ea_cons (ev_add (ev_var 3) (ev_var 8)) ea_nil)) (hl := rfl)) (by omega)) (congrArg PyData.list e0)) (by rw [sum_map1]; omega)) (by rw [e1])) ea_nil)) (hl := rfl)) ?_)
      show _ = sgn (if so = "halves" ∧ (x + y + t) % 2 = 1 then at_ cs x y else _)
      rw [if_neg hn]
theorem ok_spots (c : Ctx w K mg) (cs : Cells) (t : Int) (hz : cs.length ≤ 100000) : DfOk P w K mg base "spots_to_look_at" 2 false [fiT K cs t] (Dt K (.list ((nbs gS (cs.map (·.1))).map sptD))) := by
  obtain ⟨fd, F0⟩ := (d_spots_to_look_at c)
  refine mk_df ["field", "y", "x", "found", "k"] (ps := ["field"]) (N := noA) F0 (g_spots_to_look_at c) ⟨rfl, rfl, rfl, by decide +kernel, rfl, by decide +kernel, by decide +kernel⟩ (fun _ _ _ _ _ _ us hl => match us, hl with | [_], _ => rfl) rfl (by simp [noOwns, notOwn]) (fun W X hW k hX => ?_) (fun _ _ _ _ _ z => z.elim)
  obtain ⟨cdv, A, outer, s, H, E, rfl⟩ := hX
  refine srs_no (tst_eq (tst_neS k (ev_meth0 k (ok_F_kind c cs t) (ev_var 0) (hl := rfl)) ev_str) rfl) ?_
  refine srs_set 3 k ev_dnew ?_
  have ek : (cs.map (·.1)).map keyT = (sgs cs).map fun z => keyT z.1 := by unfold sgs; rw [List.map_map, List.map_map]; rfl
  let J : List Spot → En := fun pre => [some (fiT K cs t), none, none, some (.own (dctO (marks (nbs gS pre)))), none]
  refine srs_cons (sr_for (cs.map (·.1)) keyT J (fun pre q => ((J pre).set 2 (some (Dt K (.int q.1)))).set 1 (some (Dt K (.int q.2)))) k (by rw [ek]; exact it_keys (ev_fld k (C_Field c) (na_Field_laid c) (ev_var 0))) ?_ (fun pre q post _ => tg_key k (tgs_cons (tg_name 2 k) (tgs_cons (tg_name 1 k) tgs_nil))) (fun pre q post e => ?_) (fun _ _ _ _ z => z)) ?_
  · exact ⟨.inr rfl, .inr rfl, .inr rfl, .inr rfl, .inr rfl, trivial⟩
  · have hpre : pre.length ≤ 100000 := by
      have := congrArg List.length e
      rw [List.length_map, List.length_append] at this
      omega
    let J1 : List Nat → En := fun ks => [some (fiT K cs t), some (Dt K (.int q.2)), some (Dt K (.int q.1)), some (.own (dctO (marks (nb1 gS q (nbs gS pre) ks)))), none]
    refine srs_cons (N := envA W (J (pre ++ [q]))) (sr_for (List.range 9) (fun i => dat K (.int (i : Nat))) J1 (fun ks i => (J1 ks).set 4 (some (Dt K (.int (i : Nat))))) k (it_range1 k (n_range c) (ea_cons ev_int ea_nil)) (Sub.refl _) (fun ks i post _ => tg_name 4 k) (fun ks i post e2 => ?_) (fun _ _ _ _ z => (z : envA W (J1 (List.range 9)) _ _ _ _))) (srs_nil fun _ _ _ _ z => ?_)
    · have hks : ks.length ≤ 9 := by
        have := congrArg List.length e2
        rw [List.length_range, List.length_append] at this
        omega
      have l1 := nb1_len gS q ks (nbs gS pre)
      have l2 := nbs_len gS pre
      refine srs_cons (sr_dput 3 (ps := marks (nb1 gS q (nbs gS pre) ks)) (q := gS q i) (u := .bl true) (t := fun _ v => v = .bl true) k (ev_key (ead_cons (ev_add (ev_sub (ev_var 2) ev_int) (ev_fdiv (ev_var 4) ev_int (by decide) (by decide))) (ead_cons (ev_add (ev_sub (ev_var 1) ev_int) (ev_mod (ev_var 4) ev_int (by decide))) ead_nil))) (ev_to ev_bl fun _ _ _ _ z G' l => by have := z G' l; cases this; rfl) (fun G v z => up.now z) (by unfold marks; rw [List.length_map]; omega)) ?_
      rw [put_marks]
      refine srs_nil fun _ _ _ _ z => ?_
      have z' := z.sub (Γ' := J1 (ks ++ [i])) ⟨.inr rfl, .inr rfl, .inr rfl, .inr (by show some (Ent.own (dctO (marks (nb1 gS q (nbs gS pre) (ks ++ [i]))))) = _; rw [nb1_snoc]), .inl rfl, trivial⟩
      exact z'
    · refine EnvOk.sub z ⟨.inr rfl, .inl rfl, .inl rfl, .inr ?_, .inr rfl, trivial⟩
      rw [nbs_snoc]
  · refine srs_frzD 3 ?_
    refine srs_ret (ev_eq (ev_listD (es := []) k (n_list c) (ea_cons (ev_var 3) ea_nil)) ?_)
    unfold marks
    rw [List.map_map]; rfl
end
end Cs

set_option Elab.async false
set_option linter.all false
set_option autoImplicit false
set_option maxRecDepth 100000
set_option maxHeartbeats 4000000
/-! One turn of the field. -/
namespace Cs
open PySem PySem.Spec PyProof.Rows L2
theorem put_new {l : List (Spot × V)} {q : Spot} {v : V} (h : q ∉ l.map (·.1)) : putK l q v = l ++ [(q, v)] := by
  unfold putK
  rw [if_neg ?_]
  intro z
  rw [List.any_eq_true] at z
  obtain ⟨y, hy, e⟩ := z
  exact h (List.mem_map.mpr ⟨y, hy, of_decide_eq_true e⟩)
theorem fold_put {α : Type} (key : α → Spot) (val : α → V) : ∀ (xs : List α) (l : List (Spot × V)), (l.map (·.1) ++ xs.map key).Nodup → xs.foldl (fun acc y => putK acc (key y) (val y)) l = l ++ xs.map fun y => (key y, val y)
  | [], l, _ => by simp
  | x :: xs, l, h => by
    have hx : key x ∉ l.map (·.1) := fun m => by
      rw [List.map_cons] at h
      exact (List.nodup_append.mp h).2.2 _ m _ (List.mem_cons_self ..) rfl
    rw [List.foldl_cons, put_new hx, fold_put key val xs]
    · rw [List.map_cons, List.append_assoc]; rfl
    · rw [List.map_append, List.append_assoc]
      exact h
theorem resD_nd {α : Type} {p : α → Bool} {key : α → Spot} {val : α → V} {xs : List α} (h : ((xs.filter p).map key).Nodup) : resD p key val xs = (xs.filter p).map fun y => (key y, val y) := by
  unfold resD
  rw [fold_put key val _ [] (by simpa using h)]
  rfl
theorem addS_nd {l : List Spot} {q : Spot} (h : l.Nodup) : (addS l q).Nodup := by
  unfold addS
  split
  · exact h
  · rename_i n
    refine List.nodup_append.mpr ⟨h, by simp, fun a ha b hb e => n ?_⟩
    rw [List.mem_singleton] at hb
    rw [← hb, ← e]
    exact ha
theorem nb1_nd {g : Spot → Nat → Spot} {q : Spot} : ∀ {ks : List Nat} {l : List Spot}, l.Nodup → (nb1 g q l ks).Nodup
  | [], _, h => h
  | k :: ks, l, h => nb1_nd (ks := ks) (l := addS l (g q k)) (addS_nd h)
theorem nbs_nd {g : Spot → Nat → Spot} (qs : List Spot) : (nbs g qs).Nodup := by
  have key : ∀ (qs l : List Spot), l.Nodup → (qs.foldl (fun l q => nb1 g q l (List.range 9)) l).Nodup := by
    intro qs
    induction qs with
    | nil => intro l h; exact h
    | cons q qs ih =>
      intro l h
      rw [List.foldl_cons]
      exact ih _ (nb1_nd h)
  exact key qs [] List.nodup_nil
/-- all the signs behind, and those that are kept -/
def toldC (r : Ru) (cs : Cells) (t : Int) : Cells := (nbs gS (cs.map (·.1))).map fun q => (q, behind r cs t q.1 q.2)
def stepC (r : Ru) (cs : Cells) (t : Int) : Cells := (toldC r cs t).filter fun z => !decide (z.2 = 46)
theorem told_keys (r : Ru) (cs : Cells) (t : Int) : (toldC r cs t).map (·.1) = nbs gS (cs.map (·.1)) := by
  unfold toldC
  rw [List.map_map]
  exact List.map_id' _
section
variable {P : Program} {w : World} {K : PySem.W.Frag} {mg : Str → Option Value} {base : Heap}
theorem ev_frzDe {X : Cx} {W : Option Addr} {Γ : En} {a : Expr} {ps qs : List (Spot × V)} (h : Ev X K W Γ a (.own (dctO ps))) (e : ps = qs) : Ev X K W Γ a (.fro (dctT qs)) := e ▸ ev_frzD h
theorem ev_vl {X : Cx} {W : Option Addr} {Γ : En} {a : Expr} {n : Nat} (h : Ev X K W Γ a (Dt K (sgn n))) : Ev X K W Γ a (.fro (vlT (sgV n))) := ev_to h fun _ _ _ _ q _ _ => dt_str q
theorem ok_step_of (c : Ctx w K mg) (r : Ru) (h : r.Ok) (cs : Cells) (t : Int) (hz : cs.length ≤ 100000) : DfOk P w K mg base "step_of" 5 false [r.ent K, fiT K cs t] (fiT K (stepC r cs t) (t + 1)) := by
  obtain ⟨fd, F0⟩ := (d_step_of c)
  refine mk_df ["rule", "field", "told", "x", "y", "spot", "sign"] (ps := ["rule", "field"]) (N := noA) F0 (g_step_of c) ⟨rfl, rfl, rfl, by decide +kernel, rfl, by decide +kernel, by decide +kernel⟩ (fun _ _ _ _ _ _ us hl => match us, hl with | [_, _], _ => rfl) rfl (by simp [noOwns, notOwn]) (fun W X hW k hX => ?_) (fun _ _ _ _ _ z => z.elim)
  obtain ⟨cdv, A, outer, s, H, E, rfl⟩ := hX
  have nl := nbs_len gS (cs.map (·.1))
  rw [List.length_map] at nl
  refine srs_cons (sr_setDc 2 (own := [("x", 3), ("y", 4)]) (js := [3] ++ ([4] ++ [])) (nbs gS (cs.map (·.1))) (fun q => dat K (sptD q)) (fun _ => true) (fun q => q) (fun q => sgV (behind r cs t q.1 q.2)) k (it_lst _ sptD k (ev_call k (ok_spots c cs t hz) (ea_cons (ev_var 1) ea_nil))) (blkOk_by (by rfl))
    (fun q _ s0 H C cl fp => tg_dat [.int q.1, .int q.2] k.blk (tgs_cons (tg_name 3 k.blk) (tgs_cons (tg_name 4 k.blk) tgs_nil))) (fun q _ s0 H C cl fp => tsts_nil) (fun q _ _ s0 H C cl fp => ev_key (ead_cons (ev_var 3) (ead_cons (ev_var 4) ead_nil)))
    (fun q _ _ s0 H C cl fp => ev_vl (ev_call k.blk (ok_sign_behind c r h cs t q.1 q.2) (ea_cons (ev_var 0) (ea_cons (ev_var 1) (ea_cons (ev_var 3) (ea_cons (ev_var 4) ea_nil)))))) (by decide) (by omega)) ?_
  have e1 : resD (fun _ => true) (fun q => q) (fun q => sgV (behind r cs t q.1 q.2)) (nbs gS (cs.map (·.1))) = sgs (toldC r cs t) := by
    rw [resD_nd (by rw [List.filter_eq_self.mpr (fun _ _ => rfl), List.map_id']; exact nbs_nd _), List.filter_eq_self.mpr (fun _ _ => rfl)]
    unfold sgs toldC
    rw [List.map_map]; rfl
  rw [e1]
  refine srs_frzD 2 ?_
  have e2 : resD (fun z : Spot × Nat => !decide (z.2 = 46)) (fun z => z.1) (fun z => sgV z.2) (toldC r cs t) = sgs (stepC r cs t) := by
    rw [resD_nd]
    · rfl
    · have := nbs_nd (g := gS) (cs.map (·.1))
      rw [← told_keys r cs t] at this
      exact List.Nodup.sublist (List.Sublist.map _ List.filter_sublist) this
  have tl : (toldC r cs t).length ≤ 16777000 := by unfold toldC; rw [List.length_map]; omega
  refine srs_ret (ev_meth k (ok_F_remade c cs (stepC r cs t) t (t + 1)) (ev_var 1) (ea_cons (ev_frzDe (ev_dc (own := [("spot", 5), ("sign", 6)]) (js := [5] ++ ([6] ++ [])) (toldC r cs t) (itemT K) (fun z => !decide (z.2 = 46)) (fun z => z.1) (fun z => sgV z.2) k (it_items (ev_var 2)) (blkOk_by (by rfl))
    (fun z _ s0 H C cl fp => tg_tup k.blk (tgs_cons (tg_name 5 k.blk) (tgs_cons (tg_name 6 k.blk) tgs_nil))) (fun z _ s0 H C cl fp => tsts_one (tst_eq (tst_neX (l := [z.2]) (m := [46]) k.blk (ev_var 6) (ev_txt [46])) (by simp))) (fun z _ _ s0 H C cl fp => ev_var 5) (fun z _ _ s0 H C cl fp => ev_vl (ev_var 6)) (by decide) tl) e2) (ea_cons (ev_add (ev_meth0 k (ok_F_turn c cs t) (ev_var 1) (hl := rfl)) ev_int) ea_nil)) (hl := rfl))
end
end Cs

set_option Elab.async false
set_option linter.all false
set_option autoImplicit false
set_option maxRecDepth 100000
set_option maxHeartbeats 4000000
/-! The field's frame, what fits, the beginning. -/
namespace Cs
open PySem PySem.Spec PyProof.Rows L2
def mnI : List Int → Int
  | [] => 0
  | [a] => a
  | a :: b :: l => if a ≤ mnI (b :: l) then a else mnI (b :: l)
def mxI : List Int → Int
  | [] => 0
  | [a] => a
  | a :: b :: l => if mxI (b :: l) ≤ a then a else mxI (b :: l)
theorem mn_mem : ∀ {l : List Int}, l ≠ [] → mnI l ∈ l
  | [], h => absurd rfl h
  | [a], _ => by simp [mnI]
  | a :: b :: l, _ => by
    unfold mnI
    split
    · simp
    · exact List.mem_cons_of_mem _ (mn_mem (by simp))
theorem mx_mem : ∀ {l : List Int}, l ≠ [] → mxI l ∈ l
  | [], h => absurd rfl h
  | [a], _ => by simp [mxI]
  | a :: b :: l, _ => by
    unfold mxI
    split
    · simp
    · exact List.mem_cons_of_mem _ (mx_mem (by simp))
theorem mn_le : ∀ {l : List Int} {y : Int}, y ∈ l → mnI l ≤ y
  | [], y, h => by simp at h
  | [a], y, h => by simp at h; subst h; simp [mnI]
  | a :: b :: l, y, h => by
    unfold mnI
    rcases List.mem_cons.mp h with e | h
    · subst e; split <;> omega
    · have := mn_le h
      split <;> omega
theorem le_mx : ∀ {l : List Int} {y : Int}, y ∈ l → y ≤ mxI l
  | [], y, h => by simp at h
  | [a], y, h => by simp at h; subst h; simp [mxI]
  | a :: b :: l, y, h => by
    unfold mxI
    rcases List.mem_cons.mp h with e | h
    · subst e; split <;> omega
    · have := le_mx h
      split <;> omega
def xsOf (cs : Cells) : List Int := cs.map fun z => z.1.1
def ysOf (cs : Cells) : List Int := cs.map fun z => z.1.2
def frameD (cs : Cells) : PyData := if cs = [] then .none else .tuple [.int (mnI (xsOf cs)), .int (mnI (ysOf cs)), .int (mxI (xsOf cs)), .int (mxI (ysOf cs))]
section
variable {P : Program} {w : World} {K : PySem.W.Frag} {mg : Str → Option Value} {base : Heap}
theorem ok_F_frame (c : Ctx w K mg) (cs : Cells) (t : Int) (hz : cs.length ≤ 16777000) : MtOk P w K mg base (He.ga K "Field") "frame" 1 false [fiT K cs t] (Dt K (frameD cs)) := by
  obtain ⟨fd, F0⟩ := (dm_Field_frame c)
  refine mk_mt ["self", "across", "down", "x", "y"] (ps := ["self"]) (N := noA) F0 (C_Field c) (mt_Field_frame c) ⟨rfl, rfl, rfl, by decide +kernel, rfl, by decide +kernel, by decide +kernel⟩ (fun _ _ _ _ _ _ us hl => match us, hl with | [_], _ => rfl) rfl (by simp [noOwns, notOwn]) (fun W X hW k hX => ?_) (fun _ _ _ _ _ z => z.elim)
  obtain ⟨cdv, A, outer, s, H, E, rfl⟩ := hX
  refine srs_ifR (cv := decide (cs = [])) (tst_eq (tst_eqE k (ev_fld k (C_Field c) (na_Field_laid c) (ev_var 0))) (by cases cs <;> simp [sgs])) (fun z => srs_ret (ev_eq ev_non ?_)) fun z => ?_
  · unfold frameD
    rw [if_pos (of_decide_eq_true z)]
  · have hn : cs ≠ [] := of_decide_eq_false z
    have ek : (sgs cs).map (fun z => keyT z.1) = cs.map fun z => keyT z.1 := by unfold sgs; rw [List.map_map]; rfl
    have ex : cs.map (fun z => PyData.int z.1.1) = (xsOf cs).map .int := by unfold xsOf; rw [List.map_map]; rfl
    have ey : cs.map (fun z => PyData.int z.1.2) = (ysOf cs).map .int := by unfold ysOf; rw [List.map_map]; rfl
    have nx : xsOf cs ≠ [] := by unfold xsOf; simpa using hn
    have ny : ysOf cs ≠ [] := by unfold ysOf; simpa using hn
    refine srs_cons (sr_par 1 2 k (ea_cons (ev_lcm [("x", 3), ("y", 4)] cs (fun z => keyT z.1) (fun z => .int z.1.1) k (by rw [← ek]; exact it_keys (ev_fld k (C_Field c) (na_Field_laid c) (ev_var 0))) (fun z _ s0 H C cl fp => tg_key k.blk (tgs_cons (tg_name 3 k.blk) (tgs_cons (tg_name 4 k.blk) tgs_nil))) (fun z _ s0 H C cl fp => ev_var 3) hz)
      (ea_cons (ev_lcm [("x", 3), ("y", 4)] cs (fun z => keyT z.1) (fun z => .int z.1.2) k (by rw [← ek]; exact it_keys (ev_fld k (C_Field c) (na_Field_laid c) (ev_var 0))) (fun z _ s0 H C cl fp => tg_key k.blk (tgs_cons (tg_name 3 k.blk) (tgs_cons (tg_name 4 k.blk) tgs_nil))) (fun z _ s0 H C cl fp => ev_var 4) hz) ea_nil))) ?_
    rw [ex, ey]
    refine srs_ret (ev_eq (ev_tup (ead_cons (ev_minL (m := mnI (xsOf cs)) k (n_min c) (ea_cons (ev_var 1) ea_nil) (mn_mem nx) (fun _ h => mn_le h)) (ead_cons (ev_minL (m := mnI (ysOf cs)) k (n_min c) (ea_cons (ev_var 2) ea_nil) (mn_mem ny) (fun _ h => mn_le h)) (ead_cons (ev_maxL (m := mxI (xsOf cs)) k (n_max c) (ea_cons (ev_var 1) ea_nil) (mx_mem nx) (fun _ h => le_mx h)) (ead_cons (ev_maxL (m := mxI (ysOf cs)) k (n_max c) (ea_cons (ev_var 2) ea_nil) (mx_mem ny) (fun _ h => le_mx h)) ead_nil))))) ?_)
    unfold frameD
    rw [if_neg hn]
end
end Cs

set_option Elab.async false
set_option linter.all false
set_option autoImplicit false
set_option maxRecDepth 100000
set_option maxHeartbeats 4000000
/-! endless([]). -/
namespace Cs
open PySem PySem.Spec PyProof.Rows L2
section
variable {P : Program} {w : World} {K : PySem.W.Frag} {mg : Str → Option Value} {base : Heap}
theorem ok_need_good (c : Ctx w K mg) (i : Int) : DfOk P w K mg base "need_good" 1 false [Dt K (.int i), Dt K (.bool true)] (Dt K .none) := by
  obtain ⟨fd, F0⟩ := (d_need_good c)
  refine mk_df ["at", "good"] (ps := ["at", "good"]) (N := fun _ _ _ _ => True) F0 (g_need_good c) ⟨rfl, rfl, rfl, by decide +kernel, rfl, by decide +kernel, by decide +kernel⟩ (fun _ _ _ _ _ _ us hl => match us, hl with | [_, _], _ => rfl) rfl (by simp [noOwns, notOwn]) (fun W X hW k hX => ?_) (fun _ _ _ _ _ _ => dt_of .non)
  obtain ⟨cdv, A, outer, s, H, E, rfl⟩ := hX
  exact srs_no (tst_eq (tst_not (tst_val (ev_var 1))) rfl) (srs_nil fun _ _ _ _ _ => trivial)
theorem ok_is_turn0 (c : Ctx w K mg) : DfOk P w K mg base "is_turn" 3 false [Dt K (.int 0)] (Dt K (.bool true)) := by
  obtain ⟨fd, F0⟩ := (d_is_turn c)
  refine mk_df ["thing"] (ps := ["thing"]) (N := noA) F0 (g_is_turn c) ⟨rfl, rfl, rfl, by decide +kernel, rfl, by decide +kernel, by decide +kernel⟩ (fun _ _ _ _ _ _ us hl => match us, hl with | [_], _ => rfl) rfl (by simp [noOwns, notOwn]) (fun W X hW k hX => ?_) (fun _ _ _ _ _ z => z.elim)
  obtain ⟨cdv, A, outer, s, H, E, rfl⟩ := hX
  exact srs_ret (ev_eq (ev_call k (ok_is_from_to c 0 0 1000000000) (ea_cons (ev_var 0) (ea_cons ev_int (ea_cons (ev_gint k (i_LATEST c)) ea_nil)))) rfl)
theorem ok_are_listed0 (c : Ctx w K mg) : DfOk P w K mg base "are_listed" 1 false [Dt K (.list [])] (Dt K (.bool true)) := by
  obtain ⟨fd, F0⟩ := (d_are_listed c)
  refine mk_df ["thing", "cell", "x", "y", "sign"] (ps := ["thing"]) (N := noA) F0 (g_are_listed c) ⟨rfl, rfl, rfl, by decide +kernel, rfl, by decide +kernel, by decide +kernel⟩ (fun _ _ _ _ _ _ us hl => match us, hl with | [_], _ => rfl) rfl (by simp [noOwns, notOwn]) (fun W X hW k hX => ?_) (fun _ _ _ _ _ z => z.elim)
  obtain ⟨cdv, A, outer, s, H, E, rfl⟩ := hX
  have hi : ∀ {tg : Expr} {pos : Pos}, PI (cxOf CX0 P w K mg base ["thing", "cell", "x", "y", "sign"] "are_listed" (defScope (top 31)) (He.ga K "are_listed") cdv A outer s H E).nox tg (.Name "thing" pos) (cI K W (initE 5 [Dt K (.list [])]) (([] : List Nat).map fun _ => dat K .none)) := it_lst [] (fun _ => .none) k (ev_var 0)
  refine srs_no (tst_eq (tst_w (tsw_or (tst_not (tst_val (ev_is "list" true c k (n_list c) (ev_var 0)))) fun _ => tsw_or1 (tst_not (tst_val (ev_allL ([] : List Nat) (fun _ => true) k (n_all c) (ev_lcm [("cell", 1)] ([] : List Nat) (fun _ => dat K .none) (fun _ => .bool true) k hi (fun y hy => nomatch hy) (fun y hy => nomatch hy) (Nat.zero_le _) (Jt := fun _ => []) (js := []))))))) rfl) ?_
  exact srs_ret (ev_eq (ev_eqI k (ev_lenSC0 [("x", 2), ("y", 3), ("sign", 4)] k (n_len c) hi (blkOk_by (by rfl))) (ev_lenL k (n_len c) (ea_cons (ev_var 0) ea_nil))) rfl)
theorem ok_need_near0 (c : Ctx w K mg) (t : Int) : DfOk P w K mg base "need_near" 2 false [fiT K [] t] (fiT K [] t) := by
  obtain ⟨fd, F0⟩ := (d_need_near c)
  refine mk_df ["field", "left", "top", "right", "bottom"] (ps := ["field"]) (N := noA) F0 (g_need_near c) ⟨rfl, rfl, rfl, by decide +kernel, rfl, by decide +kernel, by decide +kernel⟩ (fun _ _ _ _ _ _ us hl => match us, hl with | [_], _ => rfl) rfl (by simp [noOwns, notOwn]) (fun W X hW k hX => ?_) (fun _ _ _ _ _ z => z.elim)
  obtain ⟨cdv, A, outer, s, H, E, rfl⟩ := hX
  refine srs_no (tst_eq (tst_w (tsw_and (tst_eqS k (ev_fld k (C_Field c) (na_Field_form c) (ev_var 0)) ev_str) fun _ => tsw_and1 (tst_cmp1 op_notN rd_notN (ev_meth0 k (ok_F_frame c [] t (by decide)) (ev_var 0) (hl := rfl)) ev_non))) rfl) ?_
  exact srs_ret (ev_var 0)
/-- endless([]) -/
theorem ok_endless (c : Ctx w K mg) : ∃ (f : Addr) (fd : FuncData) (ps : List Str) (ds : List Value), mg "endless" = some (.ref f) ∧ PySem.W.keepIn K (.ref f) = true ∧ Vals [V.int 0] ds ∧ Binds K fd ps ds ∧ FnOk P w K mg base CX0 4 f fd ps (spF K false [Dt K (.list []), Dt K (.int 0)] (fiT K [] 0)) := by
  obtain ⟨fd, F0⟩ := d_endless c
  obtain ⟨ds, hv, hb⟩ := F0.binds0 (ps := ["cells", "turn"]) 1 (by simp) rfl (fun D doc pm an cdv ct us ks h1 h2 => match us, ks, h1, h2 with | [_], [_], _, _ => ⟨_, _, _, _, _, _, rfl, rfl, rfl⟩)
  refine ⟨_, fd, ["cells", "turn"], ds, g_endless c, F0.kp, hv, hb, mk_fn (N := noA) ["cells", "turn", "x", "y", "sign"] F0 ⟨rfl, rfl, rfl, by decide +kernel, rfl, by decide +kernel, by decide +kernel⟩ rfl (by simp [noOwns, notOwn]) (fun W X hW k hX => ?_) (fun _ _ _ _ _ z => z.elim)⟩
  obtain ⟨cdv, A, outer, s, H, E, rfl⟩ := hX
  refine srs_drop (ev_call k (ok_need_good c 0) (ea_cons ev_int (ea_cons (ev_call k (ok_are_listed0 c) (ea_cons (ev_var 0) ea_nil)) ea_nil))) ?_
  refine srs_drop (ev_call k (ok_need_good c 1) (ea_cons ev_int (ea_cons (ev_call k (ok_is_turn0 c) (ea_cons (ev_var 1) ea_nil)) ea_nil))) ?_
  have e : resD (fun _ : Nat => true) (fun _ => ((0, 0) : Spot)) (fun _ => V.non) [] = sgs [] := rfl
  refine srs_ret (ev_call k (ok_need_near0 c 0) (ea_cons (ev_make k (ok_Field c [] 0) (ea_cons ev_str (ea_cons (ev_frzDe (ev_dc (own := [("x", 2), ("y", 3), ("sign", 4)]) (js := []) ([] : List Nat) (fun _ => dat K .none) (fun _ => true) (fun _ => (0, 0)) (fun _ => V.non) (Jt := fun _ => []) k (it_lst [] (fun _ => .none) k (ev_var 0)) (blkOk_by (by rfl)) (fun y hy => nomatch hy) (fun y hy => nomatch hy) (fun y hy => nomatch hy) (fun y hy => nomatch hy) (by decide) (Nat.zero_le _)) e) (ea_cons (ev_var 1) (ea_cons ev_non (ea_cons ev_non (ea_cons ev_non ea_nil))))))) ea_nil))
section
variable {k : Nat} {X : Cx} {W : Option Addr} {Γ : En} {p pos : Pos} {a : Expr}
theorem ev_endless (c : Ctx w K mg) (kk : Cok P w K mg base k X) (ha : Ea X K W Γ [a] [Dt K (.list [])]) (hj : 4 ≤ k := by decide) (hg : Gl X "endless" := by rfl) (he : starEach [a] X.env = (false, eval a X.env) :: starEach [] X.env := by rfl) (hpl : (backTo pos (starEach [] X.env)).any (·.1) = false := by rfl) : Ev X K W Γ (.Call (.Name "endless" p) [a] [] pos) (fiT K [] 0) := by
  obtain ⟨f, fd, ps, ds, hm, hk, hv, hb, F⟩ := ok_endless (P := P) (base := base) c
  obtain ⟨rfl, rfl, rfl, rfl, rfl, hr, hc, hN⟩ := kk
  refine peI (pe_call F (hr.mono hj) hg hm hk hb hv pass0 ha (by decide) he hpl) fun σ H Q ⟨H0, G, f, en, k⟩ => ⟨H0, G, f, en, fun vs H1 G1 s1 q1 => ?_⟩
  obtain ⟨v, rfl, qv⟩ := args1 q1
  show spF X.K false [Dt X.K (.list []), Dt X.K (.int 0)] (fiT X.K [] 0) [v, V.int 0] H1 Q E0
  exact spF_use (σ := σ) s1.frm (.inr ⟨trivial, trivial, trivial⟩) ⟨trivial, trivial, trivial⟩ ⟨qv, dt_of (.int 0), trivial⟩ fun v H' G' s q => k v H' G' (s1.trans s) (q.back fun a z => s1.free z)
end
end
end Cs

set_option Elab.async false
set_option linter.all false
set_option autoImplicit false
set_option maxRecDepth 100000
set_option maxHeartbeats 4000000
/-! What fits; the beginning. -/
namespace Cs
open PySem PySem.Spec PyProof.Rows L2
structure FitC (m : Nat) (cs : Cells) : Prop where
  few : cs.length ≤ 100
  sub : ∀ z ∈ cs, z.2 ∈ sigs m
  ne : cs ≠ []
  wide : mxI (xsOf cs) - mnI (xsOf cs) ≤ 100
  high : mxI (ysOf cs) - mnI (ysOf cs) ≤ 100
theorem dot_in {m : Nat} (h : 2 ≤ m) : 46 ∈ sigs m := by
  unfold sigs
  obtain ⟨n, rfl⟩ : ∃ n, m = n + 1 := ⟨m - 1, by omega⟩
  show 46 ∈ List.take (n + 1) (46 :: _)
  rw [List.take_succ_cons]
  exact List.mem_cons_self ..
section
variable {P : Program} {w : World} {K : PySem.W.Frag} {mg : Str → Option Value} {base : Heap}
theorem ok_strange (c : Ctx w K mg) (r : Ru) (h : r.Ok) (cs : Cells) (t : Int) (hc : FitC r.m cs) : DfOk P w K mg base "strange_sign" 2 false [r.ent K, fiT K cs t] (Dt K .none) := by
  obtain ⟨fd, F0⟩ := (d_strange_sign c)
  refine mk_df ["rule", "field", "signs", "sign"] (ps := ["rule", "field"]) (N := noA) F0 (g_strange_sign c) ⟨rfl, rfl, rfl, by decide +kernel, rfl, by decide +kernel, by decide +kernel⟩ (fun _ _ _ _ _ _ us hl => match us, hl with | [_, _], _ => rfl) rfl (by simp [noOwns, notOwn]) (fun W X hW k hX => ?_) (fun _ _ _ _ _ z => z.elim)
  obtain ⟨cdv, A, outer, s, H, E, rfl⟩ := hX
  have e0 : cs.map (fun z => sgn z.2) ++ [sgn 46] = (cs.map (fun z : Spot × Nat => z.2) ++ [46]).map sgn := by rw [List.map_append, List.map_map]; rfl
  refine srs_set 2 k (ev_eq (ev_cat c.nk k (ev_listVals k (n_list c) (ev_fld k (C_Field c) (na_Field_laid c) (ev_var 1))) (ev_lst (ead_cons (ev_orN k (ev_meth0 k (ok_F_edge c cs t) (ev_var 1) (hl := rfl)) (ev_one (ev_eq (ev_txt [46]) rfl))) ead_nil)) (by have := hc.few; rw [List.length_map]; simp; omega)) (congrArg PyData.list e0)) ?_
  have e1 : ((cs.map (fun z : Spot × Nat => z.2) ++ [46]).filter fun n => !decide (n ∈ sigs r.m)) = [] := by
    rw [List.filter_eq_nil_iff]
    intro n hn
    rcases List.mem_append.mp hn with z | z
    · obtain ⟨q, hq, rfl⟩ := List.mem_map.mp z
      simp [hc.sub q hq]
    · rw [List.mem_singleton] at z
      subst z
      simp [dot_in h.lo]
  refine srs_ret (ev_min0 k (n_min c) (ev_eq (ev_lcs [("sign", 3)] (cs.map (fun z : Spot × Nat => z.2) ++ [46]) (fun n => dat K (sgn n)) (fun n => !decide (n ∈ sigs r.m)) sgn k (it_lst _ sgn k (ev_var 2)) (fun y _ s0 H C cl fp => tg_name 3 k.blk) (fun y _ s0 H C cl fp => tsts_one (tst_cmp1 op_notInS rd_niS (ev_var 3) (ev_meth0 k.blk (ok_R_signs c r.so r.m r.near r.rows.D) (ev_var 0) (hl := rfl)))) (fun y _ _ s0 H C cl fp => ev_var 3) (by have := hc.few; rw [List.length_append, List.length_map]; simp; omega)) (by rw [e1]; rfl)) ev_non (pk_cons ev_non pk_nil))
theorem ok_need_fit (c : Ctx w K mg) (r : Ru) (h : r.Ok) (hk : keepsG r = true) (cs : Cells) (t : Int) (hc : FitC r.m cs) : DfOk P w K mg base "need_fit" 4 false [r.ent K, fiT K cs t, Dt K (.int 0)] (Dt K .none) := by
  obtain ⟨fd, F0⟩ := (d_need_fit c)
  refine mk_df ["rule", "field", "turns", "sign", "left", "top", "right", "bottom"] (ps := ["rule", "field", "turns"]) (N := fun _ _ _ _ => True) F0 (g_need_fit c) ⟨rfl, rfl, rfl, by decide +kernel, rfl, by decide +kernel, by decide +kernel⟩ (fun _ _ _ _ _ _ us hl => match us, hl with | [_, _, _], _ => rfl) rfl (by simp [noOwns, notOwn]) (fun W X hW k hX => ?_) (fun _ _ _ _ _ _ => dt_of .non)
  obtain ⟨cdv, A, outer, s, H, E, rfl⟩ := hX
  refine srs_set 3 k (ev_call k (ok_strange c r h cs t hc) (ea_cons (ev_var 0) (ea_cons (ev_var 1) ea_nil))) ?_
  refine srs_no (tst_eq (tst_cmp1 op_notN rd_notN (ev_var 3) ev_non) rfl) ?_
  refine srs_no (tst_eq (tst_w (tsw_and (tst_eqS k (ev_meth0 k (ok_F_kind c cs t) (ev_var 1) (hl := rfl)) ev_str) fun _ => tsw_and1 (tst_not (tst_val (ev_meth0 k (ok_R_keeps c r h) (ev_var 0) (hl := rfl)))))) (by rw [hk]; rfl)) ?_
  refine srs_no (tst_eq (tst_w (tsw_and (c2 := false) (tst_eqS k (ev_meth0 k (ok_F_kind c cs t) (ev_var 1) (hl := rfl)) ev_str) fun z => absurd z (by decide))) rfl) ?_
  have ef : frameD cs = .tuple [.int (mnI (xsOf cs)), .int (mnI (ysOf cs)), .int (mxI (xsOf cs)), .int (mxI (ysOf cs))] := by unfold frameD; rw [if_neg hc.ne]
  have hf := ok_F_frame (P := P) (base := base) c cs t (by have := hc.few; omega)
  rw [ef] at hf
  refine srs_yes (tst_eq (tst_w (tsw_and (tst_eqS k (ev_meth0 k (ok_F_kind c cs t) (ev_var 1) (hl := rfl)) ev_str) fun _ => tsw_and1 (tst_cmp1 op_notN rd_notN (ev_meth0 k hf (ev_var 1) (hl := rfl)) ev_non))) rfl) ?_
  refine srs_cons (sr_unp (ev_meth0 k hf (ev_var 1) (hl := rfl)) (tg_dat [.int (mnI (xsOf cs)), .int (mnI (ysOf cs)), .int (mxI (xsOf cs)), .int (mxI (ysOf cs))] k (tgs_cons (tg_name 4 k) (tgs_cons (tg_name 5 k) (tgs_cons (tg_name 6 k) (tgs_cons (tg_name 7 k) tgs_nil)))))) ?_
  have h1 := hc.wide
  have h2 := hc.high
  refine srs_no (tst_eq (tst_cmp1 op_gt rd_gt (ev_add (ev_add (ev_max2 k (n_max c) (ea_cons (ev_sub (ev_var 6) (ev_var 4)) (ea_cons (ev_sub (ev_var 7) (ev_var 5)) ea_nil))) ev_int) (ev_mul ev_int (ev_var 2) (by unfold CMul; decide))) (ev_gint k (i_MOST_FRAME_plain c))) (decide_eq_false (by split <;> omega))) (srs_nil fun _ _ _ _ _ => trivial)
end
end Cs

set_option Elab.async false
set_option linter.all false
set_option autoImplicit false
set_option maxRecDepth 100000
set_option maxHeartbeats 4000000
/-! The beginning; pictures moved. -/
namespace Cs
open PySem PySem.Spec PyProof.Rows L2
def spot3 (z : Cell3) : Spot := (z.1, z.2.1)
def cellsC (l : List Cell3) : Cells := l.map fun z => (spot3 z, z.2.2)
section
variable {P : Program} {w : World} {K : PySem.W.Frag} {mg : Str → Option Value} {base : Heap}
theorem ok_begun (c : Ctx w K mg) (r : Ru) (h : r.Ok) (hk : keepsG r = true) (l : List Cell3) (hn : (l.map spot3).Nodup) (hc : FitC r.m (cellsC l)) : DfOk P w K mg base "begun" 5 false [r.ent K, Dt K (.list (l.map c3D))] (fiT K (cellsC l) 0) := by
  obtain ⟨fd, F0⟩ := (d_begun c)
  refine mk_df ["rule", "cells", "field", "x", "y", "sign"] (ps := ["rule", "cells"]) (N := noA) F0 (g_begun c) ⟨rfl, rfl, rfl, by decide +kernel, rfl, by decide +kernel, by decide +kernel⟩ (fun _ _ _ _ _ _ us hl => match us, hl with | [_, _], _ => rfl) rfl (by simp [noOwns, notOwn]) (fun W X hW k hX => ?_) (fun _ _ _ _ _ z => z.elim)
  obtain ⟨cdv, A, outer, s, H, E, rfl⟩ := hX
  have e : resD (fun _ : Cell3 => true) spot3 (fun z => sgV z.2.2) l = sgs (cellsC l) := by
    rw [resD_nd (by rw [List.filter_eq_self.mpr (fun _ _ => rfl)]; exact hn), List.filter_eq_self.mpr (fun _ _ => rfl)]
    unfold sgs cellsC
    rw [List.map_map]; rfl
  have hl : l.length ≤ 16777000 := by have := hc.few; unfold cellsC at this; rw [List.length_map] at this; omega
  refine srs_set 2 k (ev_meth k (ok_F_remade c [] (cellsC l) 0 0) (ev_endless c k (ea_cons (ev_lst ead_nil) ea_nil)) (ea_cons (ev_frzDe (ev_dc (own := [("x", 3), ("y", 4), ("sign", 5)]) (js := [3] ++ ([4] ++ ([5] ++ []))) l (fun z => dat K (c3D z)) (fun _ => true) spot3 (fun z => sgV z.2.2) k (it_lst l c3D k (ev_var 1)) (blkOk_by (by rfl))
    (fun z _ s0 H C cl fp => tg_dat [.int z.1, .int z.2.1, sgn z.2.2] k.blk (tgs_cons (tg_name 3 k.blk) (tgs_cons (tg_name 4 k.blk) (tgs_cons (tg_name 5 k.blk) tgs_nil)))) (fun z _ s0 H C cl fp => tsts_nil) (fun z _ _ s0 H C cl fp => ev_key (ead_cons (ev_var 3) (ead_cons (ev_var 4) ead_nil))) (fun z _ _ s0 H C cl fp => ev_vl (ev_var 5)) (by decide) hl) e) (ea_cons ev_int ea_nil)) (hl := rfl)) ?_
  refine srs_drop (ev_call k (ok_need_fit c r h hk (cellsC l) 0 hc) (ea_cons (ev_var 0) (ea_cons (ev_var 2) (ea_cons ev_int ea_nil)))) ?_
  exact srs_ret (ev_var 2)
/-! ### moved -/
def mv3 (dx dy : Int) (z : Cell3) : Cell3 := (z.1 + dx, z.2.1 + dy, z.2.2)
theorem ok_moved (c : Ctx w K mg) (l : List Cell3) (dx dy : Int) (hl : l.length ≤ 16777000) : DfOk P w K mg base "moved_cells" 1 false [Dt K (.list (l.map c3D)), Dt K (.int dx), Dt K (.int dy)] (Dt K (.list ((l.map (mv3 dx dy)).map c3D))) := by
  obtain ⟨fd, F0⟩ := (d_moved_cells c)
  refine mk_df ["cells", "dx", "dy", "x", "y", "sign"] (ps := ["cells", "dx", "dy"]) (N := noA) F0 (g_moved_cells c) ⟨rfl, rfl, rfl, by decide +kernel, rfl, by decide +kernel, by decide +kernel⟩ (fun _ _ _ _ _ _ us hl => match us, hl with | [_, _, _], _ => rfl) rfl (by simp [noOwns, notOwn]) (fun W X hW k hX => ?_) (fun _ _ _ _ _ z => z.elim)
  obtain ⟨cdv, A, outer, s, H, E, rfl⟩ := hX
  refine srs_ret (ev_eq (ev_lcm [("x", 3), ("y", 4), ("sign", 5)] l (fun z => dat K (c3D z)) (fun z => c3D (mv3 dx dy z)) k (it_lst l c3D k (ev_var 0)) (fun z _ s0 H C cl fp => tg_dat [.int z.1, .int z.2.1, sgn z.2.2] k.blk (tgs_cons (tg_name 3 k.blk) (tgs_cons (tg_name 4 k.blk) (tgs_cons (tg_name 5 k.blk) tgs_nil)))) (fun z _ s0 H C cl fp => ev_tup (ead_cons (ev_add (ev_var 3) (ev_var 1)) (ead_cons (ev_add (ev_var 4) (ev_var 2)) (ead_cons (ev_var 5) ead_nil)))) hl) ?_)
  rw [List.map_map]; rfl
theorem ok_shift_suits (c : Ctx w K mg) (r : Ru) (n dx dy : Int) : DfOk P w K mg base "shift_suits" 2 false [r.ent K, Dt K (.int n), Dt K (.int dx), Dt K (.int dy)] (Dt K (.bool (if r.so = "halves" then decide ((n + dx + dy) % 2 = 0) else if r.so = "blocks" then decide ((n + dx) % 2 = 0) && decide ((n + dy) % 2 = 0) else true))) := by
  obtain ⟨fd, F0⟩ := (d_shift_suits c)
  refine mk_df ["rule", "turns", "dx", "dy"] (ps := ["rule", "turns", "dx", "dy"]) (N := noA) F0 (g_shift_suits c) ⟨rfl, rfl, rfl, by decide +kernel, rfl, by decide +kernel, by decide +kernel⟩ (fun _ _ _ _ _ _ us hl => match us, hl with | [_, _, _, _], _ => rfl) rfl (by simp [noOwns, notOwn]) (fun W X hW k hX => ?_) (fun _ _ _ _ _ z => z.elim)
  obtain ⟨cdv, A, outer, s, H, E, rfl⟩ := hX
  refine srs_ifR (cv := decide (r.so = "halves")) (tst_eqS k (ev_meth0 k (ok_R_kind c r.so r.m r.near r.rows.D) (ev_var 0) (hl := rfl)) ev_str) (fun z => ?_) fun z => ?_
  · rw [if_pos (of_decide_eq_true z)]
    exact srs_ret (ev_eqI k (ev_mod (ev_add (ev_add (ev_var 1) (ev_var 2)) (ev_var 3)) ev_int (by decide)) ev_int)
  · rw [if_neg (of_decide_eq_false z)]
    refine srs_ifR (cv := decide (r.so = "blocks")) (tst_eqS k (ev_meth0 k (ok_R_kind c r.so r.m r.near r.rows.D) (ev_var 0) (hl := rfl)) ev_str) (fun z => ?_) fun z => ?_
    · rw [if_pos (of_decide_eq_true z)]
      exact srs_ret (ev_and (ev_eqI k (ev_mod (ev_add (ev_var 1) (ev_var 2)) ev_int (by decide)) ev_int) fun _ => ev_one (ev_eqI k (ev_mod (ev_add (ev_var 1) (ev_var 3)) ev_int (by decide)) ev_int))
    · rw [if_neg (of_decide_eq_false z)]
      exact srs_ret ev_bl
end
end Cs

set_option Elab.async false
set_option linter.all false
set_option autoImplicit false
set_option maxRecDepth 100000
set_option maxHeartbeats 4000000
/-! The shift between two pictures. -/
namespace Cs
open PySem PySem.Spec PyProof.Rows L2
theorem c3_inj {a b : Cell3} (h : c3D a = c3D b) : a = b := by
  unfold c3D sgn at h
  simp only [PyData.tuple.injEq, List.cons.injEq, PyData.int.injEq, PyData.str.injEq, and_true] at h
  have h3 := txt_inj h.2.2
  simp only [List.cons.injEq, and_true] at h3
  exact Prod.ext h.1 (Prod.ext h.2.1 h3)
theorem c3_pur (z : Cell3) : pur (c3D z) = true := by simp [c3D, sgn, pur, purs]
theorem c3s_inj : ∀ {l m : List Cell3}, l.map c3D = m.map c3D → l = m
  | [], [], _ => rfl
  | [], _ :: _, h => by simp at h
  | _ :: _, [], h => by simp at h
  | a :: l, b :: m, h => by
    rw [List.map_cons, List.map_cons, List.cons.injEq] at h
    rw [c3_inj h.1, c3s_inj h.2]
theorem c3s_eqv (l m : List Cell3) : PyData.eqv (.list (l.map c3D)) (.list (m.map c3D)) = decide (l = m) := by
  have h := eqv_pur (.list (l.map c3D)) (.list (m.map c3D)) (by rw [pur]; exact pur_map c3_pur) (by rw [pur]; exact pur_map c3_pur)
  cases e : PyData.eqv (.list (l.map c3D)) (.list (m.map c3D)) with
  | true => rw [decide_eq_true (c3s_inj (by simpa using h.mp e))]
  | false => rw [decide_eq_false fun z => by rw [h.mpr (by rw [z])] at e; cases e]
def SgL (l : List Cell3) : Prop := ∀ z ∈ l, z.2.2 ∈ allSigs
theorem sig_lt : ∀ n ∈ allSigs, n < 1114112 := by decide
theorem c3_sh {z : Cell3} (h : z.2.2 ∈ allSigs) : ShD 2 (c3D z) := sh_tup (sh_cons sh_int (sh_cons sh_int (sh_cons (sh_txt fun c hc => by rw [List.mem_singleton] at hc; rw [hc]; exact sig_lt _ h) sh_nil)))
theorem c3s_sh {l : List Cell3} (h : SgL l) : SeqAt.shaped (.list (l.map c3D)) = true := (sh_lst (sh_map fun z hz => c3_sh (h z hz))).sh
theorem SgL.mv {l : List Cell3} (h : SgL l) (dx dy : Int) : SgL (l.map (mv3 dx dy)) := fun z hz => by
  obtain ⟨y, hy, rfl⟩ := List.mem_map.mp hz
  exact h y hy
theorem at0 {α : Type} {a : α} {l : List α} : atI (a :: l) 0 = some a := atI_nat (j := 0) rfl
def shift (a b : List Cell3) : Option (Int × Int) := match a, b with
  | z :: a', y :: b' => if (z :: a').length = (y :: b').length ∧ (z :: a').map (mv3 (y.1 - z.1) (y.2.1 - z.2.1)) = y :: b' then some (y.1 - z.1, y.2.1 - z.2.1) else none
  | _, _ => none
def optD : Option (Int × Int) → PyData
  | none => .none
  | some q => sptD q
section
variable {P : Program} {w : World} {K : PySem.W.Frag} {mg : Str → Option Value} {base : Heap}
theorem ok_shift (c : Ctx w K mg) (a b : List Cell3) (ha : SgL a) (hb : SgL b) (la : a.length ≤ 16777000) : DfOk P w K mg base "shift_between" 2 false [Dt K (.list (a.map c3D)), Dt K (.list (b.map c3D))] (Dt K (optD (shift a b))) := by
  obtain ⟨fd, F0⟩ := (d_shift_between c)
  refine mk_df ["first", "later", "dx", "dy"] (ps := ["first", "later"]) (N := noA) F0 (g_shift_between c) ⟨rfl, rfl, rfl, by decide +kernel, rfl, by decide +kernel, by decide +kernel⟩ (fun _ _ _ _ _ _ us hl => match us, hl with | [_, _], _ => rfl) rfl (by simp [noOwns, notOwn]) (fun W X hW k hX => ?_) (fun _ _ _ _ _ z => z.elim)
  obtain ⟨cdv, A, outer, s, H, E, rfl⟩ := hX
  have hE : PyData.eqv (.list (a.map c3D)) (.list []) = decide (a = []) := c3s_eqv a []
  refine srs_ifR (cv := decide (a = []) || !decide ((a.length : Int) = b.length)) (tst_eq (tst_w (tsw_or (tst_eqD k (c3s_sh ha) (by decide +kernel) (ev_var 0) (ev_lst ead_nil)) fun _ => tsw_or1 (tst_neI k (ev_lenL k (n_len c) (ea_cons (ev_var 0) ea_nil)) (ev_lenL k (n_len c) (ea_cons (ev_var 1) ea_nil))))) (by rw [hE, List.length_map, List.length_map])) (fun z => srs_ret (ev_eq ev_non ?_)) fun z => ?_
  · cases a with
    | nil => rfl
    | cons x a =>
      cases b with
      | nil => rfl
      | cons y b =>
        show _ = optD (if _ then _ else none)
        rw [if_neg ?_]
        · rfl
        · intro q
          have h1 := q.1
          rw [decide_eq_true (show ((x :: a).length : Int) = ((y :: b).length : Nat) by omega)] at z
          simp at z
  · cases a with
    | nil => simp at z
    | cons x a =>
      cases b with
      | nil => simp at z; omega
      | cons y b =>
        have hlen : (x :: a).length = (y :: b).length := by
          simp only [Bool.or_eq_false_iff, Bool.not_eq_false', decide_eq_true_eq] at z
          omega
        refine srs_cons (sr_par 2 3 k (ea_cons (ev_sub (ev_ixT (ds := [.int y.1, .int y.2.1, sgn y.2.2]) (d := .int y.1) k (ev_ixL (d := c3D y) k (ev_var 1) ev_int at0) ev_int rfl) (ev_ixT (ds := [.int x.1, .int x.2.1, sgn x.2.2]) (d := .int x.1) k (ev_ixL (d := c3D x) k (ev_var 0) ev_int at0) ev_int rfl)) (ea_cons (ev_sub (ev_ixT (ds := [.int y.1, .int y.2.1, sgn y.2.2]) (d := .int y.2.1) k (ev_ixL (d := c3D y) k (ev_var 1) ev_int at0) ev_int rfl) (ev_ixT (ds := [.int x.1, .int x.2.1, sgn x.2.2]) (d := .int x.2.1) k (ev_ixL (d := c3D x) k (ev_var 0) ev_int at0) ev_int rfl)) ea_nil))) ?_
        refine srs_ifR (cv := !decide ((x :: a).map (mv3 (y.1 - x.1) (y.2.1 - x.2.1)) = y :: b)) (tst_eq (tst_neD k (c3s_sh (ha.mv _ _)) (c3s_sh hb) (ev_call k (ok_moved c (x :: a) (y.1 - x.1) (y.2.1 - x.2.1) la) (ea_cons (ev_var 0) (ea_cons (ev_var 2) (ea_cons (ev_var 3) ea_nil)))) (ev_var 1)) (by rw [c3s_eqv])) (fun z2 => srs_ret (ev_eq ev_non ?_)) fun z2 => srs_ret (ev_eq (ev_tup (ead_cons (ev_var 2) (ead_cons (ev_var 3) ead_nil))) ?_)
        · have hne : ¬ (x :: a).map (mv3 (y.1 - x.1) (y.2.1 - x.2.1)) = y :: b := by
            intro q
            rw [decide_eq_true q] at z2
            cases z2
          show _ = optD (if _ then _ else none)
          rw [if_neg fun q => hne q.2]
          rfl
        · have heq : (x :: a).map (mv3 (y.1 - x.1) (y.2.1 - x.2.1)) = y :: b := by
            rw [Bool.not_eq_false', decide_eq_true_eq] at z2
            exact z2
          show _ = optD (if _ then _ else none)
          rw [if_pos ⟨hlen, heq⟩]
          rfl
end
end Cs

set_option Elab.async false
set_option linter.all false
set_option autoImplicit false
set_option maxRecDepth 100000
set_option maxHeartbeats 4000000
/-! Words and papers. -/
namespace Cs
open PySem PySem.Spec PyProof.Rows L2
def picD (l : List Cell3) : PyData := .list (l.map c3D)
def wordOf (seen : List (List Cell3)) (dx dy : Int) : Str := if (dx, dy) ≠ ((0, 0) : Int × Int) then "moving" else if (seen.all fun l => decide (l = seen.headD [])) then "still" else "turning"
section
variable {P : Program} {w : World} {K : PySem.W.Frag} {mg : Str → Option Value} {base : Heap}
theorem ok_word (c : Ctx w K mg) (x : List Cell3) (seen : List (List Cell3)) (hs : ∀ l ∈ x :: seen, SgL l) (hl : seen.length ≤ 1000) (dx dy : Int) : DfOk P w K mg base "word_of" 1 false [Dt K (.list ((x :: seen).map picD)), Dt K (.int dx), Dt K (.int dy)] (Dt K (.str (wordOf (x :: seen) dx dy))) := by
  obtain ⟨fd, F0⟩ := (d_word_of c)
  refine mk_df ["seen", "dx", "dy", "cells"] (ps := ["seen", "dx", "dy"]) (N := noA) F0 (g_word_of c) ⟨rfl, rfl, rfl, by decide +kernel, rfl, by decide +kernel, by decide +kernel⟩ (fun _ _ _ _ _ _ us hl => match us, hl with | [_, _, _], _ => rfl) rfl (by simp [noOwns, notOwn]) (fun W X hW k hX => ?_) (fun _ _ _ _ _ z => z.elim)
  obtain ⟨cdv, A, outer, s, H, E, rfl⟩ := hX
  refine srs_ifR (cv := !decide ((dx, dy) = ((0, 0) : Int × Int))) (tst_eq (tst_neD k (spt_sh (dx, dy)).sh (spt_sh (0, 0)).sh (ev_tup (ead_cons (ev_var 1) (ead_cons (ev_var 2) ead_nil))) (ev_tup (ead_cons ev_int (ead_cons ev_int ead_nil)))) (by rw [spt_eqv])) (fun z => srs_ret (ev_eq ev_str ?_)) fun z => ?_
  · have hne : ¬ (dx, dy) = ((0, 0) : Int × Int) := fun q => by rw [decide_eq_true q] at z; cases z
    unfold wordOf
    rw [if_pos hne]
  · have heq : (dx, dy) = ((0, 0) : Int × Int) := by
      rw [Bool.not_eq_false', decide_eq_true_eq] at z
      exact z
    refine srs_ifR (cv := (x :: seen).all fun l => decide (l = x)) (tst_val (ev_allL (x :: seen) (fun l => decide (l = x)) k (n_all c) (ev_lcm [("cells", 3)] (x :: seen) (fun l => dat K (picD l)) (fun l => .bool (decide (l = x))) k (it_lst (x :: seen) picD k (ev_var 0)) (fun l _ s0 H C cl fp => tg_name 3 k.blk)
      (fun l hl s0 H C cl fp => ev_eq (ev_eqD (d1 := picD l) (d2 := picD x) k.blk (c3s_sh (hs l hl)) (c3s_sh (hs x (List.mem_cons_self ..))) (ev_var 3) (ev_ixL k.blk (ev_var 0) ev_int at0)) (by rw [picD, picD, c3s_eqv])) (by rw [List.length_cons]; omega)))) (fun z2 => srs_ret (ev_eq ev_str ?_)) fun z2 => srs_ret (ev_eq ev_str ?_)
    · unfold wordOf
      rw [if_neg (by rw [heq]; simp)]
      show _ = PyData.str (if ((x :: seen).all fun l => decide (l = x)) = true then _ else _)
      rw [if_pos z2]
    · unfold wordOf
      rw [if_neg (by rw [heq]; simp)]
      show _ = PyData.str (if ((x :: seen).all fun l => decide (l = x)) = true then _ else _)
      rw [if_neg (by rw [z2]; decide)]
end
end Cs

set_option Elab.async false
set_option linter.all false
set_option autoImplicit false
set_option maxRecDepth 100000
set_option maxHeartbeats 4000000
/-! A paper. -/
namespace Cs
open PySem PySem.Spec PyProof.Rows L2
theorem ev_neg {K : PySem.W.Frag} {X : Cx} {W : Option Addr} {Γ : En} {a : Expr} {pos : Pos} {i : Int} (h : Ev X K W Γ a (Dt K (.int i))) : Ev X K W Γ (.UnaryOp .USub a pos) (Dt K (.int (-i))) :=
  peI (pe_un un_neg h) fun σ H Q ⟨H0, G, f, en, k⟩ => ⟨H0, G, f, en, fun v H1 G1 s1 q1 => ⟨i, dt_int q1, k _ H1 G1 s1 (dt_of (.int _))⟩⟩
def suits (so : Str) (n dx dy : Int) : Bool := if so = "halves" then decide ((n + dx + dy) % 2 = 0) else if so = "blocks" then decide ((n + dx) % 2 = 0) && decide ((n + dy) % 2 = 0) else true
def paperD (w : Str) (n dx dy : Int) : PyData := .tuple [.str w, .int n, .int dx, .int dy]
def paperBy (so : Str) (seen : List (List Cell3)) : PyData := match shift (seen.headD []) (seen.getLastD []) with
  | none => .none
  | some q => if suits so ((seen.length : Int) - 1) q.1 q.2 then paperD (wordOf seen q.1 q.2) ((seen.length : Int) - 1) q.1 q.2 else .none
theorem at_last {α : Type} {a : α} {l : List α} : atI (a :: l) (-1) = some ((a :: l).getLastD a) := by
  have h : a :: l = (a :: l).dropLast ++ [(a :: l).getLast (by simp)] := (List.dropLast_concat_getLast (by simp)).symm
  have e : (a :: l).getLastD a = (a :: l).getLast (by simp) := by simp [List.getLastD_eq_getLast?, List.getLast?_eq_some_getLast]
  rw [e]
  conv => lhs; rw [h]
  exact atI_last _ _
section
variable {P : Program} {w : World} {K : PySem.W.Frag} {mg : Str → Option Value} {base : Heap}
theorem ok_paper_by (c : Ctx w K mg) (r : Ru) (x : List Cell3) (seen : List (List Cell3)) (hs : ∀ l ∈ x :: seen, SgL l) (hl : seen.length ≤ 1000) (lx : x.length ≤ 16777000) : DfOk P w K mg base "paper_by" 3 false [r.ent K, Dt K (.list ((x :: seen).map picD))] (Dt K (paperBy r.so (x :: seen))) := by
  obtain ⟨fd, F0⟩ := (d_paper_by c)
  refine mk_df ["rule", "seen", "turns", "shift", "dx", "dy"] (ps := ["rule", "seen"]) (N := noA) F0 (g_paper_by c) ⟨rfl, rfl, rfl, by decide +kernel, rfl, by decide +kernel, by decide +kernel⟩ (fun _ _ _ _ _ _ us hl => match us, hl with | [_, _], _ => rfl) rfl (by simp [noOwns, notOwn]) (fun W X hW k hX => ?_) (fun _ _ _ _ _ z => z.elim)
  obtain ⟨cdv, A, outer, s, H, E, rfl⟩ := hX
  have hlast : (x :: seen).getLastD x ∈ x :: seen := by
    rw [List.getLastD_eq_getLast?, List.getLast?_eq_some_getLast (by simp)]
    exact List.getLast_mem _
  have el : atI ((x :: seen).map picD) (-1) = some (picD ((x :: seen).getLastD x)) := by
    have := @at_last PyData (picD x) (seen.map picD)
    rw [List.map_cons, this, List.getLastD_eq_getLast?, List.getLastD_eq_getLast?, ← List.map_cons, List.getLast?_map, List.getLast?_eq_some_getLast (by simp)]
    rfl
  refine srs_set 2 k (ev_sub (ev_lenL k (n_len c) (ea_cons (ev_var 1) ea_nil)) ev_int) ?_
  rw [List.length_map]
  refine srs_set 3 k (ev_call k (ok_shift c x ((x :: seen).getLastD x) (hs x (List.mem_cons_self ..)) (hs _ hlast) lx) (ea_cons (ev_ixL (d := picD x) k (ev_var 1) ev_int at0) (ea_cons (ev_ixL (d := picD ((x :: seen).getLastD x)) k (ev_var 1) (ev_neg ev_int) el) ea_nil))) ?_
  have eg : (x :: seen).getLastD [] = (x :: seen).getLastD x := by rw [List.getLastD_eq_getLast?, List.getLastD_eq_getLast?, List.getLast?_eq_some_getLast (by simp)]; rfl
  have ep : paperBy r.so (x :: seen) = match shift x ((x :: seen).getLastD x) with
      | none => .none
      | some q => if suits r.so (((x :: seen).length : Int) - 1) q.1 q.2 then paperD (wordOf (x :: seen) q.1 q.2) (((x :: seen).length : Int) - 1) q.1 q.2 else .none := by unfold paperBy; rw [eg]; rfl
  rw [ep]
  cases hsh : shift x ((x :: seen).getLastD x) with
  | none =>
    exact srs_ifR (cv := true) (tst_eq (tst_cmp1 op_isN rd_isN (ev_var 3) ev_non) rfl) (fun _ => srs_ret ev_non) fun z => nomatch z
  | some q =>
    refine srs_no (tst_eq (tst_cmp1 op_isN rd_isN (ev_var 3) ev_non) rfl) ?_
    refine srs_cons (sr_unp (ev_var 3) (tg_dat [.int q.1, .int q.2] k (tgs_cons (tg_name 4 k) (tgs_cons (tg_name 5 k) tgs_nil)))) ?_
    refine srs_ifR (cv := !suits r.so (((x :: seen).length : Int) - 1) q.1 q.2) (tst_not (tst_val (ev_call k (ok_shift_suits c r _ q.1 q.2) (ea_cons (ev_var 0) (ea_cons (ev_var 2) (ea_cons (ev_var 4) (ea_cons (ev_var 5) ea_nil))))))) (fun z => srs_ret (ev_eq ev_non ?_)) fun z => srs_ret (ev_eq (ev_tup (ead_cons (ev_call k (ok_word c x seen hs hl q.1 q.2) (ea_cons (ev_var 1) (ea_cons (ev_var 4) (ea_cons (ev_var 5) ea_nil)))) (ead_cons (ev_var 2) (ead_cons (ev_var 4) (ead_cons (ev_var 5) ead_nil))))) ?_)
    · rw [Bool.not_eq_true'] at z
      show _ = if _ then _ else _
      rw [if_neg (by rw [z]; decide)]
    · rw [Bool.not_eq_false'] at z
      show _ = if _ then _ else _
      rw [if_pos z]
      rfl
end
end Cs

set_option Elab.async false
set_option linter.all false
set_option autoImplicit false
set_option maxRecDepth 100000
set_option maxHeartbeats 4000000
/-! Rows of a text. -/
namespace Cs
open PySem PySem.Spec PyProof.Rows L2
def rowsD (rows : List (List Nat)) : PyData := .tuple (rows.map fun r => .str (txt r))
def begB (rows : List (List Nat)) : Bool := (rows.headD []).any (fun n => !decide (n = 46)) && rows.any fun r => !decide (r.headD 0 = 46)
section
variable {P : Program} {w : World} {K : PySem.W.Frag} {mg : Str → Option Value} {base : Heap}
theorem ok_begins (c : Ctx w K mg) (x : List Nat) (rows : List (List Nat)) (hr : rows.length ≤ 1000) (hx : ∀ r ∈ x :: rows, r ≠ [] ∧ r.length ≤ 1000) : DfOk P w K mg base "begins" 1 false [Dt K (rowsD (x :: rows))] (Dt K (.bool (begB (x :: rows)))) := by
  obtain ⟨fd, F0⟩ := (d_begins c)
  refine mk_df ["rows", "sign", "row"] (ps := ["rows"]) (N := noA) F0 (g_begins c) ⟨rfl, rfl, rfl, by decide +kernel, rfl, by decide +kernel, by decide +kernel⟩ (fun _ _ _ _ _ _ us hl => match us, hl with | [_], _ => rfl) rfl (by simp [noOwns, notOwn]) (fun W X hW k hX => ?_) (fun _ _ _ _ _ z => z.elim)
  obtain ⟨cdv, A, outer, s, H, E, rfl⟩ := hX
  refine srs_ret (ev_and (ev_anyL x (fun n => !decide (n = 46)) k (n_any c) (ev_lcm [("sign", 1)] x (fun n => dat K (sgn n)) (fun n => .bool (!decide (n = 46))) k (it_str (ev_ixT (ds := (x :: rows).map fun r => .str (txt r)) (d := .str (txt x)) k (ev_var 0) ev_int at0)) (fun n _ s0 H C cl fp => tg_name 1 k.blk) (fun n _ s0 H C cl fp => ev_eq (ev_neX (l := [n]) (m := [46]) k.blk (ev_var 1) (ev_gtxt [46] k.blk (s_GROUND_search c))) (by simp)) (by have := (hx x (List.mem_cons_self ..)).2; omega)))
    fun _ => ev_one (ev_anyL (x :: rows) (fun r => !decide (r.headD 0 = 46)) k (n_any c) (ev_lcm [("row", 2)] (x :: rows) (fun r => dat K (.str (txt r))) (fun r => .bool (!decide (r.headD 0 = 46))) k (it_tup (x :: rows) (fun r => .str (txt r)) k (ev_var 0)) (fun r _ s0 H C cl fp => tg_name 2 k.blk) (fun r hr s0 H C cl fp => ev_eq (ev_neX (l := [r.headD 0]) (m := [46]) k.blk (ev_ixS (l := r) (n := r.headD 0) (ev_var 2) ev_int ?_ (by have := (hx r hr).2; omega)) (ev_gtxt [46] k.blk (s_GROUND_search c))) (by simp)) (by rw [List.length_cons]; omega))))
  have := (hx r hr).1
  cases r with
  | nil => exact absurd rfl this
  | cons a r => exact at0
end
end Cs

set_option Elab.async false
set_option linter.all false
set_option autoImplicit false
set_option maxRecDepth 100000
set_option maxHeartbeats 4000000
/-! All texts. -/
namespace Cs
open PySem PySem.Spec PyProof.Rows L2
def texts (sg : List Nat) : Nat → List (List Nat)
  | 0 => [[]]
  | n + 1 => (texts sg n).flatMap fun t => sg.map fun s => t ++ [s]
theorem texts_count (sg : List Nat) (n : Nat) : (texts sg n).length = sg.length ^ n := by
  induction n with
  | zero => rfl
  | succ n ih =>
    unfold texts
    rw [List.length_flatMap, Nat.pow_succ, ← ih]
    induction texts sg n with
    | nil => simp
    | cons a l ih2 => rw [List.map_cons, List.sum_cons, ih2, List.length_map, List.length_cons, Nat.succ_mul]; omega
theorem texts_len {sg : List Nat} : ∀ {n : Nat} {t : List Nat}, t ∈ texts sg n → t.length = n
  | 0, t, h => by
    have : t = [] := by simpa [texts] using h
    rw [this]; rfl
  | n + 1, t, h => by
    obtain ⟨u, hu, h2⟩ := List.mem_flatMap.mp h
    obtain ⟨s, _, rfl⟩ := List.mem_map.mp h2
    rw [List.length_append, texts_len hu]; rfl
section
variable {P : Program} {w : World} {K : PySem.W.Frag} {mg : Str → Option Value} {base : Heap}
theorem ok_texts_of (c : Ctx w K mg) (sg : List Nat) (n : Nat) (hn : n ≤ 1000) (hz : ∀ k, k < n → (texts sg k).length * sg.length ≤ 16777000) : DfOk P w K mg base "texts_of" 1 false [Dt K (.str (txt sg)), Dt K (.int n)] (Dt K (.list ((texts sg n).map fun t => .str (txt t)))) := by
  obtain ⟨fd, F0⟩ := (d_texts_of c)
  refine mk_df ["signs", "many", "found", "k", "text", "sign"] (ps := ["signs", "many"]) (N := noA) F0 (g_texts_of c) ⟨rfl, rfl, rfl, by decide +kernel, rfl, by decide +kernel, by decide +kernel⟩ (fun _ _ _ _ _ _ us hl => match us, hl with | [_, _], _ => rfl) rfl (by simp [noOwns, notOwn]) (fun W X hW k hX => ?_) (fun _ _ _ _ _ z => z.elim)
  obtain ⟨cdv, A, outer, s, H, E, rfl⟩ := hX
  refine srs_set 2 k (ev_lst (ead_cons (ev_txt []) ead_nil)) ?_
  let J : List Nat → En := fun pre => [some (Dt K (.str (txt sg))), some (Dt K (.int n)), some (Dt K (.list ((texts sg pre.length).map fun t => .str (txt t)))), none, none, none]
  refine srs_cons (M := envA W (J (List.range n))) (sr_for (List.range n) (fun i => dat K (.int (i : Nat))) J (fun pre i => (J pre).set 3 (some (Dt K (.int (i : Nat))))) k (it_range1 k (n_range c) (ea_cons (ev_var 1) ea_nil)) (Sub.refl _) (fun pre i post _ => tg_name 3 k) (fun pre i post e => ?_) (fun _ _ _ _ z => z)) ?_
  · have hp : pre.length < n := by
      have := congrArg List.length e
      rw [List.length_range, List.length_append, List.length_cons] at this
      omega
    refine srs_cons (sr_setLc2 2 (own := [("text", 4), ("sign", 5)]) (vs1 := [5]) (js := [4]) (js1 := [5]) (texts sg pre.length) sg (fun t => dat K (.str (txt t))) (fun s => dat K (sgn s)) (fun t s => .str (txt (t ++ [s]))) k (it_lst _ (fun t => .str (txt t)) k (ev_var 2)) (blkOk_by (by rfl)) (by decide)
      (fun t _ s0 H C cl fp => tg_name 4 k.blk) (fun t _ s0 H C cl fp => it_str (ev_var 0)) (fun t _ s _ s0 H C cl fp => tg_name 5 k.blk) (fun t ht s _ s0 H C cl fp => ev_addS (ev_var 4) (ev_var 5) (by have := texts_len ht; simp; omega)) (by decide) (by decide) (fun t _ => by intro j o z; rcases j with _ | _ | _ | _ | _ | _ | j <;> cases z) (hz _ hp)) ?_
    refine srs_stillL 2 (ds := (texts sg (pre.length + 1)).map fun t => .str (txt t)) ?_ ?_
    · refine srs_nil fun _ _ _ _ z => z.sub ⟨.inr rfl, .inr rfl, .inr (by rw [List.length_append]; rfl), .inl rfl, .inr rfl, .inr rfl, trivial⟩
    · show some (some (Ent.own (lstO K ((texts sg pre.length).flatMap fun t => sg.map fun s => .str (txt (t ++ [s])))))) = some (some (Ent.own (lstO K (((texts sg pre.length).flatMap fun t => sg.map fun s => t ++ [s]).map fun t => .str (txt t)))))
      rw [List.map_flatMap]
      simp only [List.map_map]
      rfl
  · refine srs_ret (ev_eq (ev_var 2) ?_)
    rw [List.length_range]
end
end Cs

set_option Elab.async false
set_option linter.all false
set_option autoImplicit false
set_option maxRecDepth 100000
set_option maxHeartbeats 4000000
/-! The rows of a text. -/
namespace Cs
open PySem PySem.Spec PyProof.Rows L2
section
variable {P : Program} {w : World} {K : PySem.W.Frag} {mg : Str → Option Value} {base : Heap} {k : Nat} {X : Cx} {W : Option Addr} {Γ : En} {pos p : Pos} {a b d tg : Expr}
theorem gives_rngC {G1 : Hp} {lo c : Int} {n : Nat} : Gives K W G1 (Itc lo c n) ((List.range n).map fun i => dat K (.int (lo + (i : Nat) * c))) where
  goes := fun i H' G' lt f s => by show i < n; simpa using lt
  stops := fun H' G' f s => by show n ≤ _; simp
  yields := fun i H' G' v H2 lt f s y => by
    obtain ⟨rfl, rfl⟩ := y
    refine ⟨G', Step.refl f, dat K (.int (lo + (i : Nat) * c)), ?_, up_dat (.int _)⟩
    have lt' : i < n := by simpa using lt
    simp [lt']
theorem it_range3 {lo hi st : Int} {n : Nat} (c : Cok P w K mg base k X) (hm : mg "range" = none) (ha : Ea X K W Γ [a, b, d] [Dt K (.int lo), Dt K (.int hi), Dt K (.int st)]) (hr : RgC lo hi st n) (hg : Gl X "range" := by rfl)
    (hs : starEach [a, b, d] X.env = (false, eval a X.env) :: starEach [b, d] X.env := by rfl) (hpl : (backTo pos (starEach [b, d] X.env)).any (·.1) = false := by rfl) : PI X tg (.Call (.Name "range" p) [a, b, d] [] pos) (cI K W Γ ((List.range n).map fun i => dat K (.int (lo + (i : Nat) * st)))) :=
  piI (pi_range3 hg (by rw [c.hmg]; exact hm) ha hs hpl) fun σ H R ⟨H0, G, f, en, q⟩ => ⟨H0, G, f, en, fun vs H1 G1 s1 q1 => by
    match vs, q1 with
    | [v, u, z], q1 => exact ⟨lo, hi, st, n, by rw [dt_int q1.1, dt_int q1.2.1, dt_int q1.2.2.1], hr, q _ H1 G1 s1 gives_rngC⟩
    | [], q1 => exact q1.elim
    | [_], q1 => exact q1.2.elim
    | [_, _], q1 => exact q1.2.2.elim
    | _ :: _ :: _ :: _ :: _, q1 => exact q1.2.2.2.elim⟩
end
theorem rgC_up {wd h : Nat} (h0 : 0 < wd) (hw : wd ≤ 1000) (hh : h ≤ 1000) : RgC 0 ((wd * h : Nat) : Int) wd h := by
  have hm : wd * h ≤ 1000 * 1000 := Nat.mul_le_mul hw hh
  have e : Builtin.Range.rangeSize 0 ((wd * h : Nat) : Int) wd = h := by
    rw [PyProof.Rows.rangeSize_pos (by omega) (by omega)]
    have e1 : ((wd * h : Nat) : Int) + (wd : Int) - 1 = ((wd : Int) - 1) + (wd : Int) * h := by rw [Int.natCast_mul]; omega
    rw [e1, Int.add_mul_ediv_left _ _ (by omega), Int.ediv_eq_zero_of_lt (by omega) (by omega), Int.zero_add]
  refine ⟨by omega, by omega, ?_, e⟩
  unfold Builtin.Range.small
  rw [e]
  simp only [Builtin.Range.rangeFitsLong, Bool.and_eq_true, Bool.or_eq_true, decide_eq_true_eq, beq_iff_eq]
  have h5 : ((wd * h : Nat) : Int) ≤ 1000000 := by omega
  have h6 : 0 ≤ ((wd * h : Nat) : Int) := Int.natCast_nonneg _
  generalize ((wd * h : Nat) : Int) = z at h5 h6 ⊢
  refine ⟨by omega, .inr ?_⟩
  rw [if_pos (by omega), Bool.and_eq_true, decide_eq_true_eq, decide_eq_true_eq]
  omega
end Cs

set_option Elab.async false
set_option linter.all false
set_option autoImplicit false
set_option maxRecDepth 100000
set_option maxHeartbeats 4000000
/-! The rows of a text. -/
namespace Cs
open PySem PySem.Spec PyProof.Rows L2
def rowsOf (l : List Nat) (wd h : Nat) : List (List Nat) := (List.range h).map fun i => (l.drop (i * wd)).take wd
theorem cut_mid {α : Type} (l : List α) (a b : Nat) (h : a + b ≤ l.length) : cut l (some (a : Int)) (some ((a : Int) + b)) = (l.drop a).take b := by
  unfold cut
  have e : (a : Int) + b = ((a + b : Nat) : Int) := by omega
  rw [e, HT.sIx_nat, HT.sIx_nat, Nat.min_eq_left (show a ≤ l.length by omega), Nat.min_eq_left h]
  congr 1
  omega
section
variable {P : Program} {w : World} {K : PySem.W.Frag} {mg : Str → Option Value} {base : Heap}
theorem ok_rows_of (c : Ctx w K mg) (l : List Nat) (wd h : Nat) (h0 : 0 < wd) (hw : wd ≤ 1000) (hh : h ≤ 1000) (hl : l.length = wd * h) : DfOk P w K mg base "rows_of" 1 false [Dt K (.str (txt l)), Dt K (.int wd)] (Dt K (rowsD (rowsOf l wd h))) := by
  obtain ⟨fd, F0⟩ := (d_rows_of c)
  refine mk_df ["text", "wide", "at"] (ps := ["text", "wide"]) (N := noA) F0 (g_rows_of c) ⟨rfl, rfl, rfl, by decide +kernel, rfl, by decide +kernel, by decide +kernel⟩ (fun _ _ _ _ _ _ us hl => match us, hl with | [_, _], _ => rfl) rfl (by simp [noOwns, notOwn]) (fun W X hW k hX => ?_) (fun _ _ _ _ _ z => z.elim)
  obtain ⟨cdv, A, outer, s, H, E, rfl⟩ := hX
  have hm : wd * h ≤ 1000 * 1000 := Nat.mul_le_mul hw hh
  refine srs_ret (ev_eq (ev_tupleL k (n_tuple c) (ea_cons (ev_lcm [("at", 2)] (List.range h) (fun i => dat K (.int (0 + (i : Nat) * (wd : Int)))) (fun i => .str (txt ((l.drop (i * wd)).take wd))) k (it_range3 k (n_range c) (ea_cons ev_int (ea_cons (ev_eq (ev_lenS k (n_len c) (ea_cons (ev_var 0) ea_nil) (by omega)) (by rw [hl])) (ea_cons (ev_var 1) ea_nil))) (rgC_up h0 hw hh)) (fun i _ s0 H C cl fp => tg_name 2 k.blk)
    (fun i hi s0 H C cl fp => ev_eq (ev_slS (ev_var 0) (op_some (ev_var 2)) (op_some (ev_add (ev_var 2) (ev_var 1))) (by omega)) ?_) (by rw [List.length_range]; omega)) ea_nil)) ?_)
  · have hi2 := List.mem_range.mp hi
    have e : (0 : Int) + (i : Nat) * (wd : Int) = ((i * wd : Nat) : Int) := by rw [Int.natCast_mul]; omega
    have hb : i * wd + wd ≤ l.length := by
      rw [hl, ← Nat.succ_mul, Nat.mul_comm wd h]
      exact Nat.mul_le_mul_right _ hi2
    rw [e, cut_mid l _ _ hb]
  · unfold rowsD rowsOf
    rw [List.map_map]; rfl
end
end Cs

set_option Elab.async false
set_option linter.all false
set_option autoImplicit false
set_option maxRecDepth 100000
set_option maxHeartbeats 4000000
/-! [f x y for x in xs for y in ys x if p x y]. -/
namespace Cs
open PySem PySem.Spec PyProof.Rows L2
section
variable {P : Program} {w : World} {K : PySem.W.Frag} {mg : Str → Option Value} {base : Heap} {k : Nat} {X : Cx} {W : Option Addr} {Γ : En} {pos spos : Pos} {elt tg iter tg1 iter1 : Expr} {scope : Scope} {own : List (Str × Nat)} {α β : Type} {js js1 : List Nat} {B C : As} {R : Ent} {vs1 : List Nat}
theorem lc2_runS {xs : List α} {ys : α → List β} {enc : α → T} {enc1 : β → T} {Jt : α → En} {Jt1 : α → β → En} {p : α → β → Bool} {f : α → β → PyData} {mx : Nat} (js2 : ∀ j ∈ js, j ∈ own.map (·.2)) (js3 : ∀ j ∈ js1, j ∈ vs1) (hno : ∀ y ∈ xs, noOwnE (Jt y)) (hm : ∀ y ∈ xs, (ys y).length ≤ mx) (hz : xs.length * mx ≤ 16777000) {σ : L2.St} {H : Hp} {Q : VK}
    (h : cE K W Γ (.own (lstO K (xs.flatMap fun x => ((ys x).filter (p x)).map (f x)))) σ H Q) :
    tLc2 (cI K W Γ (xs.map enc)) (fun v σ H Q => ∃ y : α, y ∈ xs ∧ cG K W (wipeE Γ (own.map (·.2))) (enc y) (Jt y) js v σ H Q) (fun σ H Q => ∃ y : α, y ∈ xs ∧ cT K W (Jt y) (fun b => b = true) σ H Q)
      (fun σ H R => ∃ y : α, y ∈ xs ∧ cI K W (Jt y) ((ys y).map enc1) σ H R) (fun v σ H Q => ∃ z : α × β, (z.1 ∈ xs ∧ z.2 ∈ ys z.1) ∧ cG K W (wipeE (Jt z.1) vs1) (enc1 z.2) (Jt1 z.1 z.2) js1 v σ H Q) (fun σ H Q => ∃ z : α × β, (z.1 ∈ xs ∧ z.2 ∈ ys z.1) ∧ cT K W (Jt1 z.1 z.2) (fun b => b = p z.1 z.2) σ H Q)
      (fun σ H Q => ∃ z : α × β, ((z.1 ∈ xs ∧ z.2 ∈ ys z.1) ∧ p z.1 z.2 = true) ∧ cE K W (Jt1 z.1 z.2) (Dt K (f z.1 z.2)) σ H Q) (own.map (·.2)) vs1 σ H Q := by
  obtain ⟨H0, G, fr, en, kk⟩ := h
  refine ⟨H0, G, fr, en, fun It H1 G1 s1 gv D hD => ?_⟩
  have nD : W ≠ some D := s1.frm.neB hD
  have freeD : ∀ {G' G'' H' H'' : Hp}, Step K W G' H' G'' H'' → G' D = none → (∃ o, H' D = some (.lst o)) → G'' D = none := fun {G' G'' H' H''} s g ⟨o, e⟩ => by
    cases q : G'' D with
    | none => rfl
    | some u =>
      rcases s.new D u g q with z | ⟨xs, z⟩
      · rw [e] at z
        cases z
      · rw [e] at z
        cases z
  let res : Nat → List PyData := fun i => (xs.take i).flatMap fun x => ((ys x).filter (p x)).map (f x)
  let Pw : Nat → Hp → Prop := fun i H' => ∃ G' vs, Step K W G1 H1 G' H' ∧ G' D = none ∧ H' D = some (.lst vs) ∧ DpAll K G' vs (res i)
  have len : ∀ l : List α, (∀ y ∈ l, y ∈ xs) → (l.flatMap fun x => ((ys x).filter (p x)).map (f x)).length ≤ l.length * mx := fun l => by
    induction l with
    | nil => intro _; simp
    | cons x r ih =>
      intro hl
      have h1 := ih fun y hy => hl y (List.mem_cons_of_mem _ hy)
      have h2 : ((ys x).filter (p x)).length ≤ mx := Nat.le_trans (List.length_filter_le _ _) (hm x (hl x (List.mem_cons_self ..)))
      rw [List.flatMap_cons, List.length_append, List.length_map, List.length_cons, Nat.succ_mul]
      omega
  refine ⟨fun i m H' => m = xs.length - i ∧ i ≤ xs.length ∧ Pw i H', ⟨xs.length, by simp, Nat.zero_le _, G1, [], Step.mine s1.frm hD, s1.frm.free hD, upd_same, .nil⟩, ?_⟩
  rintro i m H' ⟨rfl, hi, G', vs, s, gD, eD, rD⟩
  by_cases lt : i < xs.length
  · refine .inr ⟨gv.goes i H' G' (by rw [List.length_map]; exact lt) s.frm s.gro, Pw (i + 1), fun H2 p' => ⟨xs.length - (i + 1), by omega, rfl, lt, p'⟩, fun v H2 y => ?_⟩
    obtain ⟨G2, s2, t, e, q⟩ := gv.yields i H' G' v H2 (by rw [List.length_map]; exact lt) s.frm s.gro y
    rw [List.getElem?_map, List.getElem?_eq_getElem lt] at e
    cases e
    have my : xs[i] ∈ xs := List.getElem_mem lt
    obtain ⟨e1, e2⟩ := split_at (List.getElem?_eq_getElem lt)
    have hres : res (i + 1) = res i ++ ((ys xs[i]).filter (p xs[i])).map (f xs[i]) := by
      show (xs.take (i + 1)).flatMap _ = _
      rw [e2, List.flatMap_append, List.flatMap_cons, List.flatMap_nil, List.append_nil]
    refine ⟨xs[i], my, H0, G2, s2.frm, ((en.step s1).step (s.trans s2)).wipe _, q, fun σ2 en2 on2 => ⟨?_, xs[i], my, H0, G2, s2.frm, en2, fun b H3 G3 s3 hb => ?_⟩⟩
    · rw [on2.wipe js2, wipe_wipe]
    · subst hb
      have eD3 : ∃ o, H' D = some (.lst o) := ⟨_, eD⟩
      have s23 := s2.trans s3
      refine iteT ⟨xs[i], my, H0, G3, s3.frm, en2.step s3, fun J1 H4 G4 s4 gv1 => ?_⟩
      have s24 := s23.trans s4
      have gD4 := freeD s24 gD eD3
      have eD4 := s24.keep D _ eD nD
      let Qw : Nat → Hp → Prop := fun j H' => ∃ G' vs, Step K W G1 H1 G' H' ∧ Same G4 G' ∧ G' D = none ∧ H' D = some (.lst vs) ∧ DpAll K G' vs (res i ++ (((ys xs[i]).take j).filter (p xs[i])).map (f xs[i]))
      have en4 := (en2.step s3).step s4
      refine ⟨fun j k H' => k = (ys xs[i]).length - j ∧ j ≤ (ys xs[i]).length ∧ Qw j H', ⟨(ys xs[i]).length, by simp, Nat.zero_le _, G4, vs, s.trans s24, Same.refl _, gD4, eD4, by simpa using Lk.datAll s24.gro rD⟩, ?_⟩
      rintro j k H5 ⟨rfl, hj, G5, vs5, s5, l5, gD5, eD5, rD5⟩
      by_cases lt1 : j < (ys xs[i]).length
      · refine .inr ⟨gv1.goes j H5 G5 (by rw [List.length_map]; exact lt1) s5.frm l5, Qw (j + 1), fun H6 p' => ⟨(ys xs[i]).length - (j + 1), by omega, rfl, lt1, p'⟩, fun v H6 y1 => ?_⟩
        obtain ⟨G6, s6, t, e, q6⟩ := gv1.yields j H5 G5 v H6 (by rw [List.length_map]; exact lt1) s5.frm l5 y1
        rw [List.getElem?_map, List.getElem?_eq_getElem lt1] at e
        cases e
        have my1 : (ys xs[i])[j] ∈ ys xs[i] := List.getElem_mem lt1
        obtain ⟨_, e4⟩ := split_at (List.getElem?_eq_getElem lt1)
        have en6 : EnvOk W H0 G6 H6 σ2 (Jt xs[i]) := en4.grow (hno _ my) (l5.trans s6.gro)
        refine ⟨(xs[i], (ys xs[i])[j]), ⟨my, my1⟩, H0, G6, s6.frm, en6.wipe _, q6, fun σ3 en3 on3 => ⟨?_, (xs[i], (ys xs[i])[j]), ⟨my, my1⟩, H0, G6, s6.frm, en3, fun b H7 G7 s7 hb => ?_⟩⟩
        · rw [on3.wipe js3, wipe_wipe]
        · have e6 : (((ys xs[i]).take (j + 1)).filter (p xs[i])) = (((ys xs[i]).take j).filter (p xs[i])) ++ [(ys xs[i])[j]].filter (p xs[i]) := by rw [e4, List.filter_append]
          cases hp : p xs[i] (ys xs[i])[j] with
          | false =>
            rw [hp] at hb
            subst hb
            have s67 := s6.trans s7
            refine iteF ⟨G7, vs5, s5.trans s67, l5.trans s67.gro, freeD s67 gD5 ⟨_, eD5⟩, s67.keep D _ eD5 nD, ?_⟩
            rw [e6, List.filter_cons, hp, List.filter_nil]
            simpa using Lk.datAll s67.gro rD5
          | true =>
          rw [hp] at hb
          subst hb
          refine iteT ⟨(xs[i], (ys xs[i])[j]), ⟨⟨my, my1⟩, hp⟩, H0, G7, s7.frm, en3.step s7, fun u H8 G8 s8 q8 => ?_⟩
          have s68 := s6.trans (s7.trans s8)
          have gD8 := freeD s68 gD5 ⟨_, eD5⟩
          have eD8 := s68.keep D _ eD5 nD
          have lv : vs5.length < sizeLine := by
            have h1 := rD5.length
            rw [List.length_append, List.length_map] at h1
            have h2 := len (xs.take i) fun y hy => List.mem_of_mem_take hy
            rw [List.length_take, Nat.min_eq_left (Nat.le_of_lt lt)] at h2
            have h3 : (((ys xs[i]).take j).filter (p xs[i])).length ≤ j := Nat.le_trans (List.length_filter_le _ _) (by rw [List.length_take]; omega)
            have h4 := hm xs[i] my
            have h5 : (i + 1) * mx ≤ xs.length * mx := Nat.mul_le_mul_right _ lt
            rw [Nat.succ_mul] at h5
            have h6 : (res i).length ≤ i * mx := h2
            rw [sizeLine_eq]
            omega
          refine ⟨vs5, eD8, lv, G8, vs5 ++ [u], (s5.trans s68).chg hD gD8 nD, l5.trans s68.gro, gD8, upd_same, ?_⟩
          rw [e6, List.filter_cons, hp, List.filter_nil, if_pos rfl, List.map_append, ← List.append_assoc]
          exact (Lk.datAll s68.gro rD5).append (.cons (dt_dp q8) .nil)
      · have e : j = (ys xs[i]).length := by omega
        subst e
        refine .inl ⟨?_, G5, vs5, s5, gD5, eD5, ?_⟩
        · have := gv1.stops H5 G5 s5.frm l5
          rw [List.length_map] at this
          exact this
        · rw [hres]
          rw [List.take_length] at rD5
          exact rD5
  · have e : i = xs.length := by omega
    subst e
    have rD' : DpAll K G' vs (xs.flatMap fun x => ((ys x).filter (p x)).map (f x)) := by
      have : res xs.length = xs.flatMap fun x => ((ys x).filter (p x)).map (f x) := by show (xs.take xs.length).flatMap _ = _; rw [List.take_length]
      rw [← this]; exact rD
    refine .inl ⟨?_, kk _ H' G' (s1.trans s) ⟨D, _, rfl, s1.free hD, gD, eD, ⟨nD, True.intro⟩, fun G2 l => ⟨vs, rfl, Lk.datAll l rD'⟩⟩⟩
    have := gv.stops H' G' s.frm s.gro
    rw [List.length_map] at this
    exact this
/-- [f x y for x in xs for y in ys x if p x y], as data -/
theorem ev_lc2 (vs1 : List Nat) (own : List (Str × Nat)) (xs : List α) (ys : α → List β) (enc : α → T) (enc1 : β → T) (p : α → β → Bool) (f : α → β → PyData) (mx : Nat) {ifs1 : List Expr} {Jt : α → En} {Jt1 : α → β → En} (c : Cok P w K mg base k X) (hi : PI X tg iter (cI K W Γ (xs.map enc)))
    (hg : ∀ y ∈ xs, ∀ s H C cl fp, PG (Blk X scope s H C cl fp) tg (cG K W (wipeE Γ (own.map (·.2))) (enc y) (Jt y) js)) (hi1 : ∀ y ∈ xs, ∀ s H C cl fp, PI (Blk X scope s H C cl fp) tg1 iter1 (cI K W (Jt y) ((ys y).map enc1)))
    (hg1 : ∀ y ∈ xs, ∀ z ∈ ys y, ∀ s H C cl fp, PG (Blk X scope s H C cl fp) tg1 (cG K W (wipeE (Jt y) vs1) (enc1 z) (Jt1 y z) js1)) (ht : ∀ y ∈ xs, ∀ z ∈ ys y, ∀ s H C cl fp, PTs (Blk X scope s H C cl fp) ifs1 (cT K W (Jt1 y z) (fun b => b = p y z)))
    (he : ∀ y ∈ xs, ∀ z ∈ ys y, p y z = true → ∀ s H C cl fp, Ev (Blk X scope s H C cl fp) K W (Jt1 y z) elt (Dt K (f y z))) (hno : ∀ y ∈ xs, noOwnE (Jt y)) (hm : ∀ y ∈ xs, (ys y).length ≤ mx) (hz : xs.length * mx ≤ 16777000)
    (ok : blkC X.N X.env.scope scope own = true := by rfl) (hv : ∀ i ∈ vs1, i ∈ own.map (·.2) := by decide) (js2 : ∀ j ∈ js, j ∈ own.map (·.2) := by decide) (js3 : ∀ j ∈ js1, j ∈ vs1 := by decide) (hs : ∀ x, foldedSetIterable iter X.env x = pure x := by intro _; rfl) (hs1 : ∀ env x, foldedSetIterable iter1 env x = pure x := by intro _ _; rfl) :
    Ev X K W Γ (.ListComp elt [⟨tg, iter, [], 0⟩, ⟨tg1, iter1, ifs1, 0⟩] scope pos) (Dt K (.list (xs.flatMap fun x => ((ys x).filter (p x)).map (f x)))) :=
  ev_still (peI (pe_lc2 c.hc c.hN hi (blkOk_by ok) hv (fun s H C cl fp => pg_ex (fun y => y ∈ xs) fun y hy => hg y hy s H C cl fp) (fun s H C cl fp => pts_ex (fun y => y ∈ xs) fun y hy => tsts_nil) (fun s H C cl fp => pi_ex (fun y => y ∈ xs) fun y hy => hi1 y hy s H C cl fp)
    (fun s H C cl fp => pg_ex (fun z : α × β => z.1 ∈ xs ∧ z.2 ∈ ys z.1) fun z hz => hg1 z.1 hz.1 z.2 hz.2 s H C cl fp) (fun s H C cl fp => pts_ex (fun z : α × β => z.1 ∈ xs ∧ z.2 ∈ ys z.1) fun z hz => ht z.1 hz.1 z.2 hz.2 s H C cl fp) (fun s H C cl fp => pe_ex (fun z : α × β => (z.1 ∈ xs ∧ z.2 ∈ ys z.1) ∧ p z.1 z.2 = true) fun z hz => he z.1 hz.1.1 z.2 hz.1.2 hz.2 s H C cl fp) hs hs1)
    fun σ H Q h => lc2_runS js2 js3 hno hm hz h) fun G p ho hp z => still_lst hp z
end
end Cs

set_option Elab.async false
set_option linter.all false
set_option autoImplicit false
set_option maxRecDepth 100000
set_option maxHeartbeats 4000000
/-! The cells of rows. -/
namespace Cs
open PySem PySem.Spec PyProof.Rows L2 PySem.W
def cellsR (rows : List (List Nat)) : List Cell3 := rows.zipIdx.flatMap fun z => (z.1.zipIdx.filter fun u => !decide (u.1 = 46)).map fun u => ((u.2 : Int), (z.2 : Int), u.1)
theorem sort_args (l : List Cell3) : AllAlike (l.map c3D) ∧ Sortable (l.map c3D) ∧ ∀ b ∈ l, (c3D b).depth ≤ 100 := by
  refine ⟨fun d hd d' hd' => ?_, .inl fun d hd => ?_, fun b _ => ?_⟩
  · obtain ⟨a, _, rfl⟩ := List.mem_map.mp hd
    obtain ⟨b, _, rfl⟩ := List.mem_map.mp hd'
    exact c3_alike a b
  · obtain ⟨a, _, rfl⟩ := List.mem_map.mp hd
    exact ⟨_, _, rfl⟩
  · show (PyData.depth (.tuple [.int b.1, .int b.2.1, sgn b.2.2])) ≤ 100
    simp [PyData.depth, PyData.depthAll, sgn]
section
variable {P : Program} {w : World} {K : PySem.W.Frag} {mg : Str → Option Value} {base : Heap}
theorem it_enumS {k : Nat} {X : Cx} {W : Option Addr} {Γ : En} {pos p tpos : Pos} {a : Expr} {elts : List Expr} {kk : Nat} {l : List Nat} (c : Cok P w K mg base k X) (hm : mg "enumerate" = none) (ha : Ea X K W Γ [a] [Dt K (.str (txt l))]) (hg : Gl X "enumerate" := by rfl) (hs : starEach [a] X.env = [(false, eval a X.env)] := by rfl) :
    PI X (.Tuple elts kk tpos) (.Call (.Name "enumerate" p) [a] [] pos) (cI K W Γ (l.zipIdx.map fun z => dat K (.tuple [.int (z.2 : Nat), sgn z.1]))) := by
  rw [← enum_eq l sgn]
  exact it_enum c hm ha (items_txt l) hg hs
theorem it_enumR {k : Nat} {X : Cx} {W : Option Addr} {Γ : En} {pos p tpos : Pos} {a : Expr} {elts : List Expr} {kk : Nat} {rows : List (List Nat)} (c : Cok P w K mg base k X) (hm : mg "enumerate" = none) (ha : Ea X K W Γ [a] [Dt K (rowsD rows)]) (hg : Gl X "enumerate" := by rfl) (hs : starEach [a] X.env = [(false, eval a X.env)] := by rfl) :
    PI X (.Tuple elts kk tpos) (.Call (.Name "enumerate" p) [a] [] pos) (cI K W Γ (rows.zipIdx.map fun z => dat K (.tuple [.int (z.2 : Nat), .str (txt z.1)]))) := by
  rw [← enum_eq rows fun r => .str (txt r)]
  exact it_enum c hm ha rfl hg hs
theorem ok_cells_of (c : Ctx w K mg) (rows : List (List Nat)) (hr : rows.length ≤ 1000) (hx : ∀ r ∈ rows, r.length ≤ 1000) : DfOk P w K mg base "cells_of" 1 false [Dt K (rowsD rows)] (Dt K (.list ((srt (cellsR rows)).map c3D))) := by
  obtain ⟨fd, F0⟩ := (d_cells_of c)
  refine mk_df ["rows", "y", "row", "x", "sign"] (ps := ["rows"]) (N := noA) F0 (g_cells_of c) ⟨rfl, rfl, rfl, by decide +kernel, rfl, by decide +kernel, by decide +kernel⟩ (fun _ _ _ _ _ _ us hl => match us, hl with | [_], _ => rfl) rfl (by simp [noOwns, notOwn]) (fun W X hW k hX => ?_) (fun _ _ _ _ _ z => z.elim)
  obtain ⟨cdv, A, outer, s, H, E, rfl⟩ := hX
  obtain ⟨h1, h2, h3⟩ := sort_args (cellsR rows)
  have e : (rows.zipIdx.flatMap fun z => (z.1.zipIdx.filter fun u => !decide (u.1 = 46)).map fun u => c3D ((u.2 : Int), (z.2 : Int), u.1)) = (cellsR rows).map c3D := by
    unfold cellsR
    rw [List.map_flatMap]
    simp only [List.map_map]
    rfl
  refine srs_ret (ev_sorted (cellsR rows) c3D k (n_sorted c) (ea_cons (ev_eq (ev_lc2 [3, 4] [("y", 1), ("row", 2), ("x", 3), ("sign", 4)] rows.zipIdx (fun z => z.1.zipIdx) (fun z => dat K (.tuple [.int (z.2 : Nat), .str (txt z.1)])) (fun u => dat K (.tuple [.int (u.2 : Nat), sgn u.1])) (fun _ u => !decide (u.1 = 46)) (fun z u => c3D ((u.2 : Int), (z.2 : Int), u.1)) 1000 k
    (it_enumR k (n_enumerate c) (ea_cons (ev_var 0) ea_nil)) (fun z _ s0 H C cl fp => tg_dat _ k.blk (tgs_cons (tg_name 1 k.blk) (tgs_cons (tg_name 2 k.blk) tgs_nil))) (fun z _ s0 H C cl fp => it_enumS k.blk (n_enumerate c) (ea_cons (ev_var 2) ea_nil))
    (fun z _ u _ s0 H C cl fp => tg_dat _ k.blk (tgs_cons (tg_name 3 k.blk) (tgs_cons (tg_name 4 k.blk) tgs_nil))) (fun z _ u _ s0 H C cl fp => tsts_one (tst_eq (tst_neX (l := [u.1]) (m := [46]) k.blk (ev_var 4) (ev_gtxt [46] k.blk (s_GROUND_search c))) (by simp))) (fun z _ u _ _ s0 H C cl fp => ev_tup (ead_cons (ev_var 3) (ead_cons (ev_var 1) (ead_cons (ev_var 4) ead_nil))))
    (fun z _ => by intro j o q; rcases j with _ | _ | _ | _ | _ | j <;> cases q) (fun z hz => by rw [List.length_zipIdx]; exact hx _ (List.fst_mem_of_mem_zipIdx hz)) (by rw [List.length_zipIdx]; omega)) (congrArg PyData.list e)) ea_nil) h1 h2 h3)
end
end Cs

set_option Elab.async false
set_option linter.all false
set_option autoImplicit false
set_option maxRecDepth 100000
set_option maxHeartbeats 4000000
/-! The paper of cells. -/
namespace Cs
open PySem PySem.Spec PyProof.Rows L2
def stgC (r : Ru) (l : List Cell3) : Nat → Cells
  | 0 => cellsC l
  | n + 1 => stepC r (stgC r l n) (n : Nat)
def stg3 (r : Ru) (l : List Cell3) (n : Nat) : List Cell3 := srt (cl3 (stgC r l n))
def seenL (r : Ru) (l : List Cell3) (n : Nat) : List (List Cell3) := (List.range (n + 1)).map (stg3 r l)
def foundD (r : Ru) (l : List Cell3) : Nat → PyData
  | 0 => .none
  | n + 1 => paperBy r.so (seenL r l (n + 1))
def goOn (r : Ru) (l : List Cell3) (most n : Nat) : Bool := isN (foundD r l n) && (decide (n + 1 ≤ most) && !decide (stg3 r l n = []))
def firstNo (p : Nat → Bool) : Nat → Nat → Nat
  | 0, n => n
  | f + 1, n => if p n then firstNo p f (n + 1) else n
theorem firstNo_spec {p : Nat → Bool} : ∀ {f n : Nat}, (∀ j, n ≤ j → j < firstNo p f n → p j = true) ∧ n ≤ firstNo p f n ∧ firstNo p f n ≤ n + f ∧ (firstNo p f n < n + f → p (firstNo p f n) = false)
  | 0, n => ⟨fun j h1 h2 => by unfold firstNo at h2; omega, Nat.le_refl _, Nat.le_refl _, fun h => by unfold firstNo at h; omega⟩
  | f + 1, n => by
    obtain ⟨h1, h2, h3, h4⟩ := @firstNo_spec p f (n + 1)
    unfold firstNo
    by_cases e : p n = true
    · rw [if_pos e]
      refine ⟨fun j a b => ?_, by omega, by omega, fun h => h4 (by omega)⟩
      by_cases q : j = n
      · rw [q]; exact e
      · exact h1 j (by omega) b
    · rw [if_neg e]
      exact ⟨fun j a b => by omega, Nat.le_refl _, by omega, fun _ => by simpa using e⟩
def stopN (r : Ru) (l : List Cell3) (most : Nat) : Nat := firstNo (goOn r l most) most 0
theorem stopN_le {r : Ru} {l : List Cell3} {most : Nat} : stopN r l most ≤ most := by
  have := (@firstNo_spec (goOn r l most) most 0).2.2.1
  unfold stopN
  omega
theorem stopN_go {r : Ru} {l : List Cell3} {most n : Nat} (h : n ≤ stopN r l most) : goOn r l most n = decide (n < stopN r l most) := by
  obtain ⟨h1, h2, h3, h4⟩ := @firstNo_spec (goOn r l most) most 0
  by_cases q : n < stopN r l most
  · rw [decide_eq_true q]
    exact h1 n (Nat.zero_le _) q
  · rw [decide_eq_false q]
    have e : n = stopN r l most := by omega
    subst e
    by_cases z : stopN r l most < 0 + most
    · exact h4 z
    · unfold goOn
      rw [decide_eq_false (show ¬ (stopN r l most + 1 ≤ most) by omega)]
      simp
/-- the paper that is told -/
def paperOf (r : Ru) (l : List Cell3) (most : Nat) : PyData := foundD r l (stopN r l most)
structure StOk (r : Ru) (l : List Cell3) (most : Nat) : Prop where
  few : ∀ n, n ≤ most → (stgC r l n).length ≤ 100000
  sig : ∀ n, n ≤ most → SgL (stg3 r l n)
theorem noL_paper (so : Str) (seen : List (List Cell3)) : noL (paperBy so seen) = true := by
  unfold paperBy
  cases shift (seen.headD []) (seen.getLastD []) with
  | none => rfl
  | some q =>
    show noL (if _ then _ else _) = true
    split <;> rfl
theorem stg3_len (r : Ru) (l : List Cell3) (n : Nat) : (stg3 r l n).length = (stgC r l n).length := by
  unfold stg3 srt cl3
  rw [List.length_mergeSort, List.length_map]
theorem seen_cons (r : Ru) (l : List Cell3) (n : Nat) : seenL r l n = stg3 r l 0 :: (List.range n).map fun i => stg3 r l (i + 1) := by
  unfold seenL
  rw [List.range_succ_eq_map, List.map_cons, List.map_map]; rfl
theorem seen_snoc (r : Ru) (l : List Cell3) (n : Nat) : seenL r l (n + 1) = seenL r l n ++ [stg3 r l (n + 1)] := by
  unfold seenL
  rw [List.range_succ, List.map_append]; rfl
section
variable {P : Program} {w : World} {K : PySem.W.Frag} {mg : Str → Option Value} {base : Heap}
theorem ok_paper_of (c : Ctx w K mg) (r : Ru) (h : r.Ok) (hk : keepsG r = true) (l : List Cell3) (hn : (l.map spot3).Nodup) (hc : FitC r.m (cellsC l)) (most : Nat) (hm : most ≤ 100) (st : StOk r l most) :
    DfOk P w K mg base "paper_of" 6 false [r.ent K, Dt K (.list (l.map c3D)), Dt K (.int (most : Nat))] (Dt K (paperOf r l most)) := by
  obtain ⟨fd, F0⟩ := (d_paper_of c)
  refine mk_df ["rule", "cells", "most", "field", "seen", "found"] (ps := ["rule", "cells", "most"]) (N := noA) F0 (g_paper_of c) ⟨rfl, rfl, rfl, by decide +kernel, rfl, by decide +kernel, by decide +kernel⟩ (fun _ _ _ _ _ _ us hl => match us, hl with | [_, _, _], _ => rfl) rfl (by simp [noOwns, notOwn]) (fun W X hW k hX => ?_) (fun _ _ _ _ _ z => z.elim)
  obtain ⟨cdv, A, outer, s, H, E, rfl⟩ := hX
  refine srs_set 3 k (ev_call k (ok_begun c r h hk l hn hc) (ea_cons (ev_var 0) (ea_cons (ev_var 1) ea_nil))) ?_
  refine srs_set 4 k (ev_lstO (ead_cons (ev_meth0 k (ok_F_cells c (cellsC l) 0 (by have := hc.few; omega)) (ev_var 3) (hl := rfl)) ead_nil)) ?_
  refine srs_set 5 k ev_non ?_
  let J : Nat → En := fun n => [some (r.ent K), some (Dt K (.list (l.map c3D))), some (Dt K (.int (most : Nat))), some (fiT K (stgC r l n) (n : Nat)), some (.own (lstO K ((seenL r l n).map picD))), some (Dt K (foundD r l n))]
  refine srs_cons (M := envA W (J (stopN r l most))) (sr_while (stopN r l most) J (hc := fun n hnm => ?_) (hb := fun n hnm => ?_)) ?_
  · have hle := @stopN_le r l most
    have e1 : ((seenL r l n).map picD).length = n + 1 := by unfold seenL; rw [List.length_map, List.length_map, List.length_range]
    refine tst_eq (tst_w (tsw_and (c1 := isN (foundD r l n)) (tst_cmp1 op_isN rd_isN (ev_var 5) ev_non) fun _ => tsw_and (c1 := decide (n + 1 ≤ most)) (tst_eq (tst_cmp1 op_le rd_le (ev_borrow 4 rfl (ev_lenL k (n_len c) (ea_cons (ev_var 4) ea_nil))) (ev_var 2)) ?_) fun _ => tsw_and1 (tst_eq (c' := !decide (stg3 r l n = [])) (tst_neD (d1 := picD (stg3 r l n)) (d2 := picD []) k (c3s_sh (st.sig n (by omega))) (by decide +kernel) (ev_ixO 4 k (ev_neg ev_int) ?_) (ev_lst ead_nil)) ?_))) (stopN_go hnm)
    · rw [e1]
      exact decide_eq_decide.mpr (by omega)
    · rw [seen_cons, List.map_cons, at_last, ← List.map_cons, ← seen_cons]
      cases n with
      | zero => rfl
      | succ n => rw [seen_snoc, List.map_append]; simp
    · unfold picD
      rw [c3s_eqv]
  · have hle := @stopN_le r l most
    have e1 : ((seenL r l n).map picD).length = n + 1 := by unfold seenL; rw [List.length_map, List.length_map, List.length_range]
    refine srs_set 3 k (ev_call k (ok_step_of c r h (stgC r l n) (n : Nat) (st.few n (by omega))) (ea_cons (ev_var 0) (ea_cons (ev_var 3) ea_nil))) ?_
    refine srs_cons (sr_append 4 k (ev_meth0 k (ok_F_cells c (stgC r l (n + 1)) ((n : Nat) + 1) (by have := st.few (n + 1) (by omega); omega)) (ev_var 3) (hl := rfl)) (by rw [e1]; omega)) ?_
    have e2 : (seenL r l n).map picD ++ [PyData.list ((srt (cl3 (stgC r l (n + 1)))).map c3D)] = (seenL r l (n + 1)).map picD := by rw [seen_snoc, List.map_append]; rfl
    rw [e2]
    refine srs_set 5 k (ev_borrow 4 rfl (ev_call k (ok_paper_by c r (stg3 r l 0) ((List.range (n + 1)).map fun i => stg3 r l (i + 1)) (fun z hz => ?_) (by rw [List.length_map, List.length_range]; omega) (by rw [stg3_len]; have := st.few 0 (by omega); omega)) (ea_cons (ev_var 0) (ea_cons (ev_eq (ev_var 4) (by rw [← seen_cons])) ea_nil))) (noL_paper _ _)) ?_
    · rw [← seen_cons] at hz
      unfold seenL at hz
      obtain ⟨i, hi, rfl⟩ := List.mem_map.mp hz
      exact st.sig i (by have := List.mem_range.mp hi; omega)
    · refine srs_nil fun _ _ _ _ q => q.sub ?_
      refine ⟨.inr rfl, .inr rfl, .inr rfl, .inr rfl, .inr rfl, .inr ?_, trivial⟩
      rw [← seen_cons]; rfl
  · exact srs_ret (ev_var 5)
end
end Cs

set_option Elab.async false
set_option linter.all false
set_option autoImplicit false
set_option maxRecDepth 100000
set_option maxHeartbeats 4000000
/-! The search, told. -/
namespace Cs
open PySem PySem.Spec PyProof.Rows L2
section
variable {P : Program} {w : World} {K : PySem.W.Frag} {mg : Str → Option Value} {base : Heap} {k : Nat} {X : Cx} {W : Option Addr} {Γ : En} {x : Str} {pos pos' : Pos} {b : Expr} {e1 e2 e : Ent} {B C : As} {R : Ent}
/-- name op= b -/
theorem sr_aug (i : Nat) {op : Operator} {r : R2} (c : Cok P w K mg base k X) (ho : OpR X (inplaceOp op) r) (hr : RdO K W r e1 e2 e) (hb : Ev X K W Γ b e2) (he : Γ[i]? = some (some e1) := by rfl) (n1 : isFro e1 := by exact True.intro) (hi : X.N[i]? = some x := by rfl) (hx : Loc X.env.scope x := by first | exact Or.inl rfl | exact Or.inr rfl)
    (hf : X.fn x = true ∨ X.env.scope.names.lookup x = some .local := by first | exact .inl rfl | exact .inr rfl) : Sr X K W (.AugAssign (.Name x pos') op b pos) (envA W Γ) (envA W (Γ.set i (some e))) B C R :=
  psI (ps_aug c.hN hi hx hb (ti := r) (fun pins s σ H x y v u Q I rx ry q => augR ho I rx ry q) hf) fun D σ H ⟨H0, G0, G, s, en, n, _⟩ => by
    obtain ⟨v, hv, q⟩ := en.at_ i _ he
    refine ⟨v, hv, H0, G, s.frm, en, fun y H1 G1 s1 q1 => ?_⟩
    obtain ⟨t, rfl⟩ : ∃ t, e1 = .fro t := by cases e1 with
      | fro t => exact ⟨t, rfl⟩
      | own _ => exact n1.elim
      | bag => exact n1.elim
    refine hr H G1 H1 v y s1.frm (fun a ha => s1.free ha) ((q.step s1).any True.intro) q1 _ fun z H2 G2 s2 q2 => ?_
    have s3 := s1.trans s2
    exact n _ _ G2 (s.trans s3) (en.put s3 (q2.back fun a ha => ha) (fun a ha => s.free ha) i)
end
/-- a picture that is told -/
def cells3 (t : List Nat) (wd hg : Nat) : List Cell3 := srt (cellsR (rowsOf t wd hg))
def hitD (r : Ru) (wd hg most : Nat) (t : List Nat) : List PyData := if begB (rowsOf t wd hg) then (if isN (paperOf r (cells3 t wd hg) most) then [] else [.tuple [rowsD (rowsOf t wd hg), paperOf r (cells3 t wd hg) most]]) else []
structure PicOk (r : Ru) (l : List Cell3) (most : Nat) : Prop where
  nd : (l.map spot3).Nodup
  fit : FitC r.m (cellsC l)
  st : StOk r l most
structure SeaOk (r : Ru) (wd hg most : Nat) : Prop where
  rule : r.Ok
  keeps : keepsG r = true
  wd0 : 0 < wd
  hg0 : 0 < hg
  wd1 : wd ≤ 30
  hg1 : hg ≤ 30
  most1 : most ≤ 100
  few : (sigs r.m).length ^ (wd * hg) ≤ 256
  pic : ∀ t ∈ texts (sigs r.m) (wd * hg), begB (rowsOf t wd hg) = true → PicOk r (cells3 t wd hg) most
theorem rows_len {t : List Nat} {wd hg : Nat} (ht : t.length = wd * hg) : ∀ u ∈ rowsOf t wd hg, u.length = wd := by
  intro u hu
  unfold rowsOf at hu
  obtain ⟨i, hi, rfl⟩ := List.mem_map.mp hu
  have hi2 := List.mem_range.mp hi
  have hb : i * wd + wd ≤ t.length := by
    rw [ht, ← Nat.succ_mul, Nat.mul_comm wd hg]
    exact Nat.mul_le_mul_right _ hi2
  rw [List.length_take, List.length_drop]
  omega
theorem rows_count {t : List Nat} {wd hg : Nat} : (rowsOf t wd hg).length = hg := by unfold rowsOf; rw [List.length_map, List.length_range]
theorem pow_le_of {a n m : Nat} (h : 1 ≤ a) (k : n ≤ m) : a ^ n ≤ a ^ m := Nat.pow_le_pow_right h k
section
variable {P : Program} {w : World} {K : PySem.W.Frag} {mg : Str → Option Value} {base : Heap}
theorem ok_search (c : Ctx w K mg) (r : Ru) (wd hg most : Nat) (h : SeaOk r wd hg most) :
    DfOk P w K mg base "search" 7 false [r.ent K, Dt K (.int (wd : Nat)), Dt K (.int (hg : Nat)), Dt K (.int (most : Nat))] (.own (lstO K ((texts (sigs r.m) (wd * hg)).flatMap (hitD r wd hg most)))) := by
  obtain ⟨fd, F0⟩ := (d_search c)
  refine mk_df ["rule", "wide", "high", "most", "signs", "many", "k", "found", "text", "rows", "paper"] (ps := ["rule", "wide", "high", "most"]) (N := noA) F0 (g_search c) ⟨rfl, rfl, rfl, by decide +kernel, rfl, by decide +kernel, by decide +kernel⟩ (fun _ _ _ _ _ _ us hl => match us, hl with | [_, _, _, _], _ => rfl) rfl (by simp [noOwns, notOwn]) (fun W X hW k hX => ?_) (fun _ _ _ _ _ z => z.elim)
  obtain ⟨cdv, A, outer, s, H, E, rfl⟩ := hX
  have w0 := h.wd0
  have h0 := h.hg0
  have w1 := h.wd1
  have h1 := h.hg1
  have area : wd * hg ≤ 900 := Nat.le_trans (Nat.mul_le_mul w1 h1) (by decide)
  have sg1 : 1 ≤ (sigs r.m).length := by
    have := dot_in h.rule.lo
    exact List.length_pos_of_mem this
  have pw : ∀ j, j ≤ wd * hg → (sigs r.m).length ^ j ≤ 256 := fun j hj => Nat.le_trans (pow_le_of sg1 hj) h.few
  have sg27 : (sigs r.m).length ≤ 27 := by
    unfold sigs
    rw [List.length_take]
    exact Nat.le_trans (Nat.min_le_right _ _) (by decide)
  have eprod : ((wd : Int) * (hg : Int)) = ((wd * hg : Nat) : Int) := by rw [Int.natCast_mul]
  refine srs_no (tst_eq (tst_not (tst_val (ev_meth0 k (ok_R_keeps c r h.rule) (ev_var 0) (hl := rfl)))) (by rw [h.keeps]; rfl)) ?_
  refine srs_set 4 k (ev_meth0 k (ok_R_signs c r.so r.m r.near r.rows.D) (ev_var 0) (hl := rfl)) ?_
  refine srs_set 5 k ev_int ?_
  let J : List Nat → En := fun pre => [some (r.ent K), some (Dt K (.int (wd : Nat))), some (Dt K (.int (hg : Nat))), some (Dt K (.int (most : Nat))), some (Dt K (.str (txt (sigs r.m)))), some (Dt K (.int (((sigs r.m).length ^ pre.length : Nat) : Int))), none, none, none, none, none]
  refine srs_cons (M := envA W (J (List.range (wd * hg)))) (sr_for (List.range (wd * hg)) (fun i => dat K (.int (i : Nat))) J (fun pre i => (J pre).set 6 (some (Dt K (.int (i : Nat))))) k (it_range1 k (n_range c) (ea_cons (ev_eq (ev_mul (ev_var 1) (ev_var 2) (by unfold CMul; left; omega)) (congrArg PyData.int eprod)) ea_nil)) (Sub.refl _) (fun pre i post _ => tg_name 6 k) (fun pre i post e => ?_) (fun _ _ _ _ z => z)) ?_
  · have hp : pre.length < wd * hg := by
      have := congrArg List.length e
      rw [List.length_range, List.length_append, List.length_cons] at this
      omega
    have hb := pw pre.length (by omega)
    refine srs_cons (sr_aug 5 k iop_mul (rd_I (i := (((sigs r.m).length ^ pre.length : Nat) : Int)) (j := ((sigs r.m).length : Nat)) (by unfold CMul; left; omega) (fun G => .int _)) (ev_lenS k (n_len c) (ea_cons (ev_var 4) ea_nil) (by omega))) ?_
    refine srs_nil fun _ _ _ _ z => z.sub ?_
    refine ⟨.inr rfl, .inr rfl, .inr rfl, .inr rfl, .inr rfl, .inr ?_, .inl rfl, .inr rfl, .inr rfl, .inr rfl, .inr rfl, trivial⟩
    rw [List.length_append]
    show some (Dt K (.int _)) = some (Dt K (.int _))
    rw [show pre.length + [i].length = pre.length + 1 from rfl, Nat.pow_succ, Int.natCast_mul]
  rw [show J (List.range (wd * hg)) = [some (r.ent K), some (Dt K (.int (wd : Nat))), some (Dt K (.int (hg : Nat))), some (Dt K (.int (most : Nat))), some (Dt K (.str (txt (sigs r.m)))), some (Dt K (.int (((sigs r.m).length ^ (wd * hg) : Nat) : Int))), none, none, none, none, none] by unfold J; rw [List.length_range]]
  refine srs_no (tst_eq (tst_cmp1 op_gt rd_gt (ev_var 5) (ev_gint k (i_MOST_PICTURES c))) (decide_eq_false (by have := pw (wd * hg) (Nat.le_refl _); omega))) ?_
  refine srs_set 7 k (ev_lstO ead_nil) ?_
  let J2 : List (List Nat) → En := fun pre => [some (r.ent K), some (Dt K (.int (wd : Nat))), some (Dt K (.int (hg : Nat))), some (Dt K (.int (most : Nat))), some (Dt K (.str (txt (sigs r.m)))), some (Dt K (.int (((sigs r.m).length ^ (wd * hg) : Nat) : Int))), none, some (.own (lstO K (pre.flatMap (hitD r wd hg most)))), none, none, none]
  have tz : ∀ j, j < wd * hg → (texts (sigs r.m) j).length * (sigs r.m).length ≤ 16777000 := fun j hj => by
    rw [texts_count, ← Nat.pow_succ]
    exact Nat.le_trans (pw (j + 1) hj) (by decide)
  have tl : (texts (sigs r.m) (wd * hg)).length ≤ 256 := by rw [texts_count]; exact pw _ (Nat.le_refl _)
  have hit1 : ∀ t, (hitD r wd hg most t).length ≤ 1 := fun t => by unfold hitD; split <;> (try split) <;> simp
  have hitn : ∀ pre : List (List Nat), (pre.flatMap (hitD r wd hg most)).length ≤ pre.length := fun pre => by
    induction pre with
    | nil => simp
    | cons t pre ih => rw [List.flatMap_cons, List.length_append, List.length_cons]; have := hit1 t; omega
  refine srs_cons (M := envA W (J2 (texts (sigs r.m) (wd * hg)))) (sr_for (texts (sigs r.m) (wd * hg)) (fun t => dat K (.str (txt t))) J2 (fun pre t => (J2 pre).set 8 (some (Dt K (.str (txt t))))) k (it_lst _ (fun t => .str (txt t)) k (ev_call k (ok_texts_of c (sigs r.m) (wd * hg) (by omega) tz) (ea_cons (ev_var 4) (ea_cons (ev_eq (ev_mul (ev_var 1) (ev_var 2) (by unfold CMul; left; omega)) (congrArg PyData.int eprod)) ea_nil)))) (Sub.refl _) (fun pre t post _ => tg_name 8 k) (fun pre t post e => ?_) (fun _ _ _ _ z => z)) ?_
  · have ht : t ∈ texts (sigs r.m) (wd * hg) := by rw [e]; simp
    have htl := texts_len ht
    have pn : (pre.flatMap (hitD r wd hg most)).length ≤ 256 := by
      have h3 := congrArg List.length e
      rw [List.length_append, List.length_cons] at h3
      have := hitn pre
      omega
    refine srs_set 9 k (ev_call k (ok_rows_of c t wd hg w0 (by omega) (by omega) htl) (ea_cons (ev_var 8) (ea_cons (ev_var 1) ea_nil))) ?_
    have esnoc : (pre ++ [t]).flatMap (hitD r wd hg most) = pre.flatMap (hitD r wd hg most) ++ hitD r wd hg most t := by rw [List.flatMap_append]; simp
    obtain ⟨x, rows, er⟩ : ∃ x rows, rowsOf t wd hg = x :: rows := by
      cases er : rowsOf t wd hg with
      | nil => have := @rows_count t wd hg; rw [er] at this; simp at this; omega
      | cons x rows => exact ⟨x, rows, rfl⟩
    have rl := rows_len htl
    have rc := @rows_count t wd hg
    have hrl : rows.length ≤ 1000 := by rw [er, List.length_cons] at rc; omega
    have hrx : ∀ u ∈ x :: rows, u ≠ [] ∧ u.length ≤ 1000 := fun u hu => by
      have := rl u (by rw [er]; exact hu)
      exact ⟨fun z => by rw [z] at this; simp at this; omega, by omega⟩
    have hbeg : DfOk P w K mg base "begins" 1 false [Dt K (rowsD (rowsOf t wd hg))] (Dt K (.bool (begB (rowsOf t wd hg)))) := by
      rw [er]; exact ok_begins c x rows hrl hrx
    refine srs_if (M := envA W (J2 (pre ++ [t]))) (cv := begB (rowsOf t wd hg)) (tst_val (ev_call k hbeg (ea_cons (ev_var 9) ea_nil))) (fun hb => ?_) (fun hb => ?_) (srs_nil fun _ _ _ _ z => z)
    · have pk := h.pic t ht hb
      have hcl : ∀ u ∈ rowsOf t wd hg, u.length ≤ 1000 := fun u hu => by have := rl u hu; omega
      refine srs_set 10 k (ev_call k (ok_paper_of c r h.rule h.keeps (cells3 t wd hg) pk.nd pk.fit most h.most1 pk.st) (ea_cons (ev_var 0) (ea_cons (ev_call k (ok_cells_of c (rowsOf t wd hg) (by omega) hcl) (ea_cons (ev_var 9) ea_nil)) (ea_cons (ev_var 3) ea_nil)))) ?_
      refine srs_if (M := envA W (J2 (pre ++ [t]))) (cv := !isN (paperOf r (cells3 t wd hg) most)) (tst_cmp1 op_notN rd_notN (ev_var 10) ev_non) (fun hp => ?_) (fun hp => ?_) (srs_nil fun _ _ _ _ z => z)
      · refine srs_cons (sr_append (ds := pre.flatMap (hitD r wd hg most)) 7 k (ev_tup (ead_cons (ev_var 9) (ead_cons (ev_var 10) ead_nil))) (by omega)) (srs_nil fun _ _ _ _ z => z.sub ?_)
        refine ⟨.inr rfl, .inr rfl, .inr rfl, .inr rfl, .inr rfl, .inr rfl, .inr rfl, .inr ?_, .inl rfl, .inl rfl, .inl rfl, trivial⟩
        rw [esnoc]
        rw [show hitD r wd hg most t = [PyData.tuple [rowsD (rowsOf t wd hg), paperOf r (cells3 t wd hg) most]] by
          unfold hitD
          rw [if_pos hb, if_neg (by intro q; rw [q] at hp; cases hp)]]
      · refine srs_nil fun _ _ _ _ z => z.sub ?_
        refine ⟨.inr rfl, .inr rfl, .inr rfl, .inr rfl, .inr rfl, .inr rfl, .inr rfl, .inr ?_, .inl rfl, .inl rfl, .inl rfl, trivial⟩
        rw [esnoc]
        show _ = some (Ent.own (lstO K (pre.flatMap (hitD r wd hg most))))
        rw [show hitD r wd hg most t = [] by
          unfold hitD
          rw [if_pos hb, if_pos (by simpa using hp)], List.append_nil]
    · refine srs_nil fun _ _ _ _ z => z.sub ?_
      refine ⟨.inr rfl, .inr rfl, .inr rfl, .inr rfl, .inr rfl, .inr rfl, .inr rfl, .inr ?_, .inl rfl, .inl rfl, .inl rfl, trivial⟩
      rw [esnoc]
      show _ = some (Ent.own (lstO K (pre.flatMap (hitD r wd hg most))))
      rw [show hitD r wd hg most t = [] by
        unfold hitD
        rw [if_neg (by rw [hb]; decide)], List.append_nil]
  · exact srs_retO 7
end
end Cs

set_option Elab.async false
set_option linter.all false
set_option autoImplicit false
set_option maxRecDepth 100000
set_option maxHeartbeats 4000000
/-! The law's own words: a rule's answers. -/
namespace Cs
open PySem PySem.Spec PyProof.Rows L2
/-- the law's rule: a tuple -/
def ruleTs (K : PySem.W.Frag) (so : Str) (m : Nat) (near : List Nat) (rows : List PyData) : List T := [dat K (.str so), dat K (.int (m : Nat)), xtT K (nearD near), dat K (.list rows)]
abbrev lrT (K : PySem.W.Frag) (so : Str) (m : Nat) (near : List Nat) (rows : List PyData) : Ent := .fro (tupT K (ruleTs K so m near rows))
section
variable {P : Program} {w : World} {K : PySem.W.Frag} {mg : Str → Option Value} {base : Heap} {k : Nat} {X : Cx} {W : Option Addr} {Γ : En} {pos p1 : Pos} {a : Expr} {j1 : Nat} {so : Str} {m : Nat} {near : List Nat} {rows : List PyData}
theorem ev_lr0 (c : Cok P w K mg base k X) (h : Ev X K W Γ a (lrT K so m near rows)) : Ev X K W Γ (.Subscript a (.Constant (.int 0) j1 p1) pos) (Dt K (.str so)) := ev_ixTT c h ev_int (atI_nat (j := 0) rfl)
theorem ev_lr1 (c : Cok P w K mg base k X) (h : Ev X K W Γ a (lrT K so m near rows)) : Ev X K W Γ (.Subscript a (.Constant (.int 1) j1 p1) pos) (Dt K (.int (m : Nat))) := ev_ixTT c h ev_int (atI_nat (j := 1) rfl)
theorem ev_lr2 (c : Cok P w K mg base k X) (h : Ev X K W Γ a (lrT K so m near rows)) : Ev X K W Γ (.Subscript a (.Constant (.int 2) j1 p1) pos) (.fro (xtT K (nearD near))) := ev_ixTT c h ev_int (atI_nat (j := 2) rfl)
theorem ev_lr3 (c : Cok P w K mg base k X) (h : Ev X K W Γ a (lrT K so m near rows)) : Ev X K W Γ (.Subscript a (.Constant (.int 3) j1 p1) pos) (Dt K (.list rows)) := ev_ixTT c h ev_int (atI_nat (j := 3) rfl)
end
section
variable {P : Program} {w : World} {K : PySem.W.Frag} {mg : Str → Option Value} {base : Heap}
theorem ok_l_signs (c : Ctx w K mg) (m : Nat) : DfOk P w K mg base "_law_signs" 1 false [Dt K (.int (m : Nat))] (Dt K (.str (txt (sigs m)))) := by
  obtain ⟨fd, F0⟩ := (d__law_signs c)
  refine mk_df ["_law_many"] (ps := ["_law_many"]) (N := noA) F0 (g__law_signs c) ⟨rfl, rfl, rfl, by decide +kernel, rfl, by decide +kernel, by decide +kernel⟩ (fun _ _ _ _ _ _ us hl => match us, hl with | [_], _ => rfl) rfl (by simp [noOwns, notOwn]) (fun W X hW k hX => ?_) (fun _ _ _ _ _ z => z.elim)
  obtain ⟨cdv, A, outer, s, H, E, rfl⟩ := hX
  exact srs_ret (ev_eq (ev_slS (ev_txt allSigs) op_none (op_some (ev_var 0)) (Nat.le_of_ble_eq_true rfl)) (by rw [cut_to]; rfl))
theorem ok_l_holds (c : Ctx w K mg) (near sg : List Nat) (hl : ∀ q ∈ near, q < 8) (h8 : near.length ≤ 8) (ar : List Nat) (har : ar.length = near.length) (t : Tst0) (ht : tstOk near sg t) :
    DfOk P w K mg base "_law_holds" 1 false [.fro (xtT K (nearD near)), Dt K (.str (txt ar)), Dt K (tstD t)] (Dt K (.bool (holds near ar t))) := by
  obtain ⟨fd, F0⟩ := (d__law_holds c)
  refine mk_df ["_law_near_here", "_law_around", "_law_test_here", "_law_sign_here"] (ps := ["_law_near_here", "_law_around", "_law_test_here"]) (N := noA) F0 (g__law_holds c) ⟨rfl, rfl, rfl, by decide +kernel, rfl, by decide +kernel, by decide +kernel⟩ (fun _ _ _ _ _ _ us hl => match us, hl with | [_, _, _], _ => rfl) rfl (by simp [noOwns, notOwn]) (fun W X hW k hX => ?_) (fun _ _ _ _ _ z => z.elim)
  obtain ⟨cdv, A, outer, s, H, E, rfl⟩ := hX
  cases t with
  | at_ p l =>
    refine srs_ifR (cv := true) (tst_eq (tst_eqS k (ev_ixT k (ev_var 2) ev_int rfl) ev_str) rfl) (fun _ => ?_) fun z => nomatch z
    have hp := ht.2.1
    have hlt : near.idxOf p < ar.length := by rw [har]; exact idx_lt hp
    refine srs_ret (ev_eq (ev_cmp op_inS rd_inS (ev_ixS (l := ar) (n := ar.getD (near.idxOf p) 0) (ev_var 1) (ev_tIndex k (by rw [← nearD_eq]; exact ev_var 0) (ev_ixT k (ev_var 2) ev_int rfl) (near_idx hl hp) (near_no hl hp)) ?_ (by omega)) (ev_ixT k (ev_var 2) ev_int rfl)) rfl)
    refine atI_nat ?_
    rw [List.getElem?_eq_getElem hlt]
    simp [hlt]
  | cnt lo hi l =>
    refine srs_no (tst_eq (tst_eqS k (ev_ixT k (ev_var 2) ev_int rfl) ev_str) rfl) ?_
    have hf : (ar.filter fun n => decide (n ∈ l)).length ≤ ar.length := List.length_filter_le _ _
    refine srs_ret (ev_eq (ev_chain op_le op_le rd_le rd_le (ev_ixT k (ev_var 2) ev_int rfl) (ev_lenL k (n_len c) (ea_cons (ev_lcs [("_law_sign_here", 3)] ar (fun n => dat K (sgn n)) (fun n => decide (n ∈ l)) (fun n => sgn n) k (it_str (ev_var 1)) (fun y _ s0 H C cl fp => tg_name 3 k.blk) (fun y _ s0 H C cl fp => tsts_one (tst_cmp1 op_inS rd_inS (ev_var 3) (ev_ixT k.blk (ev_var 2) ev_int rfl))) (fun y _ _ s0 H C cl fp => ev_var 3) (by omega)) ea_nil)) (ev_ixT k (ev_var 2) ev_int rfl)) ?_)
    rw [List.length_map]
    unfold holds
    congr 1
    congr 1
    · exact decide_eq_decide.mpr Int.ofNat_le
    · exact decide_eq_decide.mpr Int.ofNat_le
theorem ok_l_becomes (c : Ctx w K mg) (so : Str) (m : Nat) (near sg : List Nat) (l : List CRow) (hr : ∀ r ∈ l, CRowOk near sg r) (hl : ∀ q ∈ near, q < 8) (h8 : near.length ≤ 8) (hll : l.length ≤ 1000) (ar : List Nat) (har : ar.length = near.length) (own : Nat) :
    DfOk P w K mg base "_law_becomes" 2 false [lrT K so m near (l.map crowD), Dt K (sgn own), Dt K (.str (txt ar))] (Dt K (sgn (fateC near l own ar))) := by
  obtain ⟨fd, F0⟩ := (d__law_becomes c)
  refine mk_df ["_law_rule_here", "_law_own", "_law_around", "_law_mine", "_law_tests", "_law_sign_here", "_law_test_here"] (ps := ["_law_rule_here", "_law_own", "_law_around"]) (N := noA) F0 (g__law_becomes c) ⟨rfl, rfl, rfl, by decide +kernel, rfl, by decide +kernel, by decide +kernel⟩ (fun _ _ _ _ _ _ us hl => match us, hl with | [_, _, _], _ => rfl) rfl (by simp [noOwns, notOwn]) (fun W X hW k hX => ?_) (fun _ _ _ _ _ z => z.elim)
  obtain ⟨cdv, A, outer, s, H, E, rfl⟩ := hX
  let Γ1 : En := [some (lrT K so m near (l.map crowD)), some (Dt K (sgn own)), some (Dt K (.str (txt ar))), none, none, none, none]
  have cond : ∀ y ∈ l, Tst (cxOf CX0 P w K mg base ["_law_rule_here", "_law_own", "_law_around", "_law_mine", "_law_tests", "_law_sign_here", "_law_test_here"] "_law_becomes" (defScope (top 85)) (He.ga K "_law_becomes") cdv A outer s H E).nox K W (((Γ1.set 3 (some (Dt K (.str (txt y.own))))).set 4 (some (Dt K (.tuple (y.tests.map tstD))))).set 5 (some (Dt K (sgn y.sign))))
      (match defBody (top 85) with | .For _ _ (.If t _ _ _ :: _) _ _ :: _ => t | _ => .Constant .none 0 ⟨0, 0, 0, 0⟩) (fun b => b = rowFits near own ar y) := fun y hy =>
    tst_w (tsw_and (tst_cmp1 op_inS rd_inS (ev_var 1) (ev_var 3)) fun _ => tsw_and1 (tst_val (ev_allL y.tests (holds near ar) k (n_all c) (ev_lcm [("_law_test_here", 6)] y.tests (fun t => dat K (tstD t)) (fun t => .bool (holds near ar t)) k (it_tup y.tests tstD k (ev_var 4)) (fun t _ s0 H C cl fp => tg_name 6 k.blk)
      (fun t ht s0 H C cl fp => ev_call k.blk (ok_l_holds c near sg hl h8 ar har t ((hr y hy).tests t ht)) (ea_cons (ev_lr2 k.blk (ev_var 0)) (ea_cons (ev_var 2) (ea_cons (ev_var 6) ea_nil)))) (by have := (hr y hy).few; omega)))))
  refine srs_find l (fun r => dat K (crowD r)) (rowFits near own ar) Γ1 (fun y => ((Γ1.set 3 (some (Dt K (.str (txt y.own))))).set 4 (some (Dt K (.tuple (y.tests.map tstD))))).set 5 (some (Dt K (sgn y.sign)))) k (it_lst l crowD k (ev_lr3 k (ev_var 0))) (Sub.refl _)
    (fun y _ => tg_dat [.str (txt y.own), .tuple (y.tests.map tstD), sgn y.sign] k (tgs_cons (tg_name 3 k) (tgs_cons (tg_name 4 k) (tgs_cons (tg_name 5 k) tgs_nil)))) (fun y hy hf hp => ?_) (fun y hy hp => ?_) (fun hf => ?_)
  · refine srs_ifR (tst_eq (cond y hy) hp) (fun _ => srs_ret (ev_eq (ev_var 5) ?_)) fun z => nomatch z
    unfold fateC
    rw [hf]
  · refine srs_no (tst_eq (cond y hy) hp) (srs_nil fun _ _ _ _ q => q.sub ?_)
    exact ⟨.inr rfl, .inr rfl, .inr rfl, .inl rfl, .inl rfl, .inl rfl, .inr rfl, trivial⟩
  · refine srs_ret (ev_eq (ev_var 1) ?_)
    unfold fateC
    rw [hf]
theorem fitB_at {four : List Nat} {r : BRow} (h4 : four.length = 4) (n4 : r.fours.length = 4) : ((List.range 4).all fun i => decide (four.getD i 0 ∈ r.fours.getD i [])) = fitB four r := by
  unfold fitB
  match four, h4, r.fours, n4 with
  | [a, b, c, d], _, [e, f, g, h], _ => rfl
theorem ok_l_block (c : Ctx w K mg) (so : Str) (m : Nat) (near sg : List Nat) (l : List BRow) (hr : ∀ r ∈ l, BRowOk sg r) (hll : l.length ≤ 1000) (four : List Nat) (h4 : four.length = 4) :
    DfOk P w K mg base "_law_block" 1 false [lrT K so m near (l.map browD), Dt K (.str (txt four))] (Dt K (.str (txt (fateB l four)))) := by
  obtain ⟨fd, F0⟩ := (d__law_block c)
  refine mk_df ["_law_rule_here", "_law_four", "_law_fours", "_law_to", "_law_k"] (ps := ["_law_rule_here", "_law_four"]) (N := noA) F0 (g__law_block c) ⟨rfl, rfl, rfl, by decide +kernel, rfl, by decide +kernel, by decide +kernel⟩ (fun _ _ _ _ _ _ us hl => match us, hl with | [_, _], _ => rfl) rfl (by simp [noOwns, notOwn]) (fun W X hW k hX => ?_) (fun _ _ _ _ _ z => z.elim)
  obtain ⟨cdv, A, outer, s, H, E, rfl⟩ := hX
  let Γ1 : En := [some (lrT K so m near (l.map browD)), some (Dt K (.str (txt four))), none, none, none]
  have cond : ∀ y ∈ l, Tst (cxOf CX0 P w K mg base ["_law_rule_here", "_law_four", "_law_fours", "_law_to", "_law_k"] "_law_block" (defScope (top 86)) (He.ga K "_law_block") cdv A outer s H E).nox K W ((Γ1.set 2 (some (Dt K (.tuple (y.fours.map fun f => .str (txt f)))))).set 3 (some (Dt K (.str (txt y.four)))))
      (match defBody (top 86) with | .For _ _ (.If t _ _ _ :: _) _ _ :: _ => t | _ => .Constant .none 0 ⟨0, 0, 0, 0⟩) (fun b => b = fitB four y) := fun y hy => by
    have n4 := (hr y hy).n4
    rw [← fitB_at h4 n4]
    refine tst_val (ev_allL (List.range 4) (fun i => decide (four.getD i 0 ∈ y.fours.getD i [])) k (n_all c) (ev_lcm [("_law_k", 4)] (List.range 4) (fun i => dat K (.int (i : Nat))) (fun i => .bool (decide (four.getD i 0 ∈ y.fours.getD i []))) k (it_range1 (n := 4) k (n_range c) (ea_cons ev_int ea_nil)) (fun t _ s0 H C cl fp => tg_name 4 k.blk)
      (fun i hi s0 H C cl fp => ev_cmp op_inS rd_inS (ev_ixS (l := four) (n := four.getD i 0) (ev_var 1) (ev_var 4) ?_ (by omega)) (ev_ixT (d := .str (txt (y.fours.getD i []))) k.blk (ev_var 2) (ev_var 4) ?_)) (by decide)))
    · have hi4 := List.mem_range.mp hi
      refine atI_nat ?_
      rw [List.getElem?_eq_getElem (by omega)]
      simp [show i < four.length by omega]
    · have hi4 := List.mem_range.mp hi
      refine atI_nat ?_
      rw [List.getElem?_map, List.getElem?_eq_getElem (by omega)]
      simp [show i < y.fours.length by omega]
  refine srs_find l (fun r => dat K (browD r)) (fitB four) Γ1 (fun y => (Γ1.set 2 (some (Dt K (.tuple (y.fours.map fun f => .str (txt f)))))).set 3 (some (Dt K (.str (txt y.four))))) k (it_lst l browD k (ev_lr3 k (ev_var 0))) (Sub.refl _)
    (fun y _ => tg_dat [.tuple (y.fours.map fun f => .str (txt f)), .str (txt y.four)] k (tgs_cons (tg_name 2 k) (tgs_cons (tg_name 3 k) tgs_nil))) (fun y hy hf hp => ?_) (fun y hy hp => ?_) (fun hf => ?_)
  · refine srs_ifR (tst_eq (cond y hy) hp) (fun _ => srs_ret (ev_eq (ev_var 3) ?_)) fun z => nomatch z
    unfold fateB
    rw [hf]
  · refine srs_no (tst_eq (cond y hy) hp) (srs_nil fun _ _ _ _ q => q.sub ?_)
    exact ⟨.inr rfl, .inr rfl, .inl rfl, .inl rfl, .inr rfl, trivial⟩
  · refine srs_ret (ev_eq (ev_var 1) ?_)
    unfold fateB
    rw [hf]
end
end Cs

set_option Elab.async false
set_option linter.all false
set_option autoImplicit false
set_option maxRecDepth 100000
set_option maxHeartbeats 4000000
/-! The law's world. -/
namespace Cs
open PySem PySem.Spec PyProof.Rows L2
section
variable {P : Program} {w : World} {K : PySem.W.Frag} {mg : Str → Option Value} {base : Heap} {k : Nat} {X : Cx} {W : Option Addr} {Γ : En} {a b dd : Expr} {fl : Flds} {t0 : T} {apos cpos : Pos} {N B C : As} {R : Ent} {rest : List Stmt}
/-- d.get("f", c) -/
theorem ev_rgetD (f : Str) (c : Cok P w K mg base k X) (hd : Ev X K W Γ a (.fro (recT fl))) (hb : Ev X K W Γ b (Dt K (.str f))) (hx : Ev X K W Γ dd (.fro t0)) (m : M2 X a "get" apos b dd cpos := by exact ⟨rfl, rfl, rfl, rfl⟩) : Ev X K W Γ (.Call (.Attribute a "get" apos) [b, dd] [] cpos) (.fro ((fl.lookup f).getD t0)) :=
  peI (pe_dget2 c.two hd hb hx m) fun σ H Q ⟨H0, G, fr, en, k⟩ => ⟨H0, G, fr, en, fun v H1 G1 s1 q1 => by
    obtain ⟨p, ob, kvs, rfl, e, q⟩ := up.now q1
    refine ⟨p, rfl, .inl ⟨kvs, .inr ⟨ob, s1.frm.1 _ _ e⟩⟩, H0, G1, s1.frm, en.step s1, fun y H2 G2 s2 q2 => ⟨H0, G2, (s1.trans s2).frm, en.step (s1.trans s2), fun z H3 G3 s3 q3 => ?_⟩⟩
    have s23 := s2.trans s3
    have e3 : G3 p = some (.frz ob (.dK kvs)) := s23.gro _ _ e
    refine ⟨valV kvs (.inr f), .inl ⟨kvs, .inr f, .inr ⟨ob, s3.frm.1 _ _ e3⟩, dt_str q2, rfl⟩, ?_⟩
    cases hl : fl.lookup f with
    | none =>
      rw [q.noneF hl]
      exact k _ H3 G3 (s1.trans s23) (by rw [hl]; exact q3)
    | some t =>
      obtain ⟨u, h1, h2⟩ := q.get hl
      rw [h1]
      exact k _ H3 G3 (s1.trans s23) (by rw [hl]; exact up.lk h2 (Lk.same s23.gro))⟩
theorem srs_frzR (i : Nat) (h : Srs X K W rest (envA W (Γ.set i (some (.fro (recT fl))))) N B C R) (he : Γ[i]? = some (some (.own (recO fl))) := by rfl) : Srs X K W rest (envA W Γ) N B C R :=
  srs_frz i he (fun _ G ho z => by obtain ⟨_, rfl, _⟩ := z; exact True.intro) (fun G p od ho hp z G' l => by
    obtain ⟨kvs, rfl, q⟩ := z G' l
    exact ⟨p, od, kvs, rfl, l _ _ hp, q⟩) h
end
/-- the law's world -/
def worldF (K : PySem.W.Frag) (cs : Cells) (t : Int) : Flds := [("sort", dat K (.str "endless")), ("wide", dat K .none), ("high", dat K .none), ("edge", dat K .none), ("turn", dat K (.int t)), ("cells", dctT (sgs cs))]
abbrev woT (K : PySem.W.Frag) (cs : Cells) (t : Int) : Ent := .fro (recT (worldF K cs t))
def offsF (K : PySem.W.Frag) (ps : List Nat) : Flds := ps.map fun p => (plc p, dat K (offD p))
section
variable {P : Program} {w : World} {K : PySem.W.Frag} {mg : Str → Option Value} {base : Heap}
theorem ok_l_sign (c : Ctx w K mg) (cs : Cells) (t x y : Int) : DfOk P w K mg base "_law_sign" 1 false [woT K cs t, Dt K (.int x), Dt K (.int y)] (Dt K (sgn (at_ cs x y))) := by
  obtain ⟨fd, F0⟩ := (d__law_sign c)
  refine mk_df ["_law_world", "_law_x", "_law_y"] (ps := ["_law_world", "_law_x", "_law_y"]) (N := noA) F0 (g__law_sign c) ⟨rfl, rfl, rfl, by decide +kernel, rfl, by decide +kernel, by decide +kernel⟩ (fun _ _ _ _ _ _ us hl => match us, hl with | [_, _, _], _ => rfl) rfl (by simp [noOwns, notOwn]) (fun W X hW k hX => ?_) (fun _ _ _ _ _ z => z.elim)
  obtain ⟨cdv, A, outer, s, H, E, rfl⟩ := hX
  refine srs_no (tst_eq (tst_eqS (x := "endless") (y := "torus") k (ev_rget "sort" k (ev_var 0) ev_str) ev_str) rfl) ?_
  refine srs_no (tst_eq (tst_eqS (x := "endless") (y := "box") k (ev_rget "sort" k (ev_var 0) ev_str) ev_str) rfl) ?_
  exact srs_ret (ev_dgetD (q := (x, y)) (n := 46) k (ev_rget "cells" k (ev_var 0) ev_str) (ev_key (ead_cons (ev_var 1) (ead_cons (ev_var 2) ead_nil))) (ev_txt [46]))
theorem ok_l_spots (c : Ctx w K mg) (cs : Cells) (t : Int) (hz : cs.length ≤ 100000) : DfOk P w K mg base "_law_spots" 2 false [woT K cs t] (Dt K (.list ((nbs gL (cs.map (·.1))).map sptD))) := by
  obtain ⟨fd, F0⟩ := (d__law_spots c)
  refine mk_df ["_law_world", "_law_found", "_law_x", "_law_y", "_law_k"] (ps := ["_law_world"]) (N := noA) F0 (g__law_spots c) ⟨rfl, rfl, rfl, by decide +kernel, rfl, by decide +kernel, by decide +kernel⟩ (fun _ _ _ _ _ _ us hl => match us, hl with | [_], _ => rfl) rfl (by simp [noOwns, notOwn]) (fun W X hW k hX => ?_) (fun _ _ _ _ _ z => z.elim)
  obtain ⟨cdv, A, outer, s, H, E, rfl⟩ := hX
  refine srs_no (tst_eq (tst_neS (x := "endless") (y := "endless") k (ev_rget "sort" k (ev_var 0) ev_str) ev_str) rfl) ?_
  refine srs_set 1 k ev_dnew ?_
  have ek : (cs.map (·.1)).map keyT = (sgs cs).map fun z => keyT z.1 := by unfold sgs; rw [List.map_map, List.map_map]; rfl
  let J : List Spot → En := fun pre => [some (woT K cs t), some (.own (dctO (marks (nbs gL pre)))), none, none, none]
  refine srs_cons (sr_for (cs.map (·.1)) keyT J (fun pre q => ((J pre).set 2 (some (Dt K (.int q.1)))).set 3 (some (Dt K (.int q.2)))) k (by rw [ek]; exact it_keys (ev_rget "cells" k (ev_var 0) ev_str)) ?_ (fun pre q post _ => tg_key k (tgs_cons (tg_name 2 k) (tgs_cons (tg_name 3 k) tgs_nil))) (fun pre q post e => ?_) (fun _ _ _ _ z => z)) ?_
  · exact ⟨.inr rfl, .inr rfl, .inr rfl, .inr rfl, .inr rfl, trivial⟩
  · have hpre : pre.length ≤ 100000 := by
      have := congrArg List.length e
      rw [List.length_map, List.length_append] at this
      omega
    let J1 : List Nat → En := fun ks => [some (woT K cs t), some (.own (dctO (marks (nb1 gL q (nbs gL pre) ks)))), some (Dt K (.int q.1)), some (Dt K (.int q.2)), none]
    refine srs_cons (N := envA W (J (pre ++ [q]))) (sr_for (List.range 9) (fun i => dat K (.int (i : Nat))) J1 (fun ks i => (J1 ks).set 4 (some (Dt K (.int (i : Nat))))) k (it_range1 k (n_range c) (ea_cons ev_int ea_nil)) (Sub.refl _) (fun ks i post _ => tg_name 4 k) (fun ks i post e2 => ?_) (fun _ _ _ _ z => (z : envA W (J1 (List.range 9)) _ _ _ _))) (srs_nil fun _ _ _ _ z => ?_)
    · have hks : ks.length ≤ 9 := by
        have := congrArg List.length e2
        rw [List.length_range, List.length_append] at this
        omega
      have l1 := nb1_len gL q ks (nbs gL pre)
      have l2 := nbs_len gL pre
      refine srs_cons (sr_dput 1 (ps := marks (nb1 gL q (nbs gL pre) ks)) (q := gL q i) (u := .bl true) (t := fun _ v => v = .bl true) k (ev_key (ead_cons (ev_add (ev_sub (ev_var 2) ev_int) (ev_mod (ev_var 4) ev_int (by decide))) (ead_cons (ev_add (ev_sub (ev_var 3) ev_int) (ev_fdiv (ev_var 4) ev_int (by decide) (by decide))) ead_nil))) (ev_to ev_bl fun _ _ _ _ z G' l => by have := z G' l; cases this; rfl) (fun G v z => up.now z) (by unfold marks; rw [List.length_map]; omega)) ?_
      rw [put_marks]
      refine srs_nil fun _ _ _ _ z => ?_
      have z' := z.sub (Γ' := J1 (ks ++ [i])) ⟨.inr rfl, .inr (by show some (Ent.own (dctO (marks (nb1 gL q (nbs gL pre) (ks ++ [i]))))) = _; rw [nb1_snoc]), .inr rfl, .inr rfl, .inl rfl, trivial⟩
      exact z'
    · refine EnvOk.sub z ⟨.inr rfl, .inr ?_, .inl rfl, .inl rfl, .inr rfl, trivial⟩
      rw [nbs_snoc]
  · refine srs_frzD 1 ?_
    refine srs_ret (ev_eq (ev_listD (es := []) k (n_list c) (ea_cons (ev_var 1) ea_nil)) ?_)
    unfold marks
    rw [List.map_map]; rfl
theorem offs_look (K : PySem.W.Frag) {p : Nat} (hp : p < 8) : (List.lookup (plc p) (offsF K [0, 1, 2, 3, 4, 5, 6])).getD (dat K (offD 7)) = dat K (offD p) := by
  rcases p with _ | _ | _ | _ | _ | _ | _ | _ | p
  · rfl
  · rfl
  · rfl
  · rfl
  · rfl
  · rfl
  · rfl
  · rfl
  · omega
theorem ok_l_off (c : Ctx w K mg) (p : Nat) (hp : p < 8) : DfOk P w K mg base "_law_off" 1 false [Dt K (.str (plc p))] (Dt K (offD p)) := by
  obtain ⟨fd, F0⟩ := (d__law_off c)
  refine mk_df ["_law_place", "_law_offs"] (ps := ["_law_place"]) (N := noA) F0 (g__law_off c) ⟨rfl, rfl, rfl, by decide +kernel, rfl, by decide +kernel, by decide +kernel⟩ (fun _ _ _ _ _ _ us hl => match us, hl with | [_], _ => rfl) rfl (by simp [noOwns, notOwn]) (fun W X hW k hX => ?_) (fun _ _ _ _ _ z => z.elim)
  obtain ⟨cdv, A, outer, s, H, E, rfl⟩ := hX
  refine srs_set 1 k (ev_rec (offsF K [0, 1, 2, 3, 4]) (rc_cons ev_str (ev_tup (ead_cons ev_int (ead_cons (ev_neg ev_int) ead_nil))) (rc_cons ev_str (ev_tup (ead_cons ev_int (ead_cons (ev_neg ev_int) ead_nil))) (rc_cons ev_str (ev_tup (ead_cons ev_int (ead_cons ev_int ead_nil))) (rc_cons ev_str (ev_tup (ead_cons ev_int (ead_cons ev_int ead_nil))) (rc_cons ev_str (ev_tup (ead_cons ev_int (ead_cons ev_int ead_nil))) rc_nil)))))) ?_
  refine srs_cons (sr_update 1 (fl := mergeF [] (offsF K [0, 1, 2, 3, 4])) (fm := mergeF [] (offsF K [5, 6])) k (ev_rec (offsF K [5, 6]) (rc_cons ev_str (ev_tup (ead_cons (ev_neg ev_int) (ead_cons ev_int ead_nil))) (rc_cons ev_str (ev_tup (ead_cons (ev_neg ev_int) (ead_cons ev_int ead_nil))) rc_nil))) (Nat.lt_of_lt_of_le (show 7 < 8 by decide) (by decide))) ?_
  refine srs_frzR 1 (fl := offsF K [0, 1, 2, 3, 4, 5, 6]) ?_
  exact srs_ret (ev_to (ev_rgetD (t0 := dat K (offD 7)) (plc p) k (ev_var 1) (ev_var 0) (ev_tup (ead_cons (ev_neg ev_int) (ead_cons (ev_neg ev_int) ead_nil)))) fun _ _ _ _ z => by rw [offs_look K hp] at z; exact z)
end
end Cs

set_option Elab.async false
set_option linter.all false
set_option autoImplicit false
set_option maxRecDepth 100000
set_option maxHeartbeats 4000000
/-! The law's turn. -/
namespace Cs
open PySem PySem.Spec PyProof.Rows L2
theorem still_lstT {K : PySem.W.Frag} {ts : List T} {G : Hp} {a : Addr} {ho : HO} (hp : G a = some ho) (h : ∀ G', Lk G G' → lstOT ts a G' ho) : up (lstT K ts) G (.ref a) := fun G' l => by
  obtain ⟨vs, rfl, q⟩ := h G' l
  exact ⟨a, vs, rfl, .inl (.inl (l.at_ hp)), q⟩
theorem keys_dat {K : PySem.W.Frag} {G : Hp} : ∀ {vs : List V} {qs : List Spot}, TsOk G vs (qs.map keyT) → DpAll K G vs (qs.map sptD)
  | [], [], _ => .nil
  | _ :: _, _ :: _, h => .cons (up.now (key_dat h.1)) (keys_dat h.2)
  | [], _ :: _, h => h.elim
  | _ :: _, [], h => h.elim
theorem lstT_keys {K : PySem.W.Frag} {G : Hp} {v : V} {qs : List Spot} (h : up (lstT K (qs.map keyT)) G v) : up (dat K (.list (qs.map sptD))) G v := fun G' l => by
  obtain ⟨p, xs, rfl, hs, hd⟩ := h G' l
  exact .lst hs (keys_dat hd)
section
variable {P : Program} {w : World} {K : PySem.W.Frag} {mg : Str → Option Value} {base : Heap} {k : Nat} {X : Cx} {W : Option Addr} {Γ : En} {a : Expr}
theorem ev_keyD {q : Spot} (h : Ev X K W Γ a (.fro (keyT q))) : Ev X K W Γ a (Dt K (sptD q)) := ev_to h fun _ _ _ _ z => key_dat z
theorem ev_keysD {qs : List Spot} (h : Ev X K W Γ a (.fro (lstT K (qs.map keyT)))) : Ev X K W Γ a (Dt K (.list (qs.map sptD))) := ev_to h fun _ _ _ _ z => lstT_keys z
end
section
variable {P : Program} {w : World} {K : PySem.W.Frag} {mg : Str → Option Value} {base : Heap}
theorem blk_by (x y t : Int) : (List.range 4).map (fun i : Nat => keyT (x - (x + t) % 2 + (i : Int) % 2, y - (y + t) % 2 + (i : Int) / 2)) = (blkS x y t).map keyT := by
  simp [List.range_succ, blkS]
theorem ok_l_in_block (c : Ctx w K mg) (so : Str) (m : Nat) (near sg : List Nat) (l : List BRow) (hr : ∀ r ∈ l, BRowOk sg r) (hll : l.length ≤ 1000) (cs : Cells) (t x y : Int) :
    DfOk P w K mg base "_law_in_block" 2 false [lrT K so m near (l.map browD), woT K cs t, Dt K (.int x), Dt K (.int y)] (Dt K (sgn (behB l cs t x y))) := by
  obtain ⟨fd, F0⟩ := (d__law_in_block c)
  refine mk_df ["_law_rule_here", "_law_world", "_law_x", "_law_y", "_law_left", "_law_top", "_law_spots_here", "_law_k", "_law_inside", "_law_spot", "_law_four"] (ps := ["_law_rule_here", "_law_world", "_law_x", "_law_y"]) (N := noA) F0 (g__law_in_block c) ⟨rfl, rfl, rfl, by decide +kernel, rfl, by decide +kernel, by decide +kernel⟩ (fun _ _ _ _ _ _ us hl => match us, hl with | [_, _, _, _], _ => rfl) rfl (by simp [noOwns, notOwn]) (fun W X hW k hX => ?_) (fun _ _ _ _ _ z => z.elim)
  obtain ⟨cdv, A, outer, s, H, E, rfl⟩ := hX
  refine srs_set 4 k (ev_sub (ev_var 2) (ev_mod (ev_add (ev_var 2) (ev_rget (t := dat K (.int t)) "turn" k (ev_var 1) ev_str)) ev_int (by decide))) ?_
  refine srs_set 5 k (ev_sub (ev_var 3) (ev_mod (ev_add (ev_var 3) (ev_rget (t := dat K (.int t)) "turn" k (ev_var 1) ev_str)) ev_int (by decide))) ?_
  refine srs_cons (sr_setLc 6 (own := [("_law_k", 7)]) k (lc_still (t := lstT K ((blkS x y t).map keyT)) (lc_mapT (js := [7]) (List.range 4) (fun i => dat K (.int (i : Nat))) (fun i : Nat => keyT (x - (x + t) % 2 + (i : Int) % 2, y - (y + t) % 2 + (i : Int) / 2)) (it_range1 (n := 4) k (n_range c) (ea_cons ev_int ea_nil)) (blkOk_by (by rfl)) (fun i _ s0 H C cl fp => tg_name 7 k.blk)
    (fun i _ s0 H C cl fp => ev_key (ead_cons (ev_add (ev_var 4) (ev_mod (ev_var 7) ev_int (by decide))) (ead_cons (ev_add (ev_var 5) (ev_fdiv (ev_var 7) ev_int (by decide) (by decide))) ead_nil))) (by decide) (by decide)) (fun G p ho hp z => by rw [blk_by] at z; exact still_lstT hp z))) ?_
  refine srs_lcm 8 [("_law_spot", 9)] (blkS x y t) keyT (fun q => .bool (valV (sgs cs) q).isSome) k (it_lstT k (ev_var 6)) (fun q _ s0 H C cl fp => tg_name 9 k.blk) (fun q _ s0 H C cl fp => ev_cmp (op_inD k.blk) rd_inD (ev_var 9) (ev_rget (t := dctT (sgs cs)) "cells" k.blk (ev_var 1) ev_str)) (Nat.le_of_ble_eq_true rfl) ?_
  refine srs_no (tst_eq (tst_w (tsw_and (c2 := false) (tst_eqS (x := "endless") (y := "box") k (ev_rget "sort" k (ev_var 1) ev_str) ev_str) fun z => absurd z (by decide))) rfl) ?_
  have e0 : ((blkS x y t).map fun q => sgn (at_ cs q.1 q.2)) = ((blkS x y t).map fun q => [at_ cs q.1 q.2]).map fun z => PyData.str (txt z) := by rw [List.map_map]; rfl
  have e1 : ((blkS x y t).map fun q => [at_ cs q.1 q.2]).flatten = (blkS x y t).map fun q => at_ cs q.1 q.2 := rfl
  refine srs_set 10 k (ev_eq (ev_join (l := []) (xs := (blkS x y t).map fun q => [at_ cs q.1 q.2]) k (ev_txt []) (ev_eq (ev_lcm [("_law_spot", 9)] (blkS x y t) keyT (fun q => sgn (at_ cs q.1 q.2)) k (it_lstT k (ev_var 6)) (fun q _ s0 H C cl fp => tg_name 9 k.blk)
    (fun q _ s0 H C cl fp => ev_call k.blk (ok_l_sign c cs t q.1 q.2) (ea_cons (ev_var 1) (ea_cons (ev_ixT k.blk (ev_keyD (ev_var 9)) ev_int rfl) (ea_cons (ev_ixT k.blk (ev_keyD (ev_var 9)) ev_int rfl) ea_nil)))) (Nat.le_of_ble_eq_true rfl)) (congrArg PyData.list e0)) (Nat.le_of_ble_eq_true rfl)) (by rw [e1])) ?_
  have hj := find_first (blk_mem x y t)
  have hlt := List.idxOf_lt_length_of_mem (blk_mem x y t)
  have h4 := fateB_len hr (four := (blkS x y t).map fun q => at_ cs q.1 q.2) rfl
  have hlt4 : (blkS x y t).idxOf (x, y) < (fateB l ((blkS x y t).map fun q => at_ cs q.1 q.2)).length := by rw [h4]; exact hlt
  refine srs_ret (ev_ixS (l := fateB l ((blkS x y t).map fun q => at_ cs q.1 q.2)) (n := behB l cs t x y) (ev_call k (ok_l_block c so m near sg l hr hll _ rfl) (ea_cons (ev_var 0) (ea_cons (ev_var 10) ea_nil)))
    (ev_lIndex (j := (blkS x y t).idxOf (x, y)) (z := sptD (x, y)) k (ev_keysD (ev_var 6)) (ev_tup (ead_cons (ev_var 2) (ead_cons (ev_var 3) ead_nil))) (sh_lst (sh_map fun q _ => spt_sh q)).sh (spt_sh (x, y)).sh (by rw [List.getElem?_map, hj]; rfl) ((spt_eqv _ _).trans (decide_eq_true rfl)) (fun m' z' hm hz => ?_)) ?_ (by rw [h4]; decide))
  · rw [List.getElem?_map] at hz
    cases e : (blkS x y t)[m']? with
    | none => rw [e] at hz; cases hz
    | some q =>
      rw [e] at hz
      cases hz
      refine (spt_eqv q (x, y)).trans (decide_eq_false fun z => first_no hm (by rw [e, z]))
  · refine atI_nat ?_
    unfold behB
    rw [List.getElem?_eq_getElem hlt4]
    simp [hlt4]
theorem ok_l_sign_later (c : Ctx w K mg) (r : Ru) (h : r.Ok) (cs : Cells) (t x y : Int) : DfOk P w K mg base "_law_sign_later" 3 false [lrT K r.so r.m r.near r.rows.D, woT K cs t, Dt K (.int x), Dt K (.int y)] (Dt K (sgn (behind r cs t x y))) := by
  obtain ⟨so, m, near, rows⟩ := r
  obtain ⟨fd, F0⟩ := (d__law_sign_later c)
  refine mk_df ["_law_rule_here", "_law_world", "_law_x", "_law_y", "_law_own", "_law_offs", "_law_place", "_law_around", "_law_off_here"] (ps := ["_law_rule_here", "_law_world", "_law_x", "_law_y"]) (N := noA) F0 (g__law_sign_later c) ⟨rfl, rfl, rfl, by decide +kernel, rfl, by decide +kernel, by decide +kernel⟩ (fun _ _ _ _ _ _ us hl => match us, hl with | [_, _, _, _], _ => rfl) rfl (by simp [noOwns, notOwn]) (fun W X hW k hX => ?_) (fun _ _ _ _ _ z => z.elim)
  obtain ⟨cdv, A, outer, s, H, E, rfl⟩ := hX
  have hfew := h.few
  cases rows with
  | block l =>
    rw [Rws.D, List.length_map] at hfew
    refine srs_ifR (cv := true) (tst_eq (tst_eqS k (ev_lr0 k (ev_var 0)) ev_str) (decide_eq_true h.rows.1)) (fun _ => ?_) fun z => nomatch z
    exact srs_ret (ev_call k (ok_l_in_block c so m near (sigs m) l h.rows.2 (by omega) cs t x y) (ea_cons (ev_var 0) (ea_cons (ev_var 1) (ea_cons (ev_var 2) (ea_cons (ev_var 3) ea_nil)))))
  | cell l =>
    rw [Rws.D, List.length_map] at hfew
    have h8 : near.length ≤ 8 := h.nr.few
    refine srs_no (tst_eq (tst_eqS k (ev_lr0 k (ev_var 0)) ev_str) (decide_eq_false h.rows.1)) ?_
    refine srs_set 4 k (ev_call k (ok_l_sign c cs t x y) (ea_cons (ev_var 1) (ea_cons (ev_var 2) (ea_cons (ev_var 3) ea_nil)))) ?_
    refine srs_ifR (cv := decide (so = "halves") && decide ((x + y + t) % 2 = 1)) (tst_w (tsw_and (tst_eqS k (ev_lr0 k (ev_var 0)) ev_str) fun _ => tsw_and1 (tst_eqI k (ev_mod (ev_add (ev_add (ev_var 2) (ev_var 3)) (ev_rget (t := dat K (.int t)) "turn" k (ev_var 1) ev_str)) ev_int (by decide)) ev_int))) (fun z => srs_ret (ev_eq (ev_var 4) ?_)) fun z => ?_
    · rw [Bool.and_eq_true] at z
      show _ = sgn (if so = "halves" ∧ (x + y + t) % 2 = 1 then at_ cs x y else _)
      rw [if_pos ⟨of_decide_eq_true z.1, of_decide_eq_true z.2⟩]
    · have hn : ¬ (so = "halves" ∧ (x + y + t) % 2 = 1) := fun q => by rw [decide_eq_true q.1, decide_eq_true q.2] at z; cases z
      refine srs_lcm 5 [("_law_place", 6)] near (fun p => dat K (.str (plc p))) offD k (it_tup near (fun p => .str (plc p)) k (ev_xd (ev_lr2 k (ev_var 0)))) (fun p _ s0 H C cl fp => tg_name 6 k.blk) (fun p hp s0 H C cl fp => ev_call k.blk (ok_l_off c p (h.nr.lt p hp)) (ea_cons (ev_var 6) ea_nil)) (by omega) ?_
      refine srs_lcm 7 [("_law_off_here", 8)] near (fun p => dat K (offD p)) (fun p => sgn (at_ cs (x + (offP p).1) (y + (offP p).2))) k (it_lst near offD k (ev_var 5)) (fun p _ s0 H C cl fp => tg_name 8 k.blk) (fun p hp s0 H C cl fp => ev_call k.blk (ok_l_sign c cs t (x + (offP p).1) (y + (offP p).2)) (ea_cons (ev_var 1) (ea_cons (ev_add (ev_var 2) (ev_ixT (ds := [.int (offP p).1, .int (offP p).2]) k.blk (ev_var 8) ev_int rfl)) (ea_cons (ev_add (ev_var 3) (ev_ixT (ds := [.int (offP p).1, .int (offP p).2]) k.blk (ev_var 8) ev_int rfl)) ea_nil)))) (by omega) ?_
      have e0 : (near.map fun p => sgn (at_ cs (x + (offP p).1) (y + (offP p).2))) = (near.map fun p => [at_ cs (x + (offP p).1) (y + (offP p).2)]).map fun z => PyData.str (txt z) := by rw [List.map_map]; rfl
      have e1 : (near.map fun p => [at_ cs (x + (offP p).1) (y + (offP p).2)]).flatten = beside near cs x y := flat_map1 near _
      refine srs_ret (ev_eq (ev_call k (ok_l_becomes c so m near (sigs m) l h.rows.2 h.nr.lt h8 (by omega) (beside near cs x y) (by unfold beside; rw [List.length_map]) (at_ cs x y)) (ea_cons (ev_var 0) (ea_cons (ev_var 4) (ea_cons (ev_eq (ev_join (l := []) (xs := near.map fun p => [at_ cs (x + (offP p).1) (y + (offP p).2)]) k (ev_txt []) (ev_eq (ev_var 7) (congrArg PyData.list e0)) (by rw [sum_map1]; omega)) (by rw [e1])) ea_nil)))) ?_)
      show _ = sgn (if so = "halves" ∧ (x + y + t) % 2 = 1 then at_ cs x y else _)
      rw [if_neg hn]
/-- the law's turn -/
def keptL (r : Ru) (cs : Cells) (t : Int) (qs : List Spot) : Cells := (qs.map fun q => (q, behind r cs t q.1 q.2)).filter fun z => !decide (z.2 = 46)
def stepL (r : Ru) (cs : Cells) (t : Int) : Cells := keptL r cs t (nbs gL (cs.map (·.1)))
theorem kept_sub {r : Ru} {cs : Cells} {t : Int} {qs : List Spot} : ∀ q ∈ (keptL r cs t qs).map (·.1), q ∈ qs := fun q hq => by
  obtain ⟨z, hz, rfl⟩ := List.mem_map.mp hq
  have hz' := (List.mem_filter.mp hz).1
  obtain ⟨q, h, rfl⟩ := List.mem_map.mp hz'
  exact h
theorem kept_len {r : Ru} {cs : Cells} {t : Int} {qs : List Spot} : (keptL r cs t qs).length ≤ qs.length := by
  unfold keptL
  refine Nat.le_trans (List.length_filter_le _ _) ?_
  rw [List.length_map]
  exact Nat.le_refl _
theorem ok_l_turn (c : Ctx w K mg) (r : Ru) (h : r.Ok) (cs : Cells) (t : Int) (hz : cs.length ≤ 100000) : DfOk P w K mg base "_law_turn" 4 false [lrT K r.so r.m r.near r.rows.D, woT K cs t] (.own (recO (worldF K (stepL r cs t) (t + 1)))) := by
  obtain ⟨fd, F0⟩ := (d__law_turn c)
  refine mk_df ["_law_rule_here", "_law_world", "_law_cells", "_law_x", "_law_y", "_law_sign_here", "_law_later_here"] (ps := ["_law_rule_here", "_law_world"]) (N := noA) F0 (g__law_turn c) ⟨rfl, rfl, rfl, by decide +kernel, rfl, by decide +kernel, by decide +kernel⟩ (fun _ _ _ _ _ _ us hl => match us, hl with | [_, _], _ => rfl) rfl (by simp [noOwns, notOwn]) (fun W X hW k hX => ?_) (fun _ _ _ _ _ z => z.elim)
  obtain ⟨cdv, A, outer, s, H, E, rfl⟩ := hX
  have nl := nbs_len gL (cs.map (·.1))
  rw [List.length_map] at nl
  refine srs_set 2 k ev_dnew ?_
  let J : List Spot → En := fun pre => [some (lrT K r.so r.m r.near r.rows.D), some (woT K cs t), some (.own (dctO (sgs (keptL r cs t pre)))), none, none, none, none]
  refine srs_cons (M := envA W (J (nbs gL (cs.map (·.1))))) (sr_for (nbs gL (cs.map (·.1))) (fun q => dat K (sptD q)) J (fun pre q => ((J pre).set 3 (some (Dt K (.int q.1)))).set 4 (some (Dt K (.int q.2)))) k (it_lst _ sptD k (ev_call k (ok_l_spots c cs t hz) (ea_cons (ev_var 1) ea_nil))) ?_ (fun pre q post _ => tg_dat [.int q.1, .int q.2] k (tgs_cons (tg_name 3 k) (tgs_cons (tg_name 4 k) tgs_nil))) (fun pre q post e => ?_) (fun _ _ _ _ z => z)) ?_
  · exact ⟨.inr rfl, .inr rfl, .inr rfl, .inr rfl, .inr rfl, .inr rfl, .inr rfl, trivial⟩
  · have hnd := nbs_nd (g := gL) (cs.map (·.1))
    rw [e] at hnd
    have hq : q ∉ pre := fun m => (List.nodup_append.mp hnd).2.2 q m q (List.mem_cons_self ..) rfl
    have hpre : pre.length ≤ 900000 := by
      have := congrArg List.length e
      rw [List.length_append] at this
      omega
    have kl := @kept_len r cs t pre
    refine srs_set 5 k (ev_call k (ok_l_sign_later c r h cs t q.1 q.2) (ea_cons (ev_var 0) (ea_cons (ev_var 1) (ea_cons (ev_var 3) (ea_cons (ev_var 4) ea_nil))))) ?_
    have ek : keptL r cs t (pre ++ [q]) = keptL r cs t pre ++ if behind r cs t q.1 q.2 = 46 then [] else [(q, behind r cs t q.1 q.2)] := by
      unfold keptL
      rw [List.map_append, List.filter_append, List.map_cons, List.map_nil, List.filter_cons, List.filter_nil]
      by_cases z : behind r cs t q.1 q.2 = 46 <;> simp [z]
    refine srs_if (M := envA W (J (pre ++ [q]))) (cv := !decide (behind r cs t q.1 q.2 = 46)) (tst_eq (tst_w (tsw_or (c2 := false) (tst_neX (l := [behind r cs t q.1 q.2]) (m := [46]) k (ev_var 5) (ev_txt [46])) fun _ => tsw_or1 (tst_eq (tst_neS (x := "endless") (y := "endless") k (ev_rget "sort" k (ev_var 1) ev_str) ev_str) rfl))) (by simp)) (fun z => ?_) (fun z => ?_) (srs_nil fun _ _ _ _ z => z)
    · have hb : ¬ behind r cs t q.1 q.2 = 46 := by simpa using z
      refine srs_cons (sr_dput 2 (ps := sgs (keptL r cs t pre)) (q := q) (u := sgV (behind r cs t q.1 q.2)) (t := vlT (sgV (behind r cs t q.1 q.2))) k (ev_key (ead_cons (ev_var 3) (ead_cons (ev_var 4) ead_nil))) (ev_vl (ev_var 5)) (fun G v z => up.now z) (by unfold sgs; rw [List.length_map]; omega)) ?_
      refine srs_nil fun _ _ _ _ z => z.sub ⟨.inr rfl, .inr rfl, .inr ?_, .inl rfl, .inl rfl, .inl rfl, .inr rfl, trivial⟩
      rw [ek, if_neg hb, put_new]
      · show some (Ent.own (dctO (sgs (_ ++ _)))) = _
        unfold sgs
        rw [List.map_append]; rfl
      · intro m
        unfold sgs at m
        rw [List.map_map] at m
        exact hq (kept_sub q m)
    · have hb : behind r cs t q.1 q.2 = 46 := by simpa using z
      refine srs_nil fun _ _ _ _ z => z.sub ⟨.inr rfl, .inr rfl, .inr ?_, .inl rfl, .inl rfl, .inl rfl, .inr rfl, trivial⟩
      rw [ek, if_pos hb, List.append_nil]
  · refine srs_frzD 2 ?_
    refine srs_set 6 k (ev_dictR (fl := worldF K cs t) k (n_dict c) (ea_cons (ev_var 1) ea_nil)) ?_
    refine srs_cons (sr_update 6 (fl := worldF K cs t) (fm := [("cells", dctT (sgs (stepL r cs t))), ("turn", dat K (.int (t + 1)))]) k (ev_rec [("cells", dctT (sgs (stepL r cs t))), ("turn", dat K (.int (t + 1)))] (rc_cons ev_str (ev_var 2) (rc_cons ev_str (ev_add (ev_rget (t := dat K (.int t)) "turn" k (ev_var 1) ev_str) ev_int) rc_nil))) (Nat.lt_of_lt_of_le (show 8 < 9 by decide) (by decide))) ?_
    exact srs_retO 6
theorem ok_l_made (c : Ctx w K mg) (so : Str) (m : Nat) (near : List Nat) (rw : Rws) (h : RlOk so m near rw) : DfOk P w K mg base "_law_made" 8 false [lrT K so m near rw.D] (ruT K so m near rw.D) := by
  obtain ⟨fd, F0⟩ := (d__law_made c)
  refine mk_df ["_law_rule_here"] (ps := ["_law_rule_here"]) (N := noA) F0 (g__law_made c) ⟨rfl, rfl, rfl, by decide +kernel, rfl, by decide +kernel, by decide +kernel⟩ (fun _ _ _ _ _ _ us hl => match us, hl with | [_], _ => rfl) rfl (by simp [noOwns, notOwn]) (fun W X hW k hX => ?_) (fun _ _ _ _ _ z => z.elim)
  obtain ⟨cdv, A, outer, s, H, E, rfl⟩ := hX
  exact srs_ret (ev_make k (ok_Rule c so m near rw h) (ea_cons (ev_lr0 k (ev_var 0)) (ea_cons (ev_lr1 k (ev_var 0)) (ea_cons (ev_lr2 k (ev_var 0)) (ea_cons (ev_listL k (n_list c) (ea_cons (ev_lr3 k (ev_var 0)) ea_nil)) ea_nil)))))
end
end Cs

set_option Elab.async false
set_option linter.all false
set_option autoImplicit false
set_option maxRecDepth 100000
set_option maxHeartbeats 4000000
/-! The law's stages. -/
namespace Cs
open PySem PySem.Spec PyProof.Rows L2
theorem range_at {n : Nat} {pre post : List Nat} {y : Nat} (e : List.range n = pre ++ y :: post) : y = pre.length ∧ pre.length < n := by
  have h1 := congrArg List.length e
  rw [List.length_range, List.length_append, List.length_cons] at h1
  have h2 : (List.range n)[pre.length]? = (pre ++ y :: post)[pre.length]? := by rw [e]
  rw [List.getElem?_append_right (Nat.le_refl _), Nat.sub_self, List.getElem?_range (by omega)] at h2
  simp at h2
  exact ⟨h2.symm, by omega⟩
theorem lk_of {cs : Cells} (h : (cs.map (·.1)).Nodup) {z : Spot × Nat} (hz : z ∈ cs) : lk cs z.1 = some z.2 := by
  unfold lk
  induction cs with
  | nil => cases hz
  | cons a cs ih =>
    rw [List.map_cons, List.nodup_cons] at h
    rcases List.mem_cons.mp hz with e | hz
    · subst e; simp
    · have ne : a.1 ≠ z.1 := fun e => h.1 (List.mem_map.mpr ⟨z, hz, e.symm⟩)
      rw [List.find?_cons]
      simp only [ne, decide_false]
      exact ih h.2 hz
theorem kept_nd {r : Ru} {cs : Cells} {t : Int} {qs : List Spot} (h : qs.Nodup) : ((keptL r cs t qs).map (·.1)).Nodup := by
  have e : (qs.map fun q => (q, behind r cs t q.1 q.2)).map (·.1) = qs := by rw [List.map_map]; exact List.map_id' _
  exact List.Nodup.sublist (List.Sublist.map _ List.filter_sublist) (by rw [e]; exact h)
theorem stepL_nd {r : Ru} {cs : Cells} {t : Int} : ((stepL r cs t).map (·.1)).Nodup := kept_nd (nbs_nd _)
theorem stepL_len {r : Ru} {cs : Cells} {t : Int} : (stepL r cs t).length ≤ 9 * cs.length := by
  have h1 := @kept_len r cs t (nbs gL (cs.map (·.1)))
  have h2 := nbs_len gL (cs.map (·.1))
  rw [List.length_map] at h2
  exact Nat.le_trans h1 h2
def laterL (r : Ru) (l : List Cell3) (t : Int) : List Cell3 := srt (cl3 (stepL r (cellsC l) t))
def lawSt (r : Ru) (l : List Cell3) : Nat → List Cell3
  | 0 => l
  | n + 1 => laterL r (lawSt r l n) (n : Nat)
theorem cells_of_list {l : List Cell3} (h : (l.map spot3).Nodup) : l.foldl (fun acc z => putK acc (spot3 z) (sgV z.2.2)) [] = sgs (cellsC l) := by
  rw [fold_put spot3 (fun z => sgV z.2.2) l [] (by simpa using h)]
  unfold sgs cellsC
  rw [List.map_map]; rfl
theorem later_nd {r : Ru} {l : List Cell3} {t : Int} : ((laterL r l t).map spot3).Nodup := by
  unfold laterL srt
  have hp := List.mergeSort_perm (cl3 (stepL r (cellsC l) t)) (PySem.W.dataLe false c3D)
  refine (hp.map spot3).nodup_iff.mpr ?_
  unfold cl3
  rw [List.map_map]
  exact stepL_nd
section
variable {P : Program} {w : World} {K : PySem.W.Frag} {mg : Str → Option Value} {base : Heap}
theorem ok_l_later (c : Ctx w K mg) (r : Ru) (h : r.Ok) (l : List Cell3) (t : Int) (hn : (l.map spot3).Nodup) (hz : l.length ≤ 100000) : DfOk P w K mg base "_law_later" 5 false [lrT K r.so r.m r.near r.rows.D, Dt K (picD l), Dt K (.int t)] (Dt K (picD (laterL r l t))) := by
  obtain ⟨fd, F0⟩ := (d__law_later c)
  refine mk_df ["_law_rule_here", "_law_cells", "_law_turn_here", "_law_ground", "_law_x", "_law_y", "_law_sign_here", "_law_later_here"] (ps := ["_law_rule_here", "_law_cells", "_law_turn_here"]) (N := noA) F0 (g__law_later c) ⟨rfl, rfl, rfl, by decide +kernel, rfl, by decide +kernel, by decide +kernel⟩ (fun _ _ _ _ _ _ us hl => match us, hl with | [_, _, _], _ => rfl) rfl (by simp [noOwns, notOwn]) (fun W X hW k hX => ?_) (fun _ _ _ _ _ z => z.elim)
  obtain ⟨cdv, A, outer, s, H, E, rfl⟩ := hX
  refine srs_set 3 k (ev_rec ((worldF K [] t).take 5) (rc_cons ev_str ev_str (rc_cons ev_str ev_non (rc_cons ev_str ev_non (rc_cons ev_str ev_non (rc_cons ev_str (ev_var 2) rc_nil)))))) ?_
  have e0 : (cellsC l).map (itemT K) = l.map fun z => itemT K (spot3 z, z.2.2) := by unfold cellsC; rw [List.map_map]; rfl
  have e1 : (cellsC l).foldl (fun acc q => putK acc q.1 (sgV q.2)) [] = sgs (cellsC l) := by
    rw [← cells_of_list hn]
    unfold cellsC
    rw [List.foldl_map]
  have eC : (cellsC l).length = l.length := by unfold cellsC; rw [List.length_map]
  refine srs_cons (sr_rput 3 (fl := mergeF [] ((worldF K [] t).take 5)) (t := dctT (sgs (cellsC l))) "cells" k ev_str (ev_frzDe (ev_dictPairs (c0 := cellsC l) k (n_dict c) (ea_cons (ev_lc (own := [("_law_x", 4), ("_law_y", 5), ("_law_sign_here", 6)]) k (lc_still (t := lstT K ((cellsC l).map (itemT K))) (lc_mapT (js := [4] ++ ([5] ++ ([6] ++ []))) l (fun z => dat K (c3D z)) (fun z => itemT K (spot3 z, z.2.2)) (it_lst l c3D k (ev_var 1)) (blkOk_by (by rfl)) (fun z _ s0 H C cl fp => tg_dat [.int z.1, .int z.2.1, sgn z.2.2] k.blk (tgs_cons (tg_name 4 k.blk) (tgs_cons (tg_name 5 k.blk) (tgs_cons (tg_name 6 k.blk) tgs_nil))))
    (fun z _ s0 H C cl fp => ev_tupT [keyT (spot3 z), dat K (sgn z.2.2)] (ea_cons (ev_key (ead_cons (ev_var 4) (ead_cons (ev_var 5) ead_nil))) (ea_cons (ev_var 6) ea_nil))) (by decide) (by omega)) (fun G p ho hp z => by rw [← e0] at z; exact still_lstT hp z))) ea_nil)) e1) (Nat.lt_of_lt_of_le (show 5 < 6 by decide) (by decide))) ?_
  refine srs_frzR 3 (fl := worldF K (cellsC l) t) ?_
  refine srs_set 7 k (ev_rget (fl := worldF K (stepL r (cellsC l) t) (t + 1)) (t := dctT (sgs (stepL r (cellsC l) t))) "cells" k (ev_frzR (ev_call k (ok_l_turn c r h (cellsC l) t (by omega)) (ea_cons (ev_var 0) (ea_cons (ev_var 3) ea_nil)))) ev_str) ?_
  have ek : (stepL r (cellsC l) t).map (fun z => keyT z.1) = (sgs (stepL r (cellsC l) t)).map fun z => keyT z.1 := by unfold sgs; rw [List.map_map]; rfl
  have e3 : (stepL r (cellsC l) t).map (fun z => c3D (z.1.1, z.1.2, z.2)) = (cl3 (stepL r (cellsC l) t)).map c3D := by unfold cl3; rw [List.map_map]; rfl
  have l9 := @stepL_len r (cellsC l) t
  obtain ⟨h1, h2, h3⟩ := sort_args (cl3 (stepL r (cellsC l) t))
  refine srs_ret (ev_sorted (cl3 (stepL r (cellsC l) t)) c3D k (n_sorted c) (ea_cons (ev_eq (ev_lcm [("_law_x", 4), ("_law_y", 5)] (stepL r (cellsC l) t) (fun z => keyT z.1) (fun z => c3D (z.1.1, z.1.2, z.2)) k (by rw [ek]; exact it_keys (ev_var 7)) (fun z _ s0 H C cl fp => tg_key k.blk (tgs_cons (tg_name 4 k.blk) (tgs_cons (tg_name 5 k.blk) tgs_nil)))
    (fun z hz s0 H C cl fp => ev_tup (ead_cons (ev_var 4) (ead_cons (ev_var 5) (ead_cons (ev_dget (ps := sgs (stepL r (cellsC l) t)) (q := z.1) (u := sgV z.2) (d := sgn z.2) k.blk (ev_var 7) (ev_key (ead_cons (ev_var 4) (ead_cons (ev_var 5) ead_nil))) ?_ (fun G => .str _)) ead_nil)))) (by omega)) (congrArg PyData.list e3)) ea_nil) h1 h2 h3)
  rw [sgs_val, lk_of stepL_nd hz]; rfl
theorem ok_l_seen (c : Ctx w K mg) (r : Ru) (h : r.Ok) (l : List Cell3) (n : Nat) (hn : (l.map spot3).Nodup) (hm : n ≤ 100) (hz : ∀ i, i ≤ n → (lawSt r l i).length ≤ 100000) : DfOk P w K mg base "_law_seen" 6 false [lrT K r.so r.m r.near r.rows.D, Dt K (picD l), Dt K (.int (n : Nat))] (.own (lstO K ((List.range (n + 1)).map fun i => picD (lawSt r l i)))) := by
  obtain ⟨fd, F0⟩ := (d__law_seen c)
  refine mk_df ["_law_rule_here", "_law_cells", "_law_many", "_law_found", "_law_turn_here"] (ps := ["_law_rule_here", "_law_cells", "_law_many"]) (N := noA) F0 (g__law_seen c) ⟨rfl, rfl, rfl, by decide +kernel, rfl, by decide +kernel, by decide +kernel⟩ (fun _ _ _ _ _ _ us hl => match us, hl with | [_, _, _], _ => rfl) rfl (by simp [noOwns, notOwn]) (fun W X hW k hX => ?_) (fun _ _ _ _ _ z => z.elim)
  obtain ⟨cdv, A, outer, s, H, E, rfl⟩ := hX
  refine srs_set 3 k (ev_lstO (ead_cons (ev_listL k (n_list c) (ea_cons (ev_var 1) ea_nil)) ead_nil)) ?_
  have nd : ∀ i, ((lawSt r l i).map spot3).Nodup := fun i => by
    cases i with
    | zero => exact hn
    | succ i => exact later_nd
  let J : List Nat → En := fun pre => [some (lrT K r.so r.m r.near r.rows.D), some (Dt K (picD l)), some (Dt K (.int (n : Nat))), some (.own (lstO K ((List.range (pre.length + 1)).map fun i => picD (lawSt r l i)))), none]
  refine srs_cons (M := envA W (J (List.range n))) (sr_for (List.range n) (fun i => dat K (.int (i : Nat))) J (fun pre i => (J pre).set 4 (some (Dt K (.int (i : Nat))))) k (it_range1 k (n_range c) (ea_cons (ev_var 2) ea_nil)) (Sub.refl _) (fun pre i post _ => tg_name 4 k) (fun pre i post e => ?_) (fun _ _ _ _ z => z)) ?_
  · obtain ⟨rfl, lt⟩ := range_at e
    refine srs_cons (sr_append (ds := (List.range (pre.length + 1)).map fun i => picD (lawSt r l i)) 3 k (ev_call k (ok_l_later c r h (lawSt r l pre.length) (pre.length : Nat) (nd _) (hz _ (by omega))) (ea_cons (ev_var 0) (ea_cons (ev_ixO (ds := (List.range (pre.length + 1)).map fun i => picD (lawSt r l i)) 3 k (ev_neg ev_int) ?_) (ea_cons (ev_var 4) ea_nil)))) (by rw [List.length_map, List.length_range]; omega)) (srs_nil fun _ _ _ _ z => z.sub ?_)
    · rw [List.range_succ, List.map_append]
      exact atI_last _ _
    · refine ⟨.inr rfl, .inr rfl, .inr rfl, .inr ?_, .inl rfl, trivial⟩
      show some (Ent.own (lstO K ((List.range ((pre ++ [pre.length]).length + 1)).map fun i => picD (lawSt r l i)))) = _
      rw [List.length_append, List.range_succ (n := pre.length + [pre.length].length), List.map_append]
      rfl
  · rw [show J (List.range n) = [some (lrT K r.so r.m r.near r.rows.D), some (Dt K (picD l)), some (Dt K (.int (n : Nat))), some (.own (lstO K ((List.range (n + 1)).map fun i => picD (lawSt r l i)))), none] by unfold J; rw [List.length_range]]
    exact srs_retO 3
theorem ok_l_moved (c : Ctx w K mg) (l : List Cell3) (dx dy : Int) (hl : l.length ≤ 16777000) : DfOk P w K mg base "_law_moved" 1 false [Dt K (picD l), Dt K (.int dx), Dt K (.int dy)] (Dt K (picD (l.map (mv3 dx dy)))) := by
  obtain ⟨fd, F0⟩ := (d__law_moved c)
  refine mk_df ["_law_cells", "_law_dx", "_law_dy", "_law_x", "_law_y", "_law_sign_here"] (ps := ["_law_cells", "_law_dx", "_law_dy"]) (N := noA) F0 (g__law_moved c) ⟨rfl, rfl, rfl, by decide +kernel, rfl, by decide +kernel, by decide +kernel⟩ (fun _ _ _ _ _ _ us hl => match us, hl with | [_, _, _], _ => rfl) rfl (by simp [noOwns, notOwn]) (fun W X hW k hX => ?_) (fun _ _ _ _ _ z => z.elim)
  obtain ⟨cdv, A, outer, s, H, E, rfl⟩ := hX
  refine srs_ret (ev_eq (ev_lcm [("_law_x", 3), ("_law_y", 4), ("_law_sign_here", 5)] l (fun z => dat K (c3D z)) (fun z => c3D (mv3 dx dy z)) k (it_lst l c3D k (ev_var 0)) (fun z _ s0 H C cl fp => tg_dat [.int z.1, .int z.2.1, sgn z.2.2] k.blk (tgs_cons (tg_name 3 k.blk) (tgs_cons (tg_name 4 k.blk) (tgs_cons (tg_name 5 k.blk) tgs_nil)))) (fun z _ s0 H C cl fp => ev_tup (ead_cons (ev_add (ev_var 3) (ev_var 1)) (ead_cons (ev_add (ev_var 4) (ev_var 2)) (ead_cons (ev_var 5) ead_nil)))) hl) ?_)
  unfold picD
  rw [List.map_map]; rfl
theorem ok_l_suits (c : Ctx w K mg) (so : Str) (hs : so ∈ (["around", "halves", "blocks"] : List Str)) (m : Nat) (near : List Nat) (rows : List PyData) (n dx dy : Int) : DfOk P w K mg base "_law_suits" 1 false [lrT K so m near rows, Dt K (.int n), Dt K (.int dx), Dt K (.int dy)] (Dt K (.bool (suits so n dx dy))) := by
  obtain ⟨fd, F0⟩ := (d__law_suits c)
  refine mk_df ["_law_rule_here", "_law_many", "_law_dx", "_law_dy"] (ps := ["_law_rule_here", "_law_many", "_law_dx", "_law_dy"]) (N := noA) F0 (g__law_suits c) ⟨rfl, rfl, rfl, by decide +kernel, rfl, by decide +kernel, by decide +kernel⟩ (fun _ _ _ _ _ _ us hl => match us, hl with | [_, _, _, _], _ => rfl) rfl (by simp [noOwns, notOwn]) (fun W X hW k hX => ?_) (fun _ _ _ _ _ z => z.elim)
  obtain ⟨cdv, A, outer, s, H, E, rfl⟩ := hX
  refine srs_ifR (cv := decide (so = "halves")) (tst_eqS k (ev_lr0 k (ev_var 0)) ev_str) (fun z => srs_ret (ev_eq (ev_eqI k (ev_mod (ev_add (ev_add (ev_var 1) (ev_var 2)) (ev_var 3)) ev_int (by decide)) ev_int) ?_)) (fun z => srs_ret (ev_eq (ev_or (c1 := decide (so = "around")) (ev_eqS k (ev_lr0 k (ev_var 0)) ev_str) fun _ => ev_one (ev_and (ev_eqI k (ev_mod (ev_add (ev_var 1) (ev_var 2)) ev_int (by decide)) ev_int) fun _ => ev_one (ev_eqI k (ev_mod (ev_add (ev_var 1) (ev_var 3)) ev_int (by decide)) ev_int))) ?_))
  · unfold suits
    rw [if_pos (of_decide_eq_true z)]
  · unfold suits
    rw [if_neg (of_decide_eq_false z)]
    have z' := of_decide_eq_false z
    simp only [List.mem_cons, List.not_mem_nil, or_false] at hs
    rcases hs with e | e | e
    · subst e; rfl
    · exact absurd e z'
    · subst e; rfl
end
end Cs

set_option Elab.async false
set_option linter.all false
set_option autoImplicit false
set_option maxRecDepth 100000
set_option maxHeartbeats 4000000
/-! The law's paper. -/
namespace Cs
open PySem PySem.Spec PyProof.Rows L2
def lawHit (so : Str) (x b : List Cell3) (n : Int) : Bool := match shift x b with
  | some q => suits so n q.1 q.2
  | none => false
def lawWord (x : List Cell3) (st : List (List Cell3)) (y : Nat) (q : Int × Int) : Str := if q = (0, 0) then (if ((st.take y).filter fun l => decide (l = x)).length = y then "still" else "turning") else "moving"
def lawAt (so : Str) (x : List Cell3) (st : List (List Cell3)) (i : Nat) : PyData := match shift x (st.getD (i + 1) []) with
  | some q => paperD (lawWord x st (i + 1) q) (1 + (i : Nat)) q.1 q.2
  | none => .none
def lawFind (so : Str) (x : List Cell3) (st : List (List Cell3)) : Option Nat := (List.range (st.length - 1)).find? fun i => lawHit so x (st.getD (i + 1) []) (1 + (i : Nat))
def lawPaper (so : Str) (st : List (List Cell3)) : PyData := match lawFind so (st.headD []) st with
  | some i => lawAt so (st.headD []) st i
  | none => .none
theorem shift_some {x b : List Cell3} {q : Int × Int} (h : shift x b = some q) : ∃ z a y c, x = z :: a ∧ b = y :: c ∧ (z :: a).length = (y :: c).length ∧ (z :: a).map (mv3 q.1 q.2) = y :: c ∧ q = (y.1 - z.1, y.2.1 - z.2.1) := by
  unfold shift at h
  match x, b, h with
  | z :: a, y :: c, h =>
    dsimp only at h
    split at h
    · rename_i w
      cases h
      exact ⟨z, a, y, c, rfl, rfl, w.1, w.2, rfl⟩
    · cases h
theorem shift_none {z y : Cell3} {a c : List Cell3} (hl : (z :: a).length = (y :: c).length) : shift (z :: a) (y :: c) = if (z :: a).map (mv3 (y.1 - z.1) (y.2.1 - z.2.1)) = y :: c then some (y.1 - z.1, y.2.1 - z.2.1) else none := by
  unfold shift
  dsimp only
  by_cases w : (z :: a).map (mv3 (y.1 - z.1) (y.2.1 - z.2.1)) = y :: c
  · rw [if_pos ⟨hl, w⟩, if_pos w]
  · rw [if_neg fun q => w q.2, if_neg w]
theorem getD_at {α : Type} {l : List α} {i : Nat} {d : α} (h : i < l.length) : l[i]? = some (l.getD i d) := by
  rw [List.getElem?_eq_getElem h]
  simp [h]
theorem at_pick {α : Type} (a b : α) (c : Bool) : atI [a, b] (if c then 1 else 0) = some (if c then b else a) := by
  cases c
  · exact atI_nat (j := 0) rfl
  · exact atI_nat (j := 1) rfl
section
variable {P : Program} {w : World} {K : PySem.W.Frag} {mg : Str → Option Value} {base : Heap} {k : Nat} {X : Cx} {W : Option Addr} {Γ : En} {pos : Pos} {tg a b : Expr}
theorem it_range2n {p : Pos} {lo hi : Int} (n : Nat) (e : (hi - lo).toNat = n) (c : Cok P w K mg base k X) (hm : mg "range" = none) (ha : Ea X K W Γ [a, b] [Dt K (.int lo), Dt K (.int hi)]) (h1 : -1000000 ≤ lo) (h2 : hi ≤ 1000000) (h3 : lo ≤ 1000000) (h4 : -1000000 ≤ hi) (hg : Gl X "range" := by rfl) (hs : starEach [a, b] X.env = [(false, eval a X.env), (false, eval b X.env)] := by rfl) (hs2 : starEach [b] X.env = [(false, eval b X.env)] := by rfl) :
    PI X tg (.Call (.Name "range" p) [a, b] [] pos) (cI K W Γ ((List.range n).map fun i => dat K (.int (lo + (i : Nat))))) := by
  rw [← e]
  exact it_range2 c hm ha h1 h2 h3 h4 hg hs hs2
/-- [a, b][int(c)] -/
theorem ev_pick {d1 d2 : PyData} {c : Bool} {x : Expr} {p : Pos} (k0 : Cok P w K mg base k X) (hm : mg "int" = none) (ha : Ev X K W Γ a (Dt K (.list [d1, d2]))) (hb : Ev X K W Γ x (Dt K (.bool c))) (hg : Gl X "int" := by rfl) (he : A1 X x := by rfl) {p2 : Pos} (hs : starEach [x] X.env = (false, eval x X.env) :: starEach [] X.env := by rfl) :
    Ev X K W Γ (.Subscript a (.Call (.Name "int" p) [x] [] p2) pos) (Dt K (if c then d2 else d1)) :=
  ev_ixL k0 ha (ev_intB k0 hm (ea_cons hb ea_nil hs) hg he) (at_pick d1 d2 c)
end
section
variable {P : Program} {w : World} {K : PySem.W.Frag} {mg : Str → Option Value} {base : Heap}
theorem ok_l_paper (c : Ctx w K mg) (so : Str) (hso : so ∈ (["around", "halves", "blocks"] : List Str)) (m : Nat) (near : List Nat) (rows : List PyData) (x : List Cell3) (rest : List (List Cell3)) (hs : ∀ l ∈ x :: rest, SgL l) (hl : rest.length ≤ 1000) (lx : x.length ≤ 16777000) :
    DfOk P w K mg base "_law_paper" 2 false [lrT K so m near rows, Dt K (.list ((x :: rest).map picD))] (Dt K (lawPaper so (x :: rest))) := by
  obtain ⟨fd, F0⟩ := (d__law_paper c)
  refine mk_df ["_law_rule_here", "_law_stages", "_law_many", "_law_dx", "_law_dy", "_law_alike_here", "_law_one", "_law_word"] (ps := ["_law_rule_here", "_law_stages"]) (N := noA) F0 (g__law_paper c) ⟨rfl, rfl, rfl, by decide +kernel, rfl, by decide +kernel, by decide +kernel⟩ (fun _ _ _ _ _ _ us hl => match us, hl with | [_, _], _ => rfl) rfl (by simp [noOwns, notOwn]) (fun W X hW k hX => ?_) (fun _ _ _ _ _ z => z.elim)
  obtain ⟨cdv, A, outer, s, H, E, rfl⟩ := hX
  let Γ1 : En := [some (lrT K so m near rows), some (Dt K (.list ((x :: rest).map picD))), none, none, none, none, none, none]
  have el : ((x :: rest).map picD).length = rest.length + 1 := by rw [List.length_map, List.length_cons]
  refine srs_find (List.range rest.length) (fun i => dat K (.int (1 + (i : Nat)))) (fun i => lawHit so x ((x :: rest).getD (i + 1) []) (1 + (i : Nat))) Γ1 (fun i => Γ1.set 2 (some (Dt K (.int (1 + (i : Nat)))))) k (it_range2n (lo := 1) (hi := ((rest.length + 1 : Nat) : Int)) rest.length (by omega) k (n_range c) (ea_cons ev_int (ea_cons (ev_eq (ev_lenL k (n_len c) (ea_cons (ev_var 1) ea_nil)) (by rw [el])) ea_nil)) (by decide) (by omega) (by decide) (by omega)) (Sub.refl _)
    (fun i _ => tg_name 2 k) (fun i hi hf hp => ?_) (fun i hi hp => ?_) (fun hf => ?_)
  · have hi2 := List.mem_range.mp hi
    have hb : ((x :: rest).map picD)[i + 1]? = some (picD ((x :: rest).getD (i + 1) [])) := by rw [List.getElem?_map, getD_at (d := []) (by rw [List.length_cons]; omega)]; rfl
    have hbm : (x :: rest).getD (i + 1) [] ∈ x :: rest := List.mem_of_getElem? (getD_at (d := []) (by rw [List.length_cons]; omega))
    have hres : lawPaper so (x :: rest) = lawAt so x (x :: rest) i := by
      show (match lawFind so x (x :: rest) with | some i => _ | none => _) = _
      have : lawFind so x (x :: rest) = some i := hf
      rw [this]; rfl
    rw [hres]
    unfold lawAt
    unfold lawHit at hp
    generalize (x :: rest).getD (i + 1) [] = b at hb hbm hp
    cases hsh : shift x b with
    | none => rw [hsh] at hp; cases hp
    | some q =>
      rw [hsh] at hp
      dsimp only at hp
      obtain ⟨z, a, y, d, rfl, rfl, h1, h2, rfl⟩ := shift_some hsh
      have ei : (1 : Int) + (i : Nat) = ((i + 1 : Nat) : Int) := by omega
      refine srs_ifR (cv := true) (tst_eq (tst_w (tsw_and (tst_eq (c' := true) (tst_neD (d1 := picD (z :: a)) (d2 := picD []) k (c3s_sh (hs _ (List.mem_cons_self ..))) (by decide +kernel) (ev_ixL k (ev_var 1) ev_int at0) (ev_lst ead_nil)) (by unfold picD; rw [c3s_eqv]; rfl)) fun _ => tsw_and1 (tst_eqI k (ev_lenL (ds := (y :: d).map c3D) k (n_len c) (ea_cons (ev_ixL (d := picD (y :: d)) k (ev_var 1) (ev_eq (ev_var 2) (congrArg PyData.int ei)) (atI_nat hb)) ea_nil)) (ev_lenL (ds := (z :: a).map c3D) k (n_len c) (ea_cons (ev_ixL (d := picD (z :: a)) k (ev_var 1) ev_int at0) ea_nil))))) (by rw [List.length_map, List.length_map, h1, decide_eq_true rfl]; rfl)) (fun _ => ?_) fun z => nomatch z
      refine srs_cons (sr_par 3 4 k (ea_cons (ev_sub (ev_ixT (ds := [.int y.1, .int y.2.1, sgn y.2.2]) (d := .int y.1) k (ev_ixL (ds := (y :: d).map c3D) (d := c3D y) k (ev_ixL (d := picD (y :: d)) k (ev_var 1) (ev_eq (ev_var 2) (congrArg PyData.int ei)) (atI_nat hb)) ev_int at0) ev_int rfl) (ev_ixT (ds := [.int z.1, .int z.2.1, sgn z.2.2]) (d := .int z.1) k (ev_ixL (ds := (z :: a).map c3D) (d := c3D z) k (ev_ixL (d := picD (z :: a)) k (ev_var 1) ev_int at0) ev_int at0) ev_int rfl))
        (ea_cons (ev_sub (ev_ixT (ds := [.int y.1, .int y.2.1, sgn y.2.2]) (d := .int y.2.1) k (ev_ixL (ds := (y :: d).map c3D) (d := c3D y) k (ev_ixL (d := picD (y :: d)) k (ev_var 1) (ev_eq (ev_var 2) (congrArg PyData.int ei)) (atI_nat hb)) ev_int at0) ev_int rfl) (ev_ixT (ds := [.int z.1, .int z.2.1, sgn z.2.2]) (d := .int z.2.1) k (ev_ixL (ds := (z :: a).map c3D) (d := c3D z) k (ev_ixL (d := picD (z :: a)) k (ev_var 1) ev_int at0) ev_int at0) ev_int rfl)) ea_nil))) ?_
      refine srs_ifR (cv := true) (tst_eq (tst_w (tsw_and (tst_eq (c' := true) (tst_eqD (d1 := picD ((z :: a).map (mv3 (y.1 - z.1) (y.2.1 - z.2.1)))) (d2 := picD (y :: d)) k (c3s_sh ((hs _ (List.mem_cons_self ..)).mv _ _)) (c3s_sh (hs _ hbm)) (ev_call k (ok_l_moved c (z :: a) (y.1 - z.1) (y.2.1 - z.2.1) lx) (ea_cons (ev_ixL (d := picD (z :: a)) k (ev_var 1) ev_int at0) (ea_cons (ev_var 3) (ea_cons (ev_var 4) ea_nil)))) (ev_ixL (d := picD (y :: d)) k (ev_var 1) (ev_eq (ev_var 2) (congrArg PyData.int ei)) (atI_nat hb))) (by unfold picD; rw [c3s_eqv, decide_eq_true h2])) fun _ => tsw_and1 (tst_val (ev_call k (ok_l_suits c so hso m near rows (1 + (i : Nat)) (y.1 - z.1) (y.2.1 - z.2.1)) (ea_cons (ev_var 0) (ea_cons (ev_var 2) (ea_cons (ev_var 3) (ea_cons (ev_var 4) ea_nil)))))))) (by rw [hp]; rfl)) (fun _ => ?_) fun z => nomatch z
      have etk : cut (((z :: a) :: rest).map picD) none (some ((i + 1 : Nat) : Int)) = (((z :: a) :: rest).take (i + 1)).map picD := by rw [cut_to, List.map_take]
      have tl : (((z :: a) :: rest).take (i + 1)).length ≤ 1001 := by rw [List.length_take, List.length_cons]; omega
      refine srs_cons (sr_setLc 5 (own := [("_law_one", 6)]) k (lc_sel (js := [6]) (xs := ((z :: a) :: rest).take (i + 1)) (enc := fun l => dat K (picD l)) (fun l => decide (l = z :: a)) picD (it_lst (((z :: a) :: rest).take (i + 1)) picD k (ev_eq (ev_slL k (ev_var 1) op_none (op_some (ev_eq (ev_var 2) (congrArg PyData.int ei)))) (congrArg PyData.list etk))) (blkOk_by (by rfl)) (fun l _ s0 H C cl fp => tg_name 6 k.blk)
        (fun l hlm s0 H C cl fp => tsts_one (tst_eq (tst_eqD (d1 := picD l) (d2 := picD (z :: a)) k.blk (c3s_sh (hs l (List.mem_of_mem_take hlm))) (c3s_sh (hs _ (List.mem_cons_self ..))) (ev_var 6) (ev_ixL (d := picD (z :: a)) k.blk (ev_var 1) ev_int at0)) (by unfold picD; rw [c3s_eqv]))) (fun l _ _ s0 H C cl fp => ev_var 6) (by decide) (by omega))) ?_
      refine srs_stillL 5 ?_
      refine srs_set 7 k (ev_pick (c := decide ((((((z :: a) :: rest).take (i + 1)).filter fun l => decide (l = z :: a)).length : Int) = (i + 1 : Nat))) k (n_int c) (ev_lst (ead_cons ev_str (ead_cons ev_str ead_nil))) (ev_eq (ev_eqI k (ev_lenL k (n_len c) (ea_cons (ev_var 5) ea_nil)) (ev_eq (ev_var 2) (congrArg PyData.int ei))) (by rw [List.length_map]))) ?_
      refine srs_ret (ev_eq (ev_tup (ead_cons (ev_pick (c := decide ((y.1 - z.1, y.2.1 - z.2.1) = ((0, 0) : Int × Int))) k (n_int c) (ev_lst (ead_cons ev_str (ead_cons (ev_var 7) ead_nil))) (ev_eq (ev_eqD (d1 := sptD (y.1 - z.1, y.2.1 - z.2.1)) (d2 := sptD (0, 0)) k (spt_sh _).sh (spt_sh _).sh (ev_tup (ead_cons (ev_var 3) (ead_cons (ev_var 4) ead_nil))) (ev_tup (ead_cons ev_int (ead_cons ev_int ead_nil)))) (by rw [spt_eqv]))) (ead_cons (ev_var 2) (ead_cons (ev_var 3) (ead_cons (ev_var 4) ead_nil))))) ?_)
      show _ = paperD (lawWord (z :: a) ((z :: a) :: rest) (i + 1) (y.1 - z.1, y.2.1 - z.2.1)) (1 + (i : Nat)) (y.1 - z.1) (y.2.1 - z.2.1)
      unfold paperD lawWord
      congr 2
      by_cases e0 : (y.1 - z.1, y.2.1 - z.2.1) = ((0, 0) : Int × Int)
      · rw [if_pos e0, decide_eq_true e0, if_pos rfl]
        by_cases e1 : ((((z :: a) :: rest).take (i + 1)).filter fun l => decide (l = z :: a)).length = i + 1
        · rw [if_pos e1, decide_eq_true (by omega), if_pos rfl]
        · rw [if_neg e1, decide_eq_false (by omega), if_neg (by decide)]
      · rw [if_neg e0, decide_eq_false e0, if_neg (by decide)]
  · have hi2 := List.mem_range.mp hi
    have hb : ((x :: rest).map picD)[i + 1]? = some (picD ((x :: rest).getD (i + 1) [])) := by rw [List.getElem?_map, getD_at (d := []) (by rw [List.length_cons]; omega)]; rfl
    have hbm : (x :: rest).getD (i + 1) [] ∈ x :: rest := List.mem_of_getElem? (getD_at (d := []) (by rw [List.length_cons]; omega))
    unfold lawHit at hp
    generalize (x :: rest).getD (i + 1) [] = b at hb hbm hp
    have ei : (1 : Int) + (i : Nat) = ((i + 1 : Nat) : Int) := by omega
    have done : ∀ {H0 G H : Hp} {σ : L2.St} {e3 e4 : Option Ent}, EnvOk W H0 G H σ [some (lrT K so m near rows), some (Dt K (.list ((x :: rest).map picD))), some (Dt K (.int (1 + (i : Nat)))), e3, e4, none, none, none] → envA W Γ1 H0 G H σ := fun z => EnvOk.sub z ⟨.inr rfl, .inr rfl, .inl rfl, .inl rfl, .inl rfl, .inr rfl, .inr rfl, .inr rfl, trivial⟩
    refine srs_if (M := envA W Γ1) (cv := !decide (x = []) && decide ((b.length : Int) = x.length)) (tst_w (tsw_and (tst_eq (c' := !decide (x = [])) (tst_neD (d1 := picD x) (d2 := picD []) k (c3s_sh (hs _ (List.mem_cons_self ..))) (by decide +kernel) (ev_ixL k (ev_var 1) ev_int at0) (ev_lst ead_nil)) (by unfold picD; rw [c3s_eqv])) fun _ => tsw_and1 (tst_eq (tst_eqI k (ev_lenL (ds := b.map c3D) k (n_len c) (ea_cons (ev_ixL (d := picD b) k (ev_var 1) (ev_eq (ev_var 2) (congrArg PyData.int ei)) (atI_nat hb)) ea_nil)) (ev_lenL (ds := x.map c3D) k (n_len c) (ea_cons (ev_ixL (d := picD x) k (ev_var 1) ev_int at0) ea_nil))) (by rw [List.length_map, List.length_map])))) (fun hc => ?_) (fun _ => srs_nil fun _ _ _ _ z => done z) (srs_nil fun _ _ _ _ z => z)
    rw [Bool.and_eq_true] at hc
    cases x with
    | nil => exact absurd hc.1 (by decide)
    | cons z a =>
    cases b with
    | nil => exact absurd hc.2 (by simp; omega)
    | cons y d =>
      have hlen : (z :: a).length = (y :: d).length := by have := of_decide_eq_true hc.2; omega
      rw [shift_none hlen] at hp
      refine srs_cons (sr_par 3 4 k (ea_cons (ev_sub (ev_ixT (ds := [.int y.1, .int y.2.1, sgn y.2.2]) (d := .int y.1) k (ev_ixL (ds := (y :: d).map c3D) (d := c3D y) k (ev_ixL (d := picD (y :: d)) k (ev_var 1) (ev_eq (ev_var 2) (congrArg PyData.int ei)) (atI_nat hb)) ev_int at0) ev_int rfl) (ev_ixT (ds := [.int z.1, .int z.2.1, sgn z.2.2]) (d := .int z.1) k (ev_ixL (ds := (z :: a).map c3D) (d := c3D z) k (ev_ixL (d := picD (z :: a)) k (ev_var 1) ev_int at0) ev_int at0) ev_int rfl))
        (ea_cons (ev_sub (ev_ixT (ds := [.int y.1, .int y.2.1, sgn y.2.2]) (d := .int y.2.1) k (ev_ixL (ds := (y :: d).map c3D) (d := c3D y) k (ev_ixL (d := picD (y :: d)) k (ev_var 1) (ev_eq (ev_var 2) (congrArg PyData.int ei)) (atI_nat hb)) ev_int at0) ev_int rfl) (ev_ixT (ds := [.int z.1, .int z.2.1, sgn z.2.2]) (d := .int z.2.1) k (ev_ixL (ds := (z :: a).map c3D) (d := c3D z) k (ev_ixL (d := picD (z :: a)) k (ev_var 1) ev_int at0) ev_int at0) ev_int rfl)) ea_nil))) ?_
      refine srs_no (tst_eq (tst_w (tsw_and (c2 := suits so (1 + (i : Nat)) (y.1 - z.1) (y.2.1 - z.2.1)) (tst_eq (c' := decide ((z :: a).map (mv3 (y.1 - z.1) (y.2.1 - z.2.1)) = y :: d)) (tst_eqD (d1 := picD ((z :: a).map (mv3 (y.1 - z.1) (y.2.1 - z.2.1)))) (d2 := picD (y :: d)) k (c3s_sh ((hs _ (List.mem_cons_self ..)).mv _ _)) (c3s_sh (hs _ hbm)) (ev_call k (ok_l_moved c (z :: a) (y.1 - z.1) (y.2.1 - z.2.1) lx) (ea_cons (ev_ixL (d := picD (z :: a)) k (ev_var 1) ev_int at0) (ea_cons (ev_var 3) (ea_cons (ev_var 4) ea_nil)))) (ev_ixL (d := picD (y :: d)) k (ev_var 1) (ev_eq (ev_var 2) (congrArg PyData.int ei)) (atI_nat hb))) (by unfold picD; rw [c3s_eqv])) fun _ => tsw_and1 (tst_val (ev_call k (ok_l_suits c so hso m near rows (1 + (i : Nat)) (y.1 - z.1) (y.2.1 - z.2.1)) (ea_cons (ev_var 0) (ea_cons (ev_var 2) (ea_cons (ev_var 3) (ea_cons (ev_var 4) ea_nil)))))))) ?_) (srs_nil fun _ _ _ _ z => done z)
      by_cases e : (z :: a).map (mv3 (y.1 - z.1) (y.2.1 - z.2.1)) = y :: d
      · rw [if_pos e] at hp
        rw [decide_eq_true e]
        exact hp
      · rw [decide_eq_false e]; rfl
  · refine srs_ret (ev_eq ev_non ?_)
    show _ = (match lawFind so x (x :: rest) with | some i => _ | none => _)
    have : lawFind so x (x :: rest) = none := hf
    rw [this]
end
end Cs

set_option Elab.async false
set_option linter.all false
set_option autoImplicit false
set_option maxRecDepth 100000
set_option maxHeartbeats 4000000
/-! The law's texts, and what is due. -/
namespace Cs
open PySem PySem.Spec PyProof.Rows L2
def lcells0 (t : List Nat) (wd hg : Nat) : List Cell3 := ((List.range (wd * hg)).filter fun k => !decide (t.getD k 46 = 46)).map fun k => (((k % wd : Nat) : Int), ((k / wd : Nat) : Int), t.getD k 46)
def lcells (t : List Nat) (wd hg : Nat) : List Cell3 := srt (lcells0 t wd hg)
def lawStages (r : Ru) (l : List Cell3) (most : Nat) : List (List Cell3) := (List.range (most + 1)).map (lawSt r l)
def hitL (r : Ru) (wd hg most : Nat) (t : List Nat) : List PyData := if begB (rowsOf t wd hg) then (if isN (lawPaper r.so (lawStages r (lcells t wd hg) most)) then [] else [.tuple [rowsD (rowsOf t wd hg), lawPaper r.so (lawStages r (lcells t wd hg) most)]]) else []
structure PicL (r : Ru) (l : List Cell3) (most : Nat) : Prop where
  nd : (l.map spot3).Nodup
  few : ∀ i, i ≤ most → (lawSt r l i).length ≤ 100000
  sig : ∀ i, i ≤ most → SgL (lawSt r l i)
structure DueOk (r : Ru) (wd hg most : Nat) : Prop where
  rule : r.Ok
  wd0 : 0 < wd
  hg0 : 0 < hg
  wd1 : wd ≤ 30
  hg1 : hg ≤ 30
  most1 : most ≤ 100
  few : (sigs r.m).length ^ (wd * hg) ≤ 256
  pic : ∀ t ∈ texts (sigs r.m) (wd * hg), begB (rowsOf t wd hg) = true → PicL r (lcells t wd hg) most
theorem ne_repl {l : List Nat} {n : Nat} (h : l.length = n) : (!decide (l = List.replicate n 46)) = l.any fun a => !decide (a = 46) := by
  subst h
  induction l with
  | nil => rfl
  | cons a l ih =>
    rw [List.any_cons, ← ih, List.length_cons, List.replicate_succ]
    by_cases e : a = 46
    · subst e; simp
    · simp [e]
theorem any_heads (rows : List (List Nat)) : ((rows.map fun u => u.headD 0).any fun a => !decide (a = 46)) = rows.any fun u => !decide (u.headD 0 = 46) := by
  rw [List.any_map]; rfl
section
variable {P : Program} {w : World} {K : PySem.W.Frag} {mg : Str → Option Value} {base : Heap}
theorem ok_l_texts (c : Ctx w K mg) (sg : List Nat) (n : Nat) (hn : n ≤ 1000) (hz : ∀ k, k ≤ n → (texts sg k).length ≤ 1000) (hsg : sg.length ≤ 100) : DfOk P w K mg base "_law_texts" 1 false [Dt K (.str (txt sg)), Dt K (.int (n : Nat))] (Dt K (.list ((texts sg n).map fun t => .str (txt t)))) := by
  obtain ⟨fd, F0⟩ := (d__law_texts c)
  refine mk_df ["_law_signs_here", "_law_many", "_law_found", "_law_k", "_law_longer", "_law_text", "_law_sign_here"] (ps := ["_law_signs_here", "_law_many"]) (N := noA) F0 (g__law_texts c) ⟨rfl, rfl, rfl, by decide +kernel, rfl, by decide +kernel, by decide +kernel⟩ (fun _ _ _ _ _ _ us hl => match us, hl with | [_, _], _ => rfl) rfl (by simp [noOwns, notOwn]) (fun W X hW k hX => ?_) (fun _ _ _ _ _ z => z.elim)
  obtain ⟨cdv, A, outer, s, H, E, rfl⟩ := hX
  refine srs_set 2 k (ev_lst (ead_cons (ev_txt []) ead_nil)) ?_
  let J : List Nat → En := fun pre => [some (Dt K (.str (txt sg))), some (Dt K (.int (n : Nat))), some (Dt K (.list ((texts sg pre.length).map fun t => .str (txt t)))), none, none, none, none]
  refine srs_cons (M := envA W (J (List.range n))) (sr_for (List.range n) (fun i => dat K (.int (i : Nat))) J (fun pre i => (J pre).set 3 (some (Dt K (.int (i : Nat))))) k (it_range1 k (n_range c) (ea_cons (ev_var 1) ea_nil)) (Sub.refl _) (fun pre i post _ => tg_name 3 k) (fun pre i post e => ?_) (fun _ _ _ _ z => z)) ?_
  · obtain ⟨rfl, lt⟩ := range_at e
    refine srs_set 4 k (ev_lstO ead_nil) ?_
    let J1 : List (List Nat) → En := fun q => [some (Dt K (.str (txt sg))), some (Dt K (.int (n : Nat))), some (Dt K (.list ((texts sg pre.length).map fun t => .str (txt t)))), some (Dt K (.int (pre.length : Nat))), some (.own (lstO K ((q.flatMap fun t => sg.map fun s => t ++ [s]).map fun t => .str (txt t)))), none, none]
    have hfl : ∀ q : List (List Nat), ((q.flatMap fun t => sg.map fun s => t ++ [s]).map fun t => PyData.str (txt t)).length = q.length * sg.length := fun q => by
      rw [List.length_map]
      induction q with
      | nil => simp
      | cons a q ih => rw [List.flatMap_cons, List.length_append, List.length_map, ih, List.length_cons, Nat.succ_mul]; omega
    refine srs_cons (M := envA W (J1 (texts sg pre.length))) (sr_for (texts sg pre.length) (fun t => dat K (.str (txt t))) J1 (fun q t => (J1 q).set 5 (some (Dt K (.str (txt t))))) k (it_lst _ (fun t => .str (txt t)) k (ev_var 2)) (Sub.refl _) (fun q t post2 _ => tg_name 5 k) (fun q t post2 e2 => ?_) (fun _ _ _ _ z => z)) ?_
    · have hq : q.length ≤ 1000 := by
        have h1 := congrArg List.length e2
        rw [List.length_append, List.length_cons] at h1
        have h2 := hz pre.length (by omega)
        omega
      have hm : q.length * sg.length ≤ 1000 * 100 := Nat.mul_le_mul hq hsg
      have ht : t.length = pre.length := texts_len (by rw [e2]; simp)
      refine srs_cons (sr_extend (ds := (q.flatMap fun t => sg.map fun s => t ++ [s]).map fun t => .str (txt t)) (es := sg.map fun s => .str (txt (t ++ [s]))) 4 k (ev_lc (own := [("_law_sign_here", 6)]) k (lc_map (js := [6]) (xs := sg) (enc := fun s => dat K (sgn s)) (fun s => .str (txt (t ++ [s]))) (it_str (ev_var 0)) (blkOk_by (by rfl)) (fun s _ s0 H C cl fp => tg_name 6 k.blk) (fun s _ s0 H C cl fp => ev_addS (ev_var 5) (ev_var 6) (by simp; omega)) (by decide) (by omega))) (by rw [hfl, List.length_map]; omega)) (srs_nil fun _ _ _ _ z => z.sub ?_)
      refine ⟨.inr rfl, .inr rfl, .inr rfl, .inr rfl, .inr ?_, .inl rfl, .inr rfl, trivial⟩
      show some (Ent.own (lstO K (((q ++ [t]).flatMap fun t => sg.map fun s => t ++ [s]).map fun t => .str (txt t)))) = _
      rw [List.flatMap_append, List.map_append, List.flatMap_cons, List.flatMap_nil, List.append_nil, List.map_map]
      rfl
    · refine srs_stillL 4 (ds := (texts sg (pre.length + 1)).map fun t => .str (txt t)) ?_
      refine srs_set 2 k (ev_var 4) (srs_nil fun _ _ _ _ z => z.sub ?_)
      exact ⟨.inr rfl, .inr rfl, .inr (by show some (Dt K (.list ((texts sg (pre ++ [pre.length]).length).map fun t => .str (txt t)))) = _; rw [List.length_append]; rfl), .inl rfl, .inl rfl, .inr rfl, .inr rfl, trivial⟩
  · refine srs_ret (ev_eq (ev_var 2) ?_)
    rw [List.length_range]
theorem ok_l_due (c : Ctx w K mg) (r : Ru) (wd hg most : Nat) (h : DueOk r wd hg most) :
    DfOk P w K mg base "_law_due" 7 false [lrT K r.so r.m r.near r.rows.D, Dt K (.int (wd : Nat)), Dt K (.int (hg : Nat)), Dt K (.int (most : Nat))] (.own (lstO K ((texts (sigs r.m) (wd * hg)).flatMap (hitL r wd hg most)))) := by
  obtain ⟨fd, F0⟩ := (d__law_due c)
  refine mk_df ["_law_rule_here", "_law_wide", "_law_high", "_law_most", "_law_found", "_law_text", "_law_rows", "_law_k", "_law_first", "_law_row_here", "_law_cells", "_law_paper_here"] (ps := ["_law_rule_here", "_law_wide", "_law_high", "_law_most"]) (N := noA) F0 (g__law_due c) ⟨rfl, rfl, rfl, by decide +kernel, rfl, by decide +kernel, by decide +kernel⟩ (fun _ _ _ _ _ _ us hl => match us, hl with | [_, _, _, _], _ => rfl) rfl (by simp [noOwns, notOwn]) (fun W X hW k hX => ?_) (fun _ _ _ _ _ z => z.elim)
  obtain ⟨cdv, A, outer, s, H, E, rfl⟩ := hX
  have w0 := h.wd0
  have h0 := h.hg0
  have w1 := h.wd1
  have h1 := h.hg1
  have m1 := h.most1
  have area : wd * hg ≤ 900 := Nat.le_trans (Nat.mul_le_mul w1 h1) (by decide)
  have sg1 : 1 ≤ (sigs r.m).length := List.length_pos_of_mem (dot_in h.rule.lo)
  have pw : ∀ j, j ≤ wd * hg → (sigs r.m).length ^ j ≤ 256 := fun j hj => Nat.le_trans (pow_le_of sg1 hj) h.few
  have sg27 : (sigs r.m).length ≤ 27 := by
    unfold sigs
    rw [List.length_take]
    exact Nat.le_trans (Nat.min_le_right _ _) (by decide)
  have eprod : ((wd : Int) * (hg : Int)) = ((wd * hg : Nat) : Int) := by rw [Int.natCast_mul]
  refine srs_set 4 k (ev_lstO ead_nil) ?_
  have hit1 : ∀ t, (hitL r wd hg most t).length ≤ 1 := fun t => by unfold hitL; split <;> (try split) <;> simp
  have hitn : ∀ pre : List (List Nat), (pre.flatMap (hitL r wd hg most)).length ≤ pre.length := fun pre => by
    induction pre with
    | nil => simp
    | cons t pre ih => rw [List.flatMap_cons, List.length_append, List.length_cons]; have := hit1 t; omega
  have tl : (texts (sigs r.m) (wd * hg)).length ≤ 256 := by rw [texts_count]; exact pw _ (Nat.le_refl _)
  let J : List (List Nat) → En := fun pre => [some (lrT K r.so r.m r.near r.rows.D), some (Dt K (.int (wd : Nat))), some (Dt K (.int (hg : Nat))), some (Dt K (.int (most : Nat))), some (.own (lstO K (pre.flatMap (hitL r wd hg most)))), none, none, none, none, none, none, none]
  refine srs_cons (M := envA W (J (texts (sigs r.m) (wd * hg)))) (sr_for (texts (sigs r.m) (wd * hg)) (fun t => dat K (.str (txt t))) J (fun pre t => (J pre).set 5 (some (Dt K (.str (txt t))))) k (it_lst _ (fun t => .str (txt t)) k (ev_call k (ok_l_texts c (sigs r.m) (wd * hg) (by omega) (fun j hj => by rw [texts_count]; exact Nat.le_trans (pw j hj) (by decide)) (by omega)) (ea_cons (ev_call k (ok_l_signs c r.m) (ea_cons (ev_lr1 k (ev_var 0)) ea_nil)) (ea_cons (ev_eq (ev_mul (ev_var 1) (ev_var 2) (by unfold CMul; left; omega)) (congrArg PyData.int eprod)) ea_nil)))) (Sub.refl _) (fun pre t post _ => tg_name 5 k) (fun pre t post e => ?_) (fun _ _ _ _ z => z)) ?_
  · have ht : t ∈ texts (sigs r.m) (wd * hg) := by rw [e]; simp
    have htl := texts_len ht
    have pn : (pre.flatMap (hitL r wd hg most)).length ≤ 256 := by
      have h3 := congrArg List.length e
      rw [List.length_append, List.length_cons] at h3
      have := hitn pre
      omega
    have rl := rows_len htl
    have rc := @rows_count t wd hg
    have esnoc : (pre ++ [t]).flatMap (hitL r wd hg most) = pre.flatMap (hitL r wd hg most) ++ hitL r wd hg most t := by rw [List.flatMap_append]; simp
    have er : (List.range hg).map (fun i => PyData.str (txt ((t.drop (i * wd)).take wd))) = (rowsOf t wd hg).map fun u => .str (txt u) := by unfold rowsOf; rw [List.map_map]; rfl
    refine srs_set 6 k (ev_tupleL k (n_tuple c) (ea_cons (ev_eq (ev_lcm [("_law_k", 7)] (List.range hg) (fun i => dat K (.int (i : Nat))) (fun i => .str (txt ((t.drop (i * wd)).take wd))) k (it_range1 k (n_range c) (ea_cons (ev_var 2) ea_nil)) (fun i _ s0 H C cl fp => tg_name 7 k.blk) (fun i hi s0 H C cl fp => ev_eq (ev_slS (ev_var 5) (op_some (ev_mul (ev_var 1) (ev_var 7) (by unfold CMul; left; omega))) (op_some (ev_add (ev_mul (ev_var 1) (ev_var 7) (by unfold CMul; left; omega)) (ev_var 1))) (by omega)) ?_) (by rw [List.length_range]; omega)) (congrArg PyData.list er)) ea_nil)) ?_
    · have hi2 := List.mem_range.mp hi
      have e1 : (wd : Int) * (i : Nat) = ((i * wd : Nat) : Int) := by rw [Int.natCast_mul, Int.mul_comm]
      have hb : i * wd + wd ≤ t.length := by
        rw [htl, ← Nat.succ_mul, Nat.mul_comm wd hg]
        exact Nat.mul_le_mul_right _ hi2
      rw [e1, cut_mid t _ _ hb]
    obtain ⟨x, rows, ex⟩ : ∃ x rows, rowsOf t wd hg = x :: rows := by
      cases er : rowsOf t wd hg with
      | nil => rw [er] at rc; simp at rc; omega
      | cons x rows => exact ⟨x, rows, rfl⟩
    have e2 : (rowsOf t wd hg).map (fun u => sgn (u.headD 0)) = ((rowsOf t wd hg).map fun u => [u.headD 0]).map fun z => PyData.str (txt z) := by rw [List.map_map]; rfl
    refine srs_set 8 k (ev_eq (ev_join (l := []) (xs := (rowsOf t wd hg).map fun u => [u.headD 0]) k (ev_txt []) (ev_eq (ev_lcm [("_law_row_here", 9)] (rowsOf t wd hg) (fun u => dat K (.str (txt u))) (fun u => sgn (u.headD 0)) k (it_tup (rowsOf t wd hg) (fun u => .str (txt u)) k (ev_var 6)) (fun u _ s0 H C cl fp => tg_name 9 k.blk) (fun u hu s0 H C cl fp => ev_ixS (l := u) (n := u.headD 0) (ev_var 9) ev_int ?_ (by have := rl u hu; omega)) (by omega)) (congrArg PyData.list e2)) (by rw [sum_map1]; omega)) (by rw [flat_map1])) ?_
    · have := rl u hu
      cases u with
      | nil => simp at this; omega
      | cons a u => exact at0
    have eb : begB (rowsOf t wd hg) = (!decide (x = List.replicate wd 46) && !decide ((rowsOf t wd hg).map (fun u => u.headD 0) = List.replicate hg 46)) := by
      rw [ne_repl (l := x) (rl x (by rw [ex]; exact List.mem_cons_self ..)), ne_repl (l := (rowsOf t wd hg).map fun u => u.headD 0) (by rw [List.length_map]; exact rc), any_heads]
      unfold begB
      rw [ex]; rfl
    have fl1 : ∀ n : Nat, (List.replicate n [46]).flatten = List.replicate n 46 := fun n => flat_one n 46
    refine srs_if (M := envA W (J (pre ++ [t]))) (cv := begB (rowsOf t wd hg)) (tst_eq (tst_w (tsw_and (tst_neX (l := x) (m := List.replicate wd 46) k (ev_ixT (d := .str (txt x)) k (ev_var 6) ev_int (by rw [ex]; exact at0)) (ev_eq (ev_mulS (l := [46]) (n := wd) (ev_txt [46]) (ev_var 1) (by simp; omega) (by omega)) (by rw [fl1]))) fun _ => tsw_and1 (tst_neX (l := (rowsOf t wd hg).map fun u => u.headD 0) (m := List.replicate hg 46) k (ev_var 8) (ev_eq (ev_mulS (l := [46]) (n := hg) (ev_txt [46]) (ev_var 2) (by simp; omega) (by omega)) (by rw [fl1]))))) eb.symm) (fun hb => ?_) (fun hb => ?_) (srs_nil fun _ _ _ _ z => z)
    · have pk := h.pic t ht hb
      obtain ⟨a1, a2, a3⟩ := sort_args (lcells0 t wd hg)
      have ecl : ((List.range (wd * hg)).filter fun k => !decide (t.getD k 46 = 46)).map (fun k => c3D (((k % wd : Nat) : Int), ((k / wd : Nat) : Int), t.getD k 46)) = (lcells0 t wd hg).map c3D := by unfold lcells0; rw [List.map_map]; rfl
      have gt : ∀ i : Nat, i ∈ List.range (wd * hg) → atI t (i : Nat) = some (t.getD i 46) := fun i hi => atI_nat (getD_at (by have := List.mem_range.mp hi; omega))
      refine srs_set 10 k (ev_sorted (lcells0 t wd hg) c3D k (n_sorted c) (ea_cons (ev_eq (ev_lcs [("_law_k", 7)] (List.range (wd * hg)) (fun i => dat K (.int (i : Nat))) (fun i => !decide (t.getD i 46 = 46)) (fun i => c3D (((i % wd : Nat) : Int), ((i / wd : Nat) : Int), t.getD i 46)) k (it_range1 k (n_range c) (ea_cons (ev_eq (ev_mul (ev_var 1) (ev_var 2) (by unfold CMul; left; omega)) (congrArg PyData.int eprod)) ea_nil)) (fun i _ s0 H C cl fp => tg_name 7 k.blk)
        (fun i hi s0 H C cl fp => tsts_one (tst_eq (tst_neX (l := [t.getD i 46]) (m := [46]) k.blk (ev_ixS (l := t) (n := t.getD i 46) (ev_var 5) (ev_var 7) (gt i hi) (by omega)) (ev_txt [46])) (by simp)))
        (fun i hi _ s0 H C cl fp => ev_tup (ead_cons (ev_eq (ev_mod (ev_var 7) (ev_var 1) (by omega)) (congrArg PyData.int (Int.natCast_emod i wd).symm)) (ead_cons (ev_eq (ev_fdiv (ev_var 7) (ev_var 1) (by omega) (by omega)) (congrArg PyData.int (Int.natCast_ediv i wd).symm)) (ead_cons (ev_ixS (l := t) (n := t.getD i 46) (ev_var 5) (ev_var 7) (gt i hi) (by omega)) ead_nil)))) (by rw [List.length_range]; omega)) (congrArg PyData.list ecl)) ea_nil) a1 a2 a3) ?_
      have hseen := ok_l_seen (P := P) (base := base) c r h.rule (lcells t wd hg) most pk.nd m1 pk.few
      have es : (List.range (most + 1)).map (fun i => picD (lawSt r (lcells t wd hg) i)) = (lawStages r (lcells t wd hg) most).map picD := by unfold lawStages; rw [List.map_map]; rfl
      rw [es] at hseen
      have ec : lawStages r (lcells t wd hg) most = lcells t wd hg :: (List.range most).map fun i => lawSt r (lcells t wd hg) (i + 1) := by
        unfold lawStages
        rw [List.range_succ_eq_map, List.map_cons, List.map_map]; rfl
      have hsg : ∀ l ∈ lawStages r (lcells t wd hg) most, SgL l := fun l hl => by
        unfold lawStages at hl
        obtain ⟨i, hi, rfl⟩ := List.mem_map.mp hl
        exact pk.sig i (by have := List.mem_range.mp hi; omega)
      have hpap := ok_l_paper (P := P) (base := base) c r.so h.rule.sort r.m r.near r.rows.D (lcells t wd hg) ((List.range most).map fun i => lawSt r (lcells t wd hg) (i + 1)) (by rw [← ec]; exact hsg) (by rw [List.length_map, List.length_range]; omega) (by have := pk.few 0 (Nat.zero_le _); exact Nat.le_trans this (by decide))
      rw [← ec] at hpap
      refine srs_set 11 k (ev_call k hpap (ea_cons (ev_var 0) (ea_cons (ev_still (ev_call k hseen (ea_cons (ev_var 0) (ea_cons (ev_var 10) (ea_cons (ev_var 3) ea_nil)))) fun G p ho hp z => still_lst hp z) ea_nil))) ?_
      refine srs_if (M := envA W (J (pre ++ [t]))) (cv := !isN (lawPaper r.so (lawStages r (lcells t wd hg) most))) (tst_cmp1 op_notN rd_notN (ev_var 11) ev_non) (fun hp => ?_) (fun hp => ?_) (srs_nil fun _ _ _ _ z => z)
      · refine srs_cons (sr_append (ds := pre.flatMap (hitL r wd hg most)) 4 k (ev_tup (ead_cons (ev_var 6) (ead_cons (ev_var 11) ead_nil))) (by omega)) (srs_nil fun _ _ _ _ z => z.sub ?_)
        refine ⟨.inr rfl, .inr rfl, .inr rfl, .inr rfl, .inr ?_, .inl rfl, .inl rfl, .inr rfl, .inl rfl, .inr rfl, .inl rfl, .inl rfl, trivial⟩
        rw [esnoc]
        rw [show hitL r wd hg most t = [PyData.tuple [rowsD (rowsOf t wd hg), lawPaper r.so (lawStages r (lcells t wd hg) most)]] by
          unfold hitL
          rw [if_pos hb, if_neg (by intro q; rw [q] at hp; cases hp)]]
        rfl
      · refine srs_nil fun _ _ _ _ z => z.sub ?_
        refine ⟨.inr rfl, .inr rfl, .inr rfl, .inr rfl, .inr ?_, .inl rfl, .inl rfl, .inr rfl, .inl rfl, .inr rfl, .inl rfl, .inl rfl, trivial⟩
        rw [esnoc]
        rw [show hitL r wd hg most t = [] by
          unfold hitL
          rw [if_pos hb, if_pos (by simpa using hp)], List.append_nil]
    · refine srs_nil fun _ _ _ _ z => z.sub ?_
      refine ⟨.inr rfl, .inr rfl, .inr rfl, .inr rfl, .inr ?_, .inl rfl, .inl rfl, .inr rfl, .inl rfl, .inr rfl, .inr rfl, .inr rfl, trivial⟩
      rw [esnoc]
      rw [show hitL r wd hg most t = [] by
        unfold hitL
        rw [if_neg (by rw [hb]; decide)], List.append_nil]
  · exact srs_retO 4
end
end Cs

set_option Elab.async false
set_option linter.all false
set_option autoImplicit false
set_option maxRecDepth 100000
set_option maxHeartbeats 4000000
/-! Values not known: some datum with a property. -/
namespace Cs
open PySem PySem.Spec PyProof.Rows L2
/-- some thing of a kind -/
def exT {β : Type} (p : β → Prop) (t : β → T) : T := fun G v => ∃ y, p y ∧ up (t y) G v
abbrev IX (K : PySem.W.Frag) (p : Int → Prop) : Ent := .fro (exD K p PyData.int)
section
variable {P : Program} {w : World} {K : PySem.W.Frag} {mg : Str → Option Value} {base : Heap} {k : Nat} {X : Cx} {W : Option Addr} {Γ : En} {d d2 : PyData} {ds : List PyData} {x : Str} {pos p0 p2 : Pos} {a b tg : Expr} {es : List Expr} {e e1 e2 : Ent} {v : V} {G H H0 : Hp} {N B C : As} {R : Ent} {rest : List Stmt} {st : Stmt} {β γ : Type} {p : β → Prop} {enc : β → PyData} {q : γ → Prop} {enc2 : γ → PyData} {js : List Nat}
theorem xt_get {t : β → T} (h : EntOk W H0 G H v (.fro (exT p t))) : ∃ y, p y ∧ EntOk W H0 G H v (.fro (t y)) := up.now h
theorem xt_of {t : β → T} {y : β} (hp : p y) (h : EntOk W H0 G H v (.fro (t y))) : EntOk W H0 G H v (.fro (exT p t)) := fun G' l => ⟨y, hp, up.lk h l⟩
theorem ev_exT {t : β → T} {y : β} (hp : p y) (h : Ev X K W Γ a (.fro (t y))) : Ev X K W Γ a (.fro (exT p t)) := ev_to h fun _ _ _ _ z => xt_of hp z
theorem ev_toX (h : Ev X K W Γ a (.fro (exD K p enc))) (i : ∀ y, p y → ∃ z, q z ∧ enc y = enc2 z) : Ev X K W Γ a (.fro (exD K q enc2)) := ev_to h fun _ _ _ _ z => by
  obtain ⟨y, hy, z⟩ := ex_get z
  obtain ⟨u, hu, e⟩ := i y hy
  exact ex_of hu (by rw [← e]; exact z)
theorem ev_xT {t : β → T} (h : Ev X K W Γ a (.fro (exT p t))) {t2 : γ → T} (i : ∀ y, p y → ∃ z, q z ∧ ∀ H0 G H v, EntOk W H0 G H v (.fro (t y)) → EntOk W H0 G H v (.fro (t2 z))) : Ev X K W Γ a (.fro (exT q t2)) := ev_to h fun H0 G H v z => by
  obtain ⟨y, hy, z⟩ := xt_get z
  obtain ⟨u, hu, e⟩ := i y hy
  exact xt_of hu (e _ _ _ _ z)
theorem srs_exT {t : β → T} (i : Nat) (h : ∀ y, p y → Srs X K W rest (envA W (Γ.set i (some (.fro (t y))))) N B C R) (he : Γ[i]? = some (some (.fro (exT p t))) := by rfl) : Srs X K W rest (envA W Γ) N B C R := by
  refine ⟨fun pins s σ H D I q => ?_⟩
  obtain ⟨H0, G0, G, s0, en, r⟩ := q
  obtain ⟨v, hv, q⟩ := en.at_ i _ he
  obtain ⟨y, hy, qy⟩ := xt_get q
  refine (h y hy).run pins s σ H D I ⟨H0, G0, G, s0, ⟨by rw [List.length_set]; exact en.len, fun j e g => ?_, fun j1 j2 o o' p g1 g2 g3 g4 => ?_⟩, r⟩
  · by_cases z : i = j
    · subst z
      have lt : i < Γ.length := (List.getElem?_eq_some_iff.mp he).1
      rw [List.getElem?_set_self lt] at g
      cases g
      exact ⟨v, hv, qy⟩
    · rw [List.getElem?_set_ne z] at g
      exact en.at_ j e g
  · have ne : ∀ (j : Nat) (o : OwnP), (Γ.set i (some (.fro (t y))))[j]? = some (some (.own o)) → Γ[j]? = some (some (.own o)) := fun j o g => by
      by_cases z : i = j
      · subst z
        have lt : i < Γ.length := (List.getElem?_eq_some_iff.mp he).1
        rw [List.getElem?_set_self lt] at g
        cases g
      · rwa [List.getElem?_set_ne z] at g
    exact en.sep j1 j2 o o' p (ne j1 o g1) (ne j2 o' g2) g3 g4
theorem srs_exD (i : Nat) (h : ∀ y, p y → Srs X K W rest (envA W (Γ.set i (some (Dt K (enc y))))) N B C R) (he : Γ[i]? = some (some (.fro (exD K p enc))) := by rfl) : Srs X K W rest (envA W Γ) N B C R := srs_exE i he h
/-- one of many entries -/
theorem srs_exA {Γ' : β → En} (h : ∀ y, p y → Srs X K W rest (envA W (Γ' y)) N B C R) : Srs X K W rest (fun H0 G H σ => ∃ y, p y ∧ EnvOk W H0 G H σ (Γ' y)) N B C R :=
  ⟨fun pins s σ H D I ⟨H0, G0, G, s0, ⟨y, hy, en⟩, r⟩ => (h y hy).run pins s σ H D I ⟨H0, G0, G, s0, en, r⟩⟩
/-- x, y = e, e not known -/
theorem srs_unpX {Γ' : β → En} (ha : Ev X K W Γ a (.fro (exD K p enc))) (hg : ∀ y, p y → PG X tg (cG K W Γ (dat K (enc y)) (Γ' y) js)) (h : ∀ y, p y → Srs X K W rest (envA W (Γ' y)) N B C R) (hs : swapsWithSole [tg] a pos.line X.env = pure false := by rfl) (hw : swappedStores [tg] a X.env = pure none := by rfl) (h1 : (assignEach [tg] X.env).map (·.2) = [assign tg X.env] := by rfl) :
    Srs X K W (.Assign [tg] a pos :: rest) (envA W Γ) N B C R :=
  srs_cons (M := fun H0 G H σ => ∃ y, p y ∧ EnvOk W H0 G H σ (Γ' y)) (psI (ps_asg ha (pg_ex p hg) hs hw h1) fun D σ H ⟨H0, G0, G, s, en, n, r⟩ => ⟨H0, G, s.frm, en, fun v H' G' s' q => by
    obtain ⟨y, hy, q⟩ := ex_get q
    exact ⟨y, hy, H0, G', s'.frm, en.step s', q, fun σ' en' _ => n σ' H' G' (s.trans s') ⟨y, hy, en'⟩⟩⟩) (srs_exA h)
/-! ### operators -/
theorem rd_exL {r : R2} (h : ∀ y, p y → RdO K W r (Dt K (enc y)) e2 e) : RdO K W r (.fro (exD K p enc)) e2 e := fun H0 G H x y f hb q1 q2 Q k => by
  obtain ⟨z, hz, q⟩ := ex_get q1
  exact h z hz H0 G H x y f hb q q2 Q k
theorem rd_exR {r : R2} (h : ∀ y, p y → RdO K W r e1 (Dt K (enc y)) e) : RdO K W r e1 (.fro (exD K p enc)) e := fun H0 G H x y f hb q1 q2 Q k => by
  obtain ⟨z, hz, q⟩ := ex_get q2
  exact h z hz H0 G H x y f hb q1 q Q k
theorem rd_toX {r : R2} {y : β} (hp : p y) (h : RdO K W r e1 e2 (Dt K (enc y))) : RdO K W r e1 e2 (.fro (exD K p enc)) := fun H0 G H x z f hb q1 q2 Q k => h H0 G H x z f hb q1 q2 Q fun v H' G' s q => k v H' G' s (ex_of hp q)
variable {pi qi ri : Int → Prop}
theorem ev_IX {i : Int} (h : Ev X K W Γ a (Dt K (.int i))) (hi : pi i) : Ev X K W Γ a (IX K pi) := ev_ex hi h
theorem ev_addX (ha : Ev X K W Γ a (IX K pi)) (hb : Ev X K W Γ b (IX K qi)) (h : ∀ i j, pi i → qi j → ri (i + j)) : Ev X K W Γ (.BinOp a .Add b pos) (IX K ri) := ev_op op_add (rd_exL fun i hi => rd_exR fun j hj => rd_toX (h i j hi hj) (rd_I0 fun _ => .int _)) ha hb
theorem ev_mulX (ha : Ev X K W Γ a (IX K pi)) (hb : Ev X K W Γ b (IX K qi)) (h : ∀ i j, pi i → qi j → CMul i j ∧ ri (i * j)) : Ev X K W Γ (.BinOp a .Mult b pos) (IX K ri) := ev_op op_mul (rd_exL fun i hi => rd_exR fun j hj => rd_toX (h i j hi hj).2 (rd_I (h i j hi hj).1 fun _ => .int _)) ha hb
theorem ev_modX (ha : Ev X K W Γ a (IX K pi)) (hb : Ev X K W Γ b (IX K qi)) (h : ∀ i j, pi i → qi j → 0 < j ∧ ri (i % j)) : Ev X K W Γ (.BinOp a .Mod b pos) (IX K ri) := ev_op op_mod (rd_exL fun i hi => rd_exR fun j hj => rd_toX (h i j hi hj).2 (rd_I (h i j hi hj).1 fun _ => .int _)) ha hb
theorem ev_fdivX (ha : Ev X K W Γ a (IX K pi)) (hb : Ev X K W Γ b (IX K qi)) (h : ∀ i j, pi i → qi j → (0 < j ∧ j < 1073741824) ∧ ri (i / j)) : Ev X K W Γ (.BinOp a .FloorDiv b pos) (IX K ri) := ev_op op_fdiv (rd_exL fun i hi => rd_exR fun j hj => rd_toX (h i j hi hj).2 (rd_I (C := CDiv) (h i j hi hj).1 fun _ => .int _)) ha hb
/-- a comparison whose outcome is open -/
theorem tst_opX {op : CmpOp} {r : R2} {f : Int → Int → Bool} (ho : OpR X (compareOp op) r) (hr : ∀ i j, RdO K W r (Dt K (.int i)) (Dt K (.int j)) (Dt K (.bool (f i j)))) (ha : Ev X K W Γ a (IX K pi)) (hb : Ev X K W Γ b (IX K qi)) (hm : behindInMarks op b = false := by first | exact nomark _ | with_unfolding_all rfl) : Tst X K W Γ (.Compare a [op] [b] pos) (fun c => ∃ i j, pi i ∧ qi j ∧ c = f i j) :=
  tst_cmp ho (rd_exL fun i hi => rd_exR fun j hj => fun H0 G H x y fr hb q1 q2 Q k => hr i j H0 G H x y fr hb q1 q2 Q fun v H' G' s q => k v H' G' s fun _ _ => ⟨_, dt_bool q, i, j, hi, hj, rfl⟩) ha hb hm
/-- a draw is nought: open -/
theorem tst_any0 {j : Int} (ha : Ev X K W Γ a (IX K pi)) (hb : Ev X K W Γ b (Dt K (.int j))) (hm : behindInMarks .Eq b = false := by first | exact nomark _ | with_unfolding_all rfl) : Tst X K W Γ (.Compare a [.Eq] [b] pos) (fun _ => True) :=
  tst_to (tst_opX (f := fun i j => decide (i = j)) op_eq (fun i j => rd_eqI) ha (ev_IX (pi := fun _ => True) hb trivial) hm) fun _ _ => trivial
theorem sr_ifA {thn els : List Stmt} (hc : Tst X K W Γ a (fun _ => True)) (h1 : Srs X K W thn (envA W Γ) N B C R) (h2 : Srs X K W els (envA W Γ) N B C R) : Sr X K W (.If a thn els pos) (envA W Γ) N B C R := sr_ifX hc (fun _ => h1) (fun _ => h2) (.inl trivial) (.inl trivial)
theorem srs_ifA {M : As} {thn els : List Stmt} (hc : Tst X K W Γ a (fun _ => True)) (h1 : Srs X K W thn (envA W Γ) M B C R) (h2 : Srs X K W els (envA W Γ) M B C R) (h : Srs X K W rest M N B C R) : Srs X K W (.If a thn els pos :: rest) (envA W Γ) N B C R := srs_cons (sr_ifA hc h1 h2) h
/-- known and open -/
theorem tsw_andA {re : List Expr} {c1 : Bool} (h : Tst X K W Γ a (fun b => b = c1)) (t : c1 = true → Tsw X K W Γ (.BoolOp .And (b :: re) pos) (fun _ => True)) : Tsw X K W Γ (.BoolOp .And (a :: b :: re) pos) (fun r => r = true → c1 = true) := by
  cases c1 with
  | true =>
    refine pwI (pw_and h (t rfl)) fun σ H Q ⟨H0, G, f, en, k⟩ => ⟨H0, G, f, en, fun b H' G' s q => ?_⟩
    subst q
    exact iteT ⟨H0, G', s.frm, en.step s, fun b H2 G2 s2 q2 => k b H2 G2 (s.trans s2) fun _ => rfl⟩
  | false =>
    refine pwI (tsw_and (c2 := false) h fun z => nomatch z) fun σ H Q ⟨H0, G, f, en, k⟩ => ⟨H0, G, f, en, fun b H' G' s q => k b H' G' s fun z => by rw [q] at z; cases z⟩
/-! ### indices, slices -/
theorem ev_ixLX (c : Cok P w K mg base k X) (ha : Ev X K W Γ a (Dt K (.list ds))) (hb : Ev X K W Γ b (IX K pi)) (hi : ∀ i, pi i → ∃ y, q y ∧ atI ds i = some (enc2 y)) (hp : PlainIx b := by exact fun _ _ => rfl) : Ev X K W Γ (.Subscript a b pos) (.fro (exD K q enc2)) :=
  peI (pe_ix ix_list ha hb hp) fun σ H Q ⟨H0, G, f, en, k⟩ => pre2 rfl rfl f en fun x y H2 G2 s q1 q2 => by
    obtain ⟨p, xs, rfl, hs, hd⟩ := dt_list q1
    obtain ⟨i, pi, q2⟩ := ex_get q2
    obtain ⟨z, hz, e⟩ := hi i pi
    obtain ⟨v, h1, h2⟩ := dp_atI hd e
    exact ⟨p, xs, i, v, rfl, dt_int q2, by rw [c.hK]; exact s.frm.seqL hs, h1, k v H2 G2 s (ex_of hz (dt_of h2))⟩
/-- neither the list nor the index known -/
theorem ev_ixLXX (c : Cok P w K mg base k X) (ha : Ev X K W Γ a (.fro (exD K p enc))) (hb : Ev X K W Γ b (IX K pi)) (hi : ∀ y i, p y → pi i → ∃ ds, enc y = .list ds ∧ ∃ z, q z ∧ atI ds i = some (enc2 z)) (hp : PlainIx b := by exact fun _ _ => rfl) : Ev X K W Γ (.Subscript a b pos) (.fro (exD K q enc2)) :=
  peI (pe_ix ix_list ha hb hp) fun σ H Q ⟨H0, G, f, en, k⟩ => pre2 rfl rfl f en fun x y H2 G2 s q1 q2 => by
    obtain ⟨u, hu, q1⟩ := ex_get q1
    obtain ⟨i, pi, q2⟩ := ex_get q2
    obtain ⟨ds, e0, z, hz, e⟩ := hi u i hu pi
    rw [e0] at q1
    obtain ⟨p, xs, rfl, hs, hd⟩ := dt_list q1
    obtain ⟨v, h1, h2⟩ := dp_atI hd e
    exact ⟨p, xs, i, v, rfl, dt_int q2, by rw [c.hK]; exact s.frm.seqL hs, h1, k v H2 G2 s (ex_of hz (dt_of h2))⟩
theorem ev_ixTX (c : Cok P w K mg base k X) (ha : Ev X K W Γ a (Dt K (.tuple ds))) (hb : Ev X K W Γ b (IX K pi)) (hi : ∀ i, pi i → ∃ y, q y ∧ atI ds i = some (enc2 y)) (hp : PlainIx b := by exact fun _ _ => rfl) : Ev X K W Γ (.Subscript a b pos) (.fro (exD K q enc2)) :=
  peI (pe_ix ix_tup ha hb hp) fun σ H Q ⟨H0, G, f, en, k⟩ => pre2 rfl rfl f en fun x y H2 G2 s q1 q2 => by
    obtain ⟨p, xs, rfl, hs, hd⟩ := dt_tuple q1
    obtain ⟨i, pi, q2⟩ := ex_get q2
    obtain ⟨z, hz, e⟩ := hi i pi
    obtain ⟨v, h1, h2⟩ := dp_atI hd e
    exact ⟨p, xs, i, v, rfl, dt_int q2, by rw [c.hK]; exact s.frm.seqT hs, h1, k v H2 G2 s (ex_of hz (dt_of h2))⟩
theorem ev_ixSX {l : List Nat} {q : Nat → Prop} (ha : Ev X K W Γ a (Dt K (.str (txt l)))) (hb : Ev X K W Γ b (IX K pi)) (hi : ∀ i, pi i → ∃ n, q n ∧ atI l i = some n) (hz : l.length ≤ 16777216 := by omega) (hp : PlainIx b := by exact fun _ _ => rfl) : Ev X K W Γ (.Subscript a b pos) (.fro (exD K q sgn)) :=
  peI (pe_ix ix_str ha hb hp) fun σ H Q ⟨H0, G, f, en, k⟩ => pre2 rfl rfl f en fun x y H2 G2 s q1 q2 => by
    obtain ⟨i, pi, q2⟩ := ex_get q2
    obtain ⟨n, hn, e⟩ := hi i pi
    exact ⟨txt l, i, n, dt_str q1, dt_int q2, by rw [txt_len]; exact hz, by rw [txt_list]; exact e, k _ H2 G2 s (ex_of hn (dt_of (.str _)))⟩
/-- xs[:n], n not known -/
theorem ev_slLX {hi : Expr} {p2 : Pos} (c : Cok P w K mg base k X) (ha : Ev X K W Γ a (Dt K (.list ds))) (hh : Ev X K W Γ hi (IX K pi)) : Ev X K W Γ (.Subscript a (.Slice none (some hi) none p2) pos) (.fro (exD K (fun ys => ∃ i, pi i ∧ ys = cut ds none (some i)) .list)) :=
  peI (pe_slice sl_list ha (op_none (K := K) (W := W) (Γ := Γ)) (po_some hh)) fun σ H Q ⟨H0, G, f, en, k⟩ => ⟨H0, G, f, en, fun v H1 G1 s1 q1 => ⟨H0, G1, s1.frm, en.step s1, fun H2 G2 s2 => ⟨H0, G2, s2.frm, (en.step s1).step s2, fun u H3 G3 s3 q3 => by
    obtain ⟨i, hpi, q3⟩ := ex_get q3
    refine ⟨i, dt_int q3, ?_⟩
    obtain ⟨p, xs, rfl, hs, hd⟩ := dt_list ((q1.step s2).step s3)
    refine ⟨p, xs, rfl, by rw [c.hK]; exact s3.frm.seqL hs, fun l hl => ?_⟩
    obtain ⟨s4, q4⟩ := new_lst s3.frm ((DpAll.drop _ hd).take _) hl
    refine k _ _ _ ((s1.trans s2).trans (s3.trans s4)) (ex_of (y := cut ds none (some i)) ⟨i, hpi, rfl⟩ (EntOk.back ?_ fun a z => s1.free (s2.free (s3.free z))))
    rw [hd.length] at q4
    exact (by unfold cutV; rw [hd.length]; exact q4)⟩⟩⟩
/-! ### displays, built-ins -/
theorem ev_lstX (h : Ea X K W Γ [a] [.fro (exD K p enc)]) : Ev X K W Γ (.List [a] pos) (.fro (exD K p fun y => .list [enc y])) :=
  peI (pe_lst h) fun σ H Q ⟨H0, G, f, en, k⟩ => ⟨H0, G, f, en, fun vs H1 G1 s1 q1 => by
    obtain ⟨v, rfl, q⟩ := args1 q1
    obtain ⟨y, hy, q⟩ := ex_get q
    refine ⟨Nat.le_of_ble_eq_true rfl, fun p hp => ?_⟩
    obtain ⟨s2, q2⟩ := new_lst s1.frm (.cons (dt_dp q) .nil) hp
    exact k (.ref p) _ _ (s1.trans s2) (ex_of hy (q2.back fun a z => s1.free z))⟩
theorem ev_catX (nk : NoKL K) (c : Cok P w K mg base k X) {pl : List PyData → Prop} (ha : Ev X K W Γ a (Dt K (.list ds))) (hb : Ev X K W Γ b (.fro (exD K pl .list))) (hz : ∀ es, pl es → ds.length + es.length ≤ 16777216) : Ev X K W Γ (.BinOp a .Add b pos) (.fro (exD K (fun ys => ∃ es, pl es ∧ ys = ds ++ es) .list)) :=
  ev_op (op_catK nk c) (rd_exR fun es hes => rd_toX ⟨es, hes, rfl⟩ fun H0 G H x y f hb q1 q2 Q k => by
    obtain ⟨p, xs, rfl, hs, hd⟩ := dt_list q1
    obtain ⟨p', ys, rfl, hs', hd'⟩ := dt_list q2
    refine ⟨p, p', xs, ys, rfl, rfl, f.seqL hs, f.seqL hs', by rw [hd.length, hd'.length, sizeLine_eq]; exact hz es hes, fun l hl => ?_⟩
    obtain ⟨s2, q2⟩ := new_lst f (hd.append hd') hl
    exact k _ _ _ s2 (q2.back hb)) ha hb
theorem ev_tupleLX (c : Cok P w K mg base k X) {pl : List PyData → Prop} (hm : mg "tuple" = none) (ha : Ev X K W Γ a (.fro (exD K pl .list))) (hg : Gl X "tuple" := by rfl) (he : A1 X a := by rfl) : Ev X K W Γ (.Call (.Name "tuple" p0) [a] [] pos) (.fro (exD K pl .tuple)) :=
  ev_callT c call_tuple_of (fun H0 G H vs f hb q Q k => by
    obtain ⟨v, rfl, q1⟩ := args1 q
    obtain ⟨ds, hds, q1⟩ := ex_get q1
    obtain ⟨p, xs, rfl, hs, hd⟩ := dt_list q1
    refine ⟨p, xs, rfl, .inl ⟨by rw [c.hK]; exact f.seqL hs, fun l hl => ?_⟩⟩
    obtain ⟨s2, q2⟩ := new_tup f hd hl
    exact k _ _ _ s2 (ex_of hds (q2.back hb))) hm (by decide +kernel) (ea_cons ha ea_nil he) hg (he := he)
theorem ev_tupleXX (c : Cok P w K mg base k X) {pl : List PyData → Prop} (hm : mg "tuple" = none) (ha : Ev X K W Γ a (.fro (exD K pl .list))) (hg : Gl X "tuple" := by rfl) (he : A1 X a := by rfl) : Ev X K W Γ (.Call (.Name "tuple" p0) [a] [] pos) (.fro (exT pl (xtT K))) :=
  ev_callT c call_tupX (fun H0 G H vs f hb q Q k => by
    obtain ⟨v, rfl, q1⟩ := args1 q
    obtain ⟨ds, hds, q1⟩ := ex_get q1
    obtain ⟨p, xs, rfl, hs, hd⟩ := dt_list q1
    refine ⟨p, xs, rfl, by rw [c.hK]; exact f.seqL hs, fun l ob hl hx => ?_⟩
    obtain ⟨s2, q2⟩ := new_xt f hd hl hx
    exact k _ _ _ s2 (xt_of hds (q2.back hb))) hm (by decide +kernel) (ea_cons ha ea_nil he) hg (he := he)
theorem ev_joinX {apos : Pos} {q : List (List Nat) → Prop} (c : Cok P w K mg base k X) (ha : Ev X K W Γ a (Dt K (.str (txt [])))) (hb : Ev X K W Γ b (.fro (exD K q fun xs => .list (xs.map fun z => .str (txt z))))) (hz : ∀ xs, q xs → (xs.map List.length).sum ≤ 16777216)
    (hs : starEach [b] X.env = [(false, eval b X.env)] := by rfl) (hbase : attributeBase a "join" X.env (eval a X.env) = eval a X.env := by rfl) (hline : (apos.endLine == pos.line) = true := by rfl) : Ev X K W Γ (.Call (.Attribute a "join" apos) [b] [] pos) (.fro (exD K q fun xs => .str (txt xs.flatten))) :=
  peI (pe_join ha hb hs hbase hline) fun σ H Q ⟨H0, G, f, en, k⟩ => ⟨H0, G, f, en, fun v H1 G1 s1 q1 => ⟨⟨txt [], dt_str q1⟩, H0, G1, s1.frm, en.step s1, fun u H2 G2 s2 q2 => by
    obtain ⟨xs, hxs, q2⟩ := ex_get q2
    obtain ⟨p, vs, rfl, hs, hd⟩ := dt_list q2
    have e0 : xs.map (fun z => PyData.str (txt z)) = (xs.map txt).map .str := by rw [List.map_map]; rfl
    rw [e0] at hd
    rw [dpStrs hd] at hs
    refine ⟨txt [], p, xs.map txt, dt_str q1, rfl, .inl (by rw [c.hK]; exact s2.frm.seqL hs), ?_, k _ H2 G2 (s1.trans s2) (ex_of hxs (dt_of ?_))⟩
    · have e1 : (xs.map txt).map (·.length) = xs.map List.length := by rw [List.map_map]; exact List.map_congr_left fun z _ => txt_len z
      rw [e1, txt_len]
      have := hz xs hxs
      simpa using this
    · rw [join_txt]; exact .str _⟩⟩
end
end Cs

set_option Elab.async false
set_option linter.all false
set_option autoImplicit false
set_option maxRecDepth 100000
set_option maxHeartbeats 4000000
/-! The law's bag; a draw. -/
namespace Cs
open PySem PySem.Spec PyProof.Rows L2
theorem pget_list {X : Cx} : PGet X (fun x y H Q => ∃ p xs i v, x = .ref p ∧ y = .int (i : Nat) ∧ H p = some (.lst xs) ∧ xs[i]? = some v ∧ Q v H) := by
  intro pins s σ H o i ov iv Q I ro ri h
  obtain ⟨p, xs, i, v, rfl, rfl, hp, he, q⟩ := h
  cases ro
  obtain ⟨t, rfl⟩ := ri
  obtain ⟨its, r, pl, hz⟩ := I.list (SqL.of hp)
  obtain ⟨w, ew, rw'⟩ := r.get he
  have hl := r.length
  have hn := line63
  have lt : i < xs.length := (List.getElem?_eq_some_iff.mp he).1
  exact wpAny_getItem_list pl.isList (by omega) (by omega) (by simpa using ew) ⟨v, H, I, rw', q⟩
section
variable {P : Program} {w : World} {K : PySem.W.Frag} {mg : Str → Option Value} {base : Heap} {k : Nat} {X : Cx} {W : Option Addr} {Γ : En} {x : Str} {pos pos' p2 p3 tpos : Pos} {a b val : Expr} {G H H0 : Hp} {N B C : As} {R : Ent} {b0 : Addr} {pi : Int → Prop} {σ : L2.St}
abbrev nneg (n : Int) : Prop := 0 ≤ n
abbrev nnegs (ns : List Int) : Prop := ∀ n ∈ ns, 0 ≤ n
def intsD (ns : List Int) : PyData := .list (ns.map .int)
theorem ints_dp : ∀ ns : List Int, DpAll K G (ns.map V.int) (ns.map .int)
  | [] => .nil
  | n :: ns => .cons (.int n) (ints_dp ns)
theorem bag_at (en : EnvOk W H0 G H σ Γ) (i : Nat) (he : Γ[i]? = some (some .bag)) : ∃ b, σ[i]? = some (some (.ref b)) ∧ W = some b := by
  obtain ⟨v, hv, b, rfl, hW⟩ := en.at_ i _ he
  exact ⟨b, hv, hW⟩
/-- bag[j], j below 3 -/
theorem ev_bag (i : Nat) {j : Nat} {jk : Nat} (c : Cok P w K mg base k X) (hj : j < 3 := by decide) (he : Γ[i]? = some (some .bag) := by rfl) (hN : X.N[i]? = some x := by rfl) (hvis : Vis X.env.scope x := by first | exact Or.inl rfl | exact Or.inr (Or.inl rfl) | exact Or.inr (Or.inr rfl)) (hd : (x == ("__debug__" : Str)) = false := by decide) (hcd : (x == ("__classdict__" : Str)) = false := by decide) :
    Ev X K W Γ (.Subscript (.Name x p2) (.Constant (.int (j : Nat)) jk p3) pos) (IX K nneg) :=
  peI (pe_ix ix_list (pe_var hN hvis hd hcd) (ev_int (K := K) (W := W) (Γ := Γ)) (fun _ _ => rfl)) fun σ H Q ⟨H0, G, f, en, k⟩ => by
    obtain ⟨b, hv, hW⟩ := bag_at en i he
    refine ⟨_, hv, H0, G, f, en, fun y H1 G1 s1 q1 => ?_⟩
    obtain ⟨g0, u, v, z, c1, ns, hb, hs, h1, h2, h3, h4⟩ := s1.frm.2 b hW
    have ej : ∃ n : Int, 0 ≤ n ∧ [V.int u, .int v, .int z, .ref c1][j]? = some (.int n) := by
      rcases j with _ | _ | _ | j
      · exact ⟨u, h1, rfl⟩
      · exact ⟨v, h2, rfl⟩
      · exact ⟨z, h3, rfl⟩
      · omega
    obtain ⟨n, hn, e⟩ := ej
    exact ⟨b, _, (j : Nat), .int n, rfl, dt_int q1, SqL.of hb, atI_nat e, k _ H1 G1 s1 (ex_of hn (dt_of (.int n)))⟩
/-- bag[3] -/
theorem ev_bag3 (i : Nat) {jk : Nat} (c : Cok P w K mg base k X) (he : Γ[i]? = some (some .bag) := by rfl) (hN : X.N[i]? = some x := by rfl) (hvis : Vis X.env.scope x := by first | exact Or.inl rfl | exact Or.inr (Or.inl rfl) | exact Or.inr (Or.inr rfl)) (hd : (x == ("__debug__" : Str)) = false := by decide) (hcd : (x == ("__classdict__" : Str)) = false := by decide) :
    Ev X K W Γ (.Subscript (.Name x p2) (.Constant (.int 3) jk p3) pos) (.fro (exD K nnegs intsD)) :=
  peI (pe_ix ix_list (pe_var hN hvis hd hcd) (ev_int (K := K) (W := W) (Γ := Γ)) (fun _ _ => rfl)) fun σ H Q ⟨H0, G, f, en, k⟩ => by
    obtain ⟨b, hv, hW⟩ := bag_at en i he
    refine ⟨_, hv, H0, G, f, en, fun y H1 G1 s1 q1 => ?_⟩
    obtain ⟨g0, u, v, z, c1, ns, hb, hs, h1, h2, h3, h4⟩ := s1.frm.2 b hW
    exact ⟨b, _, 3, .ref c1, rfl, dt_int q1, SqL.of hb, atI_nat (j := 3) rfl, k _ H1 G1 s1 (ex_of (enc := intsD) h4 (dt_of (.lst hs (ints_dp ns))))⟩
/-- the bag changed -/
theorem Step.bagput {x y z : Int} {c1 : Addr} {ns : List Int} (f : Frm K W G H) (hW : W = some b0) (hs : SqL K G c1 (ns.map V.int)) (h1 : 0 ≤ x) (h2 : 0 ≤ y) (h3 : 0 ≤ z) (h4 : ∀ n ∈ ns, 0 ≤ n) : Step K W G H G (upd H b0 (.lst [.int x, .int y, .int z, .ref c1])) where
  keep := fun a o e n => by
    have ne : a ≠ b0 := fun q => n (by rw [q]; exact hW)
    rw [upd_ne ne]; exact e
  gro := Same.refl _
  new := fun a u e e' => by rw [e] at e'; cases e'
  frm := by
    have gb := (f.2 b0 hW).1
    refine ⟨fun a u e => by rw [upd_ne (ne_of_none e gb)]; exact f.1 a u e, fun b hb => ?_⟩
    rw [hW] at hb
    cases hb
    exact ⟨gb, x, y, z, c1, ns, upd_same, hs, h1, h2, h3, h4⟩
  bagS := fun b o hb e => by
    rw [hW] at hb
    cases hb
    exact ⟨_, upd_same⟩
/-- bag[j] = e -/
theorem sr_bagput (i : Nat) {j : Nat} {jk : Nat} (c : Cok P w K mg base k X) (hv : Ev X K W Γ val (IX K nneg)) (hj : j < 3 := by decide) (he : Γ[i]? = some (some .bag) := by rfl) (hN : X.N[i]? = some x := by rfl) (hvis : Vis X.env.scope x := by first | exact Or.inl rfl | exact Or.inr (Or.inl rfl) | exact Or.inr (Or.inr rfl)) (hd : (x == ("__debug__" : Str)) = false := by decide) (hcd : (x == ("__classdict__" : Str)) = false := by decide)
    (ha : ∀ v, assign (.Subscript (.Name x p2) (.Constant (.int (j : Nat)) jk p3) pos') X.env v = (do
      let ov ← holding [v] (eval (.Name x p2) X.env)
      let iv ← holding [v, ov] (eval (.Constant (.int (j : Nat)) jk p3) X.env)
      standAt pos'
      holding [v, ov, iv] (setItem ov iv v)
      release [v, ov, iv] []) := by intro _; rfl) (hs : swapsWithSole [.Subscript (.Name x p2) (.Constant (.int (j : Nat)) jk p3) pos'] val pos.line X.env = pure false := by rfl) (hw : swappedStores [.Subscript (.Name x p2) (.Constant (.int (j : Nat)) jk p3) pos'] val X.env = pure none := by rfl) (h1 : (assignEach [.Subscript (.Name x p2) (.Constant (.int (j : Nat)) jk p3) pos'] X.env).map (·.2) = [assign (.Subscript (.Name x p2) (.Constant (.int (j : Nat)) jk p3) pos') X.env] := by rfl) :
    Sr X K W (.Assign [.Subscript (.Name x p2) (.Constant (.int (j : Nat)) jk p3) pos'] val pos) (envA W Γ) (envA W Γ) B C R :=
  psI (ps_asg hv (pg_sub (pe_var hN hvis hd hcd) (ev_int (K := K) (W := W) (Γ := Γ)) set_list ha) hs hw h1) fun D σ H ⟨H0, G0, G, s, en, n, r⟩ => ⟨H0, G, s.frm, en, fun v H1 G1 s1 q1 => by
    obtain ⟨b, hv, hW⟩ := bag_at en i he
    refine ⟨_, hv, H0, G1, s1.frm, en.step s1, fun y H2 G2 s2 q2 => ?_⟩
    obtain ⟨m, hm, q1⟩ := ex_get q1
    obtain ⟨g0, u, v, z, c1, ns, hb, hsq, g1, g2, g3, g4⟩ := s2.frm.2 b hW
    rw [dt_int q1]
    have s12 := s1.trans s2
    rcases j with _ | _ | _ | j
    · have s3 := Step.bagput s2.frm hW hsq hm g2 g3 g4
      exact ⟨b, _, 0, 0, rfl, dt_int q2, hb, rfl, n σ _ G2 (s.trans (s12.trans s3)) (en.step (s12.trans s3))⟩
    · have s3 := Step.bagput s2.frm hW hsq g1 hm g3 g4
      exact ⟨b, _, 1, 1, rfl, dt_int q2, hb, rfl, n σ _ G2 (s.trans (s12.trans s3)) (en.step (s12.trans s3))⟩
    · have s3 := Step.bagput s2.frm hW hsq g1 g2 hm g4
      exact ⟨b, _, 2, 2, rfl, dt_int q2, hb, rfl, n σ _ G2 (s.trans (s12.trans s3)) (en.step (s12.trans s3))⟩
    · omega⟩
/-- bag[2] += 1 -/
theorem sr_bagaug (i : Nat) {jk jk2 : Nat} (c : Cok P w K mg base k X) (he : Γ[i]? = some (some .bag) := by rfl) (hN : X.N[i]? = some x := by rfl) (hvis : Vis X.env.scope x := by first | exact Or.inl rfl | exact Or.inr (Or.inl rfl) | exact Or.inr (Or.inr rfl)) (hd : (x == ("__debug__" : Str)) = false := by decide) (hcd : (x == ("__classdict__" : Str)) = false := by decide)
    (ha : ∀ ov iv new, augStore (.Constant (.int 2) jk p3) ov iv new = (do holding [new, ov, iv] (setItem ov iv new); release [new, ov, iv] []; pure .next) := by intros; rfl) :
    Sr X K W (.AugAssign (.Subscript (.Name x p2) (.Constant (.int 2) jk p3) tpos) .Add (.Constant (.int 1) jk2 pos') pos) (envA W Γ) (envA W Γ) B C R :=
  psI (ps_augS (pe_var hN hvis hd hcd) (ev_int (K := K) (W := W) (Γ := Γ)) pget_list (ev_int (K := K) (W := W) (Γ := Γ)) ip_add set_list ha) fun D σ H ⟨H0, G0, G, s, en, n, r⟩ => by
    obtain ⟨b, hv, hW⟩ := bag_at en i he
    refine ⟨_, hv, H0, G, s.frm, en, fun y H1 G1 s1 q1 => ?_⟩
    obtain ⟨g0, u, v, z, c1, ns, hb, hs, h1, h2, h3, h4⟩ := s1.frm.2 b hW
    refine ⟨b, _, 2, .int z, rfl, dt_int q1, hb, rfl, H0, G1, s1.frm, en.step s1, fun y2 H2 G2 s2 q2 => ?_⟩
    obtain ⟨g0, u', v', z', c1', ns', hb', hs', h1', h2', h3', h4'⟩ := s2.frm.2 b hW
    have s12 := s1.trans s2
    refine ⟨z, 1, rfl, dt_int q2, ?_⟩
    have s3 := Step.bagput s2.frm hW hs' h1' h2' (show 0 ≤ z + 1 by omega) h4'
    exact ⟨b, _, 2, 2, rfl, dt_int q1, hb', rfl, n σ _ G2 (s.trans (s12.trans s3)) (en.step (s12.trans s3))⟩
end
end Cs

set_option Elab.async false
set_option linter.all false
set_option autoImplicit false
set_option maxRecDepth 100000
set_option maxHeartbeats 4000000
/-! A draw. -/
namespace Cs
open PySem PySem.Spec PyProof.Rows L2
section
variable {P : Program} {w : World} {K : PySem.W.Frag} {mg : Str → Option Value} {base : Heap} {k : Nat} {X : Cx} {W : Option Addr} {Γ : En} {x y : Str} {p1 p2 p3 p4 p5 p6 p7 p8 p9 q0 q1 q2 q3 q4 q5 q6 q7 q8 q9 : Pos} {N B C : As} {R : Ent}
/-- if bag[2] < len(bag[3]): cell = bag[3][bag[2]] -/
theorem sr_bagcell (i ci : Nat) {j1 j2 j3 j4 : Nat} {z0 : Int} (c : Cok P w K mg base k X) (hm : mg "len" = none) (z00 : 0 ≤ z0) (he : Γ[i]? = some (some .bag) := by rfl) (hce : Γ[ci]? = some (some (Dt K (.int z0))) := by rfl) (no : ∀ (j : Nat) (o : OwnP), Γ[j]? ≠ some (some (.own o)))
    (hN : X.N[i]? = some x := by rfl) (hvis : Vis X.env.scope x := by first | exact Or.inl rfl | exact Or.inr (Or.inl rfl) | exact Or.inr (Or.inr rfl)) (hd : (x == ("__debug__" : Str)) = false := by decide) (hcd : (x == ("__classdict__" : Str)) = false := by decide)
    (hi : X.N[ci]? = some y := by rfl) (hx : Loc X.env.scope y := by first | exact Or.inl rfl | exact Or.inr rfl) (hg : Gl X "len" := by rfl) (hn : ("len" : Str) ≠ "__name__" := by decide)
    (hmk : behindInMarks .Lt (.Call (.Name "len" p4) [.Subscript (.Name x p5) (.Constant (.int 3) j2 p6) p7] [] p8) = false := by first | exact nomark _ | with_unfolding_all rfl)
    (h1 : starEach [.Subscript (.Name x p5) (.Constant (.int 3) j2 p6) p7] X.env = (false, eval (.Subscript (.Name x p5) (.Constant (.int 3) j2 p6) p7) X.env) :: starEach [] X.env := by rfl)
    (hs : swapsWith (.Subscript (.Subscript (.Name x q1) (.Constant (.int 3) j3 q2) q3) (.Subscript (.Name x q4) (.Constant (.int 2) j4 q5) q6) q7) (some (.Name y q0)) q8.line X.env = pure false := by rfl)
    (hf : X.fn y = true ∨ X.env.scope.names.lookup y = some .local := by first | exact .inl rfl | exact .inr rfl) :
    Sr X K W (.If (.Compare (.Subscript (.Name x p1) (.Constant (.int 2) j1 p2) p3) [.Lt] [.Call (.Name "len" p4) [.Subscript (.Name x p5) (.Constant (.int 3) j2 p6) p7] [] p8] p9) [.Assign [.Name y q0] (.Subscript (.Subscript (.Name x q1) (.Constant (.int 3) j3 q2) q3) (.Subscript (.Name x q4) (.Constant (.int 2) j4 q5) q6) q7) q8] [] q9)
      (envA W Γ) (envA W (Γ.set ci (some (IX K nneg)))) B C R := by
  have pv : ∀ {pos : Pos}, PE X (.Name x pos) (tVar i) := fun {pos} => pe_var hN hvis hd hcd
  refine psI (ps_if (pt_cmpR op_lt (pe_ix ix_list pv pe_int (fun _ _ => rfl)) (pe_callB call_len_seq hg (by rw [c.hmg]; exact hm) PySem.boot_len (pa_cons (pe_ix ix_list pv pe_int (fun _ _ => rfl)) pa_nil h1) hn (he := h1)) hmk) (pss_one (ps_set c.hN hi hx (pe_ix ix_list (pe_ix ix_list pv pe_int (fun _ _ => rfl)) (pe_ix ix_list pv pe_int (fun _ _ => rfl)) (fun _ _ => rfl)) hs hf)) pss_nil) fun D σ H ⟨H0, G0, G, s, en, n, r⟩ => ?_
  obtain ⟨b, hv, hW⟩ := bag_at en i he
  obtain ⟨g0, u, v, z, c1, ns, hb, hsq, g1, g2, g3, g4⟩ := s.frm.2 b hW
  have i2 : atI [V.int u, .int v, .int z, .ref c1] 2 = some (.int z) := atI_nat (j := 2) rfl
  have i3 : atI [V.int u, .int v, .int z, .ref c1] 3 = some (.ref c1) := atI_nat (j := 3) rfl
  have hq : SqL X.K H c1 (ns.map V.int) := by rw [c.hK]; exact s.frm.seqL hsq
  refine ⟨_, hv, b, _, 2, .int z, rfl, rfl, SqL.of hb, i2, _, hv, b, _, 3, .ref c1, rfl, rfl, SqL.of hb, i3, c1, ns.map V.int, rfl, .inl hq, z, ((ns.map V.int).length : Nat), rfl, rfl, decide (z < ((ns.map V.int).length : Nat)), rfl, ?_⟩
  by_cases lt : z < ((ns.map V.int).length : Nat)
  · rw [decide_eq_true lt]
    refine iteT ?_
    rw [List.length_map] at lt
    have lt' : z.toNat < ns.length := by omega
    have ez : z = (z.toNat : Nat) := by omega
    have e4 : atI (ns.map V.int) z = some (.int ns[z.toNat]) := by
      conv => lhs; rw [ez]
      refine atI_nat ?_
      rw [List.getElem?_map, List.getElem?_eq_getElem lt']; rfl
    refine ⟨_, hv, b, _, 3, .ref c1, rfl, rfl, SqL.of hb, i3, _, hv, b, _, 2, .int z, rfl, rfl, SqL.of hb, i2, c1, ns.map V.int, z, .int ns[z.toNat], rfl, rfl, hq, e4, ?_⟩
    have hk : 0 ≤ ns[z.toNat] := g4 _ (List.getElem_mem lt')
    exact n _ H G s (en.put (Step.refl s.frm) (e := IX K nneg) (ex_of (enc := PyData.int) hk (dt_of (.int _))) (fun a z => s.free z) ci)
  · rw [decide_eq_false lt]
    refine iteF ?_
    obtain ⟨cv, hcv, qc⟩ := en.at_ ci _ hce
    exact n σ H G s (en.reent hcv (ex_of (enc := PyData.int) z00 qc) no)
end
section
variable {P : Program} {w : World} {K : PySem.W.Frag} {mg : Str → Option Value} {base : Heap}
abbrev drw (m : Nat) (n : Int) : Prop := 0 ≤ n ∧ n < (m : Nat)
theorem ok_take (c : Ctx w K mg) (m : Nat) (m0 : 0 < m) (m1 : m ≤ 1000000) : DfOk P w K mg base "_law_take" 1 true [.bag, Dt K (.int (m : Nat))] (IX K (drw m)) := by
  obtain ⟨fd, F0⟩ := (d__law_take c)
  refine mk_df ["_law_bag_here", "_law_many", "_law_cell", "_law_value", "_law_first", "_law_second"] (ps := ["_law_bag_here", "_law_many"]) (N := noA) F0 (g__law_take c) ⟨rfl, rfl, rfl, by decide +kernel, rfl, by decide +kernel, by decide +kernel⟩ (fun _ _ _ _ _ _ us hl => match us, hl with | [_, _], _ => rfl) rfl (by simp [noOwns, notOwn]) (fun W X hW k hX => ?_) (fun _ _ _ _ _ z => z.elim)
  obtain ⟨cdv, A, outer, s, H, E, rfl⟩ := hX
  let Γ0 : En := [some .bag, some (Dt K (.int (m : Nat))), none, none, none, none]
  refine srs_ifA (M := envA W Γ0) (tst_any0 (ev_bag (j := 0) 0 k) ev_int) ?_ (srs_end) ?_
  · refine srs_set 2 k ev_int ?_
    refine srs_cons (sr_bagcell 0 2 (z0 := 0) k (n_len c) (Int.le_refl _) (no := fun j o z => by rcases j with _ | _ | _ | _ | _ | _ | j <;> cases z)) ?_
    refine srs_cons (sr_bagaug 0 k) ?_
    refine srs_ifA (M := envA W [some .bag, some (Dt K (.int (m : Nat))), some (IX K nneg), none, none, none]) (tst_to (tst_opX (f := fun i j => decide (j ≤ i)) op_ge (fun i j => rd_ge) (ev_var 2) (ev_IX (pi := nneg) ev_int (by decide))) fun _ _ => trivial) (srs_cons (sr_bagput (j := 0) 0 k (ev_var 2)) srs_end) srs_end ?_
    refine srs_cons (sr_bagput (j := 1) 0 k (ev_modX (pi := nneg) (qi := fun j => j = 2147483647) (ev_addX (pi := nneg) (qi := nneg) (ev_addX (pi := nneg) (qi := nneg) (ev_mulX (pi := nneg) (qi := fun j => j = 48271) (ev_bag (j := 1) 0 k) (ev_IX ev_int rfl) (fun i j hi hj => ⟨by subst hj; unfold CMul; right; omega, by subst hj; exact Int.mul_nonneg hi (by decide)⟩)) (ev_modX (pi := nneg) (qi := fun j => j = 2147483647) (ev_var 2) (ev_IX ev_int rfl) (fun i j hi hj => by subst hj; exact ⟨by decide, by show 0 ≤ i % 2147483647; omega⟩)) (fun i j hi hj => Int.add_nonneg hi hj))
      (ev_mulX (pi := fun j => j = 7919) (qi := nneg) (ev_IX ev_int rfl) (ev_bag (j := 2) 0 k) (fun i j hi hj => ⟨by subst hi; unfold CMul; left; omega, by subst hi; exact Int.mul_nonneg (by decide) hj⟩)) (fun i j hi hj => Int.add_nonneg hi hj)) (ev_IX ev_int rfl) (fun i j hi hj => by subst hj; exact ⟨by decide, by show 0 ≤ i % 2147483647; omega⟩))) ?_
    exact srs_nil fun _ _ _ _ z => z.sub ⟨.inr rfl, .inr rfl, .inl rfl, .inr rfl, .inr rfl, .inr rfl, trivial⟩
  · refine srs_ifA (M := envA W Γ0) (tst_to (tst_opX (f := fun i j => decide (j < i)) op_gt (fun i j => rd_gt) (ev_bag (j := 0) 0 k) (ev_IX (pi := nneg) ev_int (by decide))) fun _ _ => trivial) ?_ srs_end ?_
    · refine srs_set 3 k (ev_modX (pi := nneg) (qi := fun j => j = (m : Nat)) (ri := drw m) (ev_bag (j := 0) 0 k) (ev_IX (ev_var 1) rfl) (fun i j hi hj => by subst hj; exact ⟨by omega, Int.emod_nonneg _ (by omega), Int.emod_lt_of_pos _ (by omega)⟩)) ?_
      refine srs_cons (sr_bagput (j := 0) 0 k (ev_fdivX (pi := nneg) (qi := fun j => j = (m : Nat)) (ev_bag (j := 0) 0 k) (ev_IX (ev_var 1) rfl) (fun i j hi hj => by subst hj; exact ⟨⟨by omega, by omega⟩, Int.ediv_nonneg hi (by omega)⟩))) ?_
      exact srs_ret (ev_var 3)
    · refine srs_set 4 k (ev_modX (pi := nneg) (qi := fun j => j = 1000000007) (ri := fun n => 0 ≤ n ∧ n < 1000000007) (ev_mulX (pi := nneg) (qi := fun j => j = 39373) (ev_addX (pi := nneg) (qi := fun j => j = 1) (ev_bag (j := 1) 0 k) (ev_IX ev_int rfl) (fun i j hi hj => by subst hj; exact Int.add_nonneg hi (by decide))) (ev_IX ev_int rfl) (fun i j hi hj => ⟨by subst hj; unfold CMul; right; omega, by subst hj; exact Int.mul_nonneg hi (by decide)⟩)) (ev_IX ev_int rfl) (fun i j hi hj => by subst hj; exact ⟨by decide, Int.emod_nonneg _ (by decide), Int.emod_lt_of_pos _ (by decide)⟩)) ?_
      refine srs_set 5 k (ev_modX (pi := nneg) (qi := fun j => j = 998244353) (ri := nneg) (ev_mulX (pi := fun n => 0 ≤ n ∧ n < 998244353) (qi := fun j => j = 30011) (ev_modX (pi := nneg) (qi := fun j => j = 998244353) (ev_mulX (pi := fun n => 0 ≤ n ∧ n < 1000000007) (qi := fun n => 0 ≤ n ∧ n < 1000000007) (ev_var 4) (ev_var 4) (fun i j hi hj => ⟨by unfold CMul; left; omega, Int.mul_nonneg hi.1 hj.1⟩)) (ev_IX ev_int rfl) (fun i j hi hj => by subst hj; exact ⟨by decide, Int.emod_nonneg _ (by decide), Int.emod_lt_of_pos _ (by decide)⟩)) (ev_IX ev_int rfl) (fun i j hi hj => ⟨by subst hj; unfold CMul; right; omega, by subst hj; exact Int.mul_nonneg hi.1 (by decide)⟩)) (ev_IX ev_int rfl) (fun i j hi hj => by subst hj; exact ⟨by decide, Int.emod_nonneg _ (by decide)⟩)) ?_
      refine srs_no (tst_eq (tst_cmp1 op_gt rd_gt (ev_var 1) ev_int) (decide_eq_false (by omega))) ?_
      exact srs_ret (ev_modX (pi := nneg) (qi := fun j => j = (m : Nat)) (ri := drw m) (ev_fdivX (pi := nneg) (qi := fun j => j = 7) (ev_var 5) (ev_IX ev_int rfl) (fun i j hi hj => by subst hj; exact ⟨⟨by decide, by decide⟩, Int.ediv_nonneg hi (by decide)⟩)) (ev_IX (ev_var 1) rfl) (fun i j hi hj => by subst hj; exact ⟨by omega, Int.emod_nonneg _ (by omega), Int.emod_lt_of_pos _ (by omega)⟩))
end
end Cs

set_option Elab.async false
set_option linter.all false
set_option autoImplicit false
set_option maxRecDepth 100000
set_option maxHeartbeats 4000000
/-! Comprehensions over a range of a length not known; slices turned about; displays of values not known. -/
namespace Cs
open PySem PySem.Spec PyProof.Rows L2
section
variable {P : Program} {w : World} {K : PySem.W.Frag} {mg : Str → Option Value} {base : Heap} {k : Nat} {X : Cx} {W : Option Addr} {Γ Γ' : En} {d : PyData} {ds : List PyData} {js : List Nat} {x : Str} {pos : Pos} {tg iter a : Expr} {es : List Expr} {body : List Stmt} {N B C : As} {R : Ent} {α : Type}
theorem lc_runM {M : α → Prop} {own : List (Str × Nat)} {xs : List α} {enc : α → T} {Pv : List α → List PyData → Prop} {Jt : α → En} {Bt : α → Bool → Prop} {pe : α → PyData → Prop}
    (hM : ∀ y ∈ xs, M y) (js2 : ∀ j ∈ js, j ∈ own.map (·.2)) (P0 : Pv [] []) (P1 : ∀ pre y post ys d, xs = pre ++ y :: post → Pv pre ys → Bt y true → pe y d → Pv (pre ++ [y]) (ys ++ [d])) (P2 : ∀ pre y post ys, xs = pre ++ y :: post → Pv pre ys → Bt y false → Pv (pre ++ [y]) ys)
    (hz : xs.length ≤ 16777000) {σ : L2.St} {H : Hp} {Q : VK} (h : cE K W Γ (.own (exO K (Pv xs))) σ H Q) :
    tLc (cI K W Γ (xs.map enc)) (fun v σ H Q => ∃ y : α, M y ∧ cG K W (wipeE Γ (own.map (·.2))) (enc y) (Jt y) js v σ H Q) (fun σ H Q => ∃ y : α, M y ∧ cT K W (Jt y) (Bt y) σ H Q)
      (fun σ H Q => ∃ y : α, (M y ∧ Bt y true) ∧ cE K W (Jt y) (.fro (exD K (pe y) fun d => d)) σ H Q) (own.map (·.2)) σ H Q := by
  obtain ⟨H0, G, f, en, kk⟩ := h
  refine ⟨H0, G, f, en, fun It H1 G1 s1 gv D hD => ?_⟩
  let Pw : Nat → Hp → Prop := fun i H' => ∃ G' vs ys, Step K W G1 H1 G' H' ∧ G' D = none ∧ H' D = some (.lst vs) ∧ DpAll K G' vs ys ∧ Pv (xs.take i) ys ∧ ys.length ≤ i
  have nD : W ≠ some D := s1.frm.neB hD
  have ws : Walk It xs.length (fun H' => ∃ G', Frm K W G' H' ∧ Same G1 G') (fun i H' v H2 => ∀ G', Frm K W G' H' → Same G1 G' → ∃ G2, Step K W G' H' G2 H2 ∧ ∃ y, xs[i]? = some y ∧ up (enc y) G2 v) :=
    ⟨fun i H' lt ⟨G', f, s⟩ => gv.goes i H' G' (by rw [List.length_map]; exact lt) f s, fun H' ⟨G', f, s⟩ => by have := gv.stops H' G' f s; rw [List.length_map] at this; exact this, fun i H' v H2 lt _ y G' f s => by
      obtain ⟨G2, s2, d, e, q⟩ := gv.yields i H' G' v H2 (by rw [List.length_map]; exact lt) f s y
      rw [List.getElem?_map] at e
      cases z : xs[i]? with
      | none => rw [z] at e; cases e
      | some y0 => rw [z] at e; cases e; exact ⟨G2, s2, y0, rfl, q⟩⟩
  have st0 : Step K W G1 H1 G1 (upd H1 D (.lst [])) := Step.mine s1.frm hD
  have freeD : ∀ {G' G'' H' H'' : Hp}, Step K W G' H' G'' H'' → G' D = none → (∃ o, H' D = some (.lst o)) → G'' D = none := fun {G' G'' H' H''} s g ⟨o, e⟩ => by
    cases q : G'' D with
    | none => rfl
    | some u =>
      rcases s.new D u g q with z | ⟨xs, z⟩
      · rw [e] at z
        cases z
      · rw [e] at z
        cases z
  refine lc_it (D := D) (g := fun v σ H Q => ∃ y : α, M y ∧ cG K W (wipeE Γ (own.map (·.2))) (enc y) (Jt y) js v σ H Q) (tt := fun σ H Q => ∃ y : α, M y ∧ cT K W (Jt y) (Bt y) σ H Q)
    (te := fun σ H Q => ∃ y : α, (M y ∧ Bt y true) ∧ cE K W (Jt y) (.fro (exD K (pe y) fun d => d)) σ H Q) ws Pw ⟨G1, [], [], st0, s1.frm.free hD, upd_same, .nil, P0, Nat.le_refl _⟩ (fun i H' _ ⟨G', vs, ys, s, _⟩ => ⟨G', s.frm, s.gro⟩) (fun i v H' H2 lt ⟨G', vs, ys, s, gD, eD, rD, pD, lD⟩ y => ?_) (fun H' ⟨G', vs, ys, s, gD, eD, rD, pD, lD⟩ => ?_)
  · obtain ⟨G2, s2, y0, ey, q⟩ := y G' s.frm s.gro
    obtain ⟨e1, e2⟩ := split_at ey
    have my : M y0 := hM _ (List.mem_of_getElem? ey)
    refine ⟨y0, my, H0, G2, s2.frm, ((en.step (s1.trans s)).step s2).wipe _, q, fun σ2 en2 on2 => ⟨?_, y0, my, H0, G2, s2.frm, en2, fun b H3 G3 s3 hb => ?_⟩⟩
    · rw [on2.wipe js2, wipe_wipe]
    · have eD3 : ∃ o, H' D = some (.lst o) := ⟨_, eD⟩
      have s23 := s2.trans s3
      cases b with
      | true =>
        refine iteT ⟨y0, ⟨my, hb⟩, H0, G3, s3.frm, en2.step s3, fun u H4 G4 s4 q4 => ?_⟩
        obtain ⟨d, pd, qd⟩ := ex_get q4
        have s24 := s23.trans s4
        have gD4 := freeD s24 gD eD3
        have eD4 := s24.keep D _ eD nD
        refine ⟨vs, eD4, by rw [rD.length]; have : sizeLine = 16777216 := sizeLine_eq; omega, G4, vs ++ [u], ys ++ [d], (s.trans s24).chg hD gD4 nD, gD4, upd_same, ((Lk.same s24.gro).datAll rD).append (.cons (dt_dp qd) .nil), ?_, ?_⟩
        · rw [e2]; exact P1 _ _ _ _ _ e1 pD hb pd
        · rw [List.length_append]; exact Nat.succ_le_succ lD
      | false =>
        refine iteF ⟨G3, vs, ys, s.trans s23, freeD s23 gD eD3, s23.keep D _ eD nD, (Lk.same s23.gro).datAll rD, ?_, Nat.le_succ_of_le lD⟩
        rw [e2]; exact P2 _ _ _ _ e1 pD hb
  · rw [List.take_length] at pD
    exact kk _ H' G' (s1.trans s) ⟨D, _, rfl, s1.free hD, gD, eD, ⟨nD, True.intro⟩, fun G2 l => ⟨ys, pD, vs, rfl, l.datAll rD⟩⟩
/-! ### range(n), n not known -/
def cR (K : PySem.W.Frag) (W : Option Addr) (Γ : En) (q : Nat → Prop) : TI := fun σ H R => ∃ H0 G, Frm K W G H ∧ EnvOk W H0 G H σ Γ ∧ ∀ n H1 G1, q n → Step K W G H G1 H1 → R (Itr 0 n) H1
theorem it_rangeX {p : Pos} {pi : Int → Prop} {q : Nat → Prop} (c : Cok P w K mg base k X) (hm : mg "range" = none) (ha : Ev X K W Γ a (IX K pi)) (hn : ∀ i, pi i → ∃ n : Nat, i = (n : Nat) ∧ n ≤ 1000000 ∧ q n) (hg : Gl X "range" := by rfl) (hs : starEach [a] X.env = [(false, eval a X.env)] := by rfl) : PI X tg (.Call (.Name "range" p) [a] [] pos) (cR K W Γ q) :=
  piI (pi_range1 hg (by rw [c.hmg]; exact hm) (ea_cons ha ea_nil hs) hs) fun σ H R ⟨H0, G, f, en, h⟩ => ⟨H0, G, f, en, fun vs H1 G1 s1 q1 => by
    obtain ⟨v, rfl, q2⟩ := args1 q1
    obtain ⟨i, hi, q3⟩ := ex_get q2
    obtain ⟨n, rfl, hn1, hq⟩ := hn i hi
    exact ⟨n, by rw [dt_int q3], by omega, by omega, h n H1 G1 hq s1⟩⟩
theorem lc_anyR {elt : Expr} {ifs : List Expr} {scope : Scope} {own : List (Str × Nat)} {q : Nat → Prop} {M : Nat → Prop} (Pv : List Nat → List PyData → Prop) {Jt : Nat → En} (Bt : Nat → Bool → Prop) (pe : Nat → PyData → Prop)
    (hi : PI X tg iter (cR K W Γ q)) (hq : ∀ n, q n → n ≤ 1000000) (hM : ∀ n, q n → ∀ y, y < n → M y) (ok : BlkOk X.N X.env.scope scope own) (hg : ∀ y, M y → ∀ s H C cl fp, PG (Blk X scope s H C cl fp) tg (cG K W (wipeE Γ (own.map (·.2))) (dat K (.int (0 + (y : Nat)))) (Jt y) js))
    (ht : ∀ y, M y → ∀ s H C cl fp, PTs (Blk X scope s H C cl fp) ifs (cT K W (Jt y) (Bt y))) (he : ∀ y, M y → Bt y true → ∀ s H C cl fp, Ev (Blk X scope s H C cl fp) K W (Jt y) elt (.fro (exD K (pe y) fun d => d)))
    (js2 : ∀ j ∈ js, j ∈ own.map (·.2)) (P0 : Pv [] []) (P1 : ∀ pre y ys d, Pv pre ys → Bt y true → pe y d → Pv (pre ++ [y]) (ys ++ [d])) (P2 : ∀ pre y ys, Pv pre ys → Bt y false → Pv (pre ++ [y]) ys) :
    LcOk X K W Γ elt tg iter ifs scope own (.own (exO K fun ys => ∃ n, q n ∧ Pv (List.range n) ys)) :=
  ⟨_, _, _, _, hi, ok, fun s H C cl fp => pg_ex M fun y hy => hg y hy s H C cl fp, fun s H C cl fp => pts_ex M fun y hy => ht y hy s H C cl fp, fun s H C cl fp => pe_ex (fun y => M y ∧ Bt y true) fun y hy => he y hy.1 hy.2 s H C cl fp,
    fun σ H Q ⟨H0, G, f, en, kk⟩ => ⟨H0, G, f, en, fun n H1 G1 hn s1 => by
      have h := lc_runM (K := K) (W := W) (Γ := Γ) (xs := List.range n) (enc := fun i : Nat => dat K (.int (0 + (i : Nat)))) (Pv := Pv) (Jt := Jt) (Bt := Bt) (pe := pe) (own := own) (js := js) (M := M) (fun y hy => hM n hn y (List.mem_range.mp hy)) js2 P0 (fun pre y post ys d _ => P1 pre y ys d) (fun pre y post ys _ => P2 pre y ys) (by rw [List.length_range]; have := hq n hn; omega) (σ := σ) (H := H1) (Q := Q)
        ⟨H0, G1, s1.frm, en.step s1, fun v H' G' s q => kk v H' G' (s1.trans s) (by
          obtain ⟨p, ho, h1, h2, h3, h4, h5, h6⟩ := q
          exact ⟨p, ho, h1, s1.free h2, h3, h4, h5, fun G2 l => by obtain ⟨ys, a1, a2⟩ := h6 G2 l; exact ⟨ys, ⟨n, hn, a1⟩, a2⟩⟩)⟩
      obtain ⟨H0', G', f', en', k2⟩ := h
      exact k2 (Itr 0 n) H1 G' (Step.refl f') gives_rng⟩⟩
/-- xs[::-1] -/
theorem ev_revL {j : Nat} {p1 p2 p3 : Pos} (c : Cok P w K mg base k X) (ha : Ev X K W Γ a (Dt K (.list ds))) : Ev X K W Γ (.Subscript a (.Slice none none (some (.UnaryOp .USub (.Constant (.int 1) j p1) p2)) p3) pos) (Dt K (.list ds.reverse)) :=
  peI (pe_revL ha) fun σ H Q ⟨H0, G, f, en, k⟩ => ⟨H0, G, f, en, fun v H1 G1 s1 q1 => by
    obtain ⟨p, xs, rfl, hs, hd⟩ := dt_list q1
    refine ⟨p, xs, rfl, by rw [c.hK]; exact s1.frm.seqL hs, fun l hl => ?_⟩
    have rv : ∀ {vs : List V} {ds : List PyData}, DpAll K G1 vs ds → DpAll K G1 vs.reverse ds.reverse := by
      intro vs ds h
      induction vs generalizing ds with
      | nil => cases h; exact .nil
      | cons v vs ih =>
        cases h with
        | cons r t => rw [List.reverse_cons, List.reverse_cons]; exact (ih t).append (.cons r .nil)
    obtain ⟨s4, q4⟩ := new_lst s1.frm (rv hd) hl
    exact k _ _ _ (s1.trans s4) (q4.back fun a z => s1.free z)⟩
/-! ### displays of values not known -/
def TsEx (K : PySem.W.Frag) (ts : List T) (Pd : List PyData → Prop) : Prop := ∀ G vs, TsOk G vs ts → ∃ ds, Pd ds ∧ DpAll K G vs ds
theorem tsx_nil : TsEx K [] (fun ds => ds = []) := fun G vs h => by
  match vs, h with
  | [], _ => exact ⟨[], rfl, .nil⟩
theorem tsx_d {ts : List T} {Pd : List PyData → Prop} (h : TsEx K ts Pd) : TsEx K (dat K d :: ts) (fun ds => ∃ es, Pd es ∧ ds = d :: es) := fun G vs q => by
  match vs, q with
  | v :: vs, q =>
    obtain ⟨es, h1, h2⟩ := h G vs q.2
    exact ⟨d :: es, ⟨es, h1, rfl⟩, .cons (up.now q.1) h2⟩
theorem tsx_x {β : Type} {p : β → Prop} {enc : β → PyData} {ts : List T} {Pd : List PyData → Prop} (h : TsEx K ts Pd) : TsEx K (exD K p enc :: ts) (fun ds => ∃ y es, p y ∧ Pd es ∧ ds = enc y :: es) := fun G vs q => by
  match vs, q with
  | v :: vs, q =>
    obtain ⟨es, h1, h2⟩ := h G vs q.2
    obtain ⟨y, hy, r⟩ := up.now q.1
    exact ⟨enc y :: es, ⟨y, es, hy, h1, rfl⟩, .cons r h2⟩
theorem ev_tupD {x1 : Nat} {ts : List T} {Pd : List PyData → Prop} {β : Type} {q : β → Prop} {enc : β → PyData} (hx : TsEx K ts Pd) (h : Ea X K W Γ es (ts.map Ent.fro)) (hq : ∀ ds, Pd ds → ∃ y, q y ∧ PyData.tuple ds = enc y) (hl : ts.length ≤ sizeLine := by exact Nat.le_of_ble_eq_true rfl) : Ev X K W Γ (.Tuple es x1 pos) (.fro (exD K q enc)) :=
  ev_to (ev_tupT ts h hl) fun H0 G H v z G' l => by
    obtain ⟨p, xs, rfl, hs, ht⟩ := z G' l
    obtain ⟨ds, h1, h2⟩ := hx G' xs ht
    obtain ⟨y, hy, e⟩ := hq ds h1
    exact ⟨y, hy, by rw [← e]; exact .tup hs h2⟩
/-- if .. : return .. -/
theorem srs_ifB {thn rest : List Stmt} {Bv : Bool → Prop} (hc : Tst X K W Γ a Bv) (h1 : Bv true → Srs X K W thn (envA W Γ) noA B C R) (h2 : Srs X K W rest (envA W Γ) N B C R) : Srs X K W (.If a thn [] pos :: rest) (envA W Γ) N B C R :=
  srs_cons (M := envA W Γ) (sr_ifX hc (fun z => srs_post (h1 z) fun _ _ _ _ z => z.elim) (fun _ => srs_end) (Classical.em _) (Classical.em _)) h2
end
end Cs

set_option Elab.async false
set_option linter.all false
set_option autoImplicit false
set_option maxRecDepth 100000
set_option maxHeartbeats 4000000
/-! Drawn rows. -/
namespace Cs
open PySem PySem.Spec PyProof.Rows L2
theorem pw_zip : ∀ {l : List Nat}, l.Pairwise (· < ·) → ((l.zip (l.drop 1)).all fun z => decide (z.1 < z.2)) = true
  | [], _ => rfl
  | [_], _ => rfl
  | a :: b :: l, h => by
    rw [List.pairwise_cons] at h
    have ih := pw_zip h.2
    show ((a, b) :: ((b :: l).zip l)).all _ = true
    rw [List.all_cons, Bool.and_eq_true]
    exact ⟨decide_eq_true (h.1 b (List.mem_cons_self ..)), ih⟩
theorem sigs_pw : allSigs.Pairwise (· < ·) := by decide
theorem ofok_sub {l sg : List Nat} (h : l.Sublist sg) (hs : sg.Sublist allSigs) (hl : l ≠ []) : OfOk l sg where
  ok := by
    have h1 := h.trans hs
    unfold signsOk
    rw [Bool.and_eq_true, Bool.and_eq_true]
    refine ⟨?_, ?_, pw_zip (sigs_pw.sublist h1)⟩
    · cases l with
      | nil => exact absurd rfl hl
      | cons a l => rfl
    · rw [List.all_eq_true]
      exact fun n hn => decide_eq_true (h1.subset hn)
  few := by
    have := (h.trans hs).length_le
    exact Nat.le_trans this (by decide)
  sub := by
    rw [List.all_eq_true]
    exact fun n hn => decide_eq_true (h.subset hn)
theorem sigs_sub (m : Nat) : (sigs m).Sublist allSigs := List.take_sublist _ _
theorem drw_nat {m : Nat} {i : Int} (h : drw m i) : ∃ n : Nat, i = (n : Nat) ∧ n < m := ⟨i.toNat, by have := h.1; omega, by have := h.1; have := h.2; omega⟩
theorem cut_from {α : Type} (l : List α) (m : Nat) : cut l (some (m : Int)) none = l.drop m := by
  unfold cut
  rw [HT.sIx_nat, HT.sIx_none]
  by_cases h : m ≤ l.length
  · rw [Nat.min_eq_left h, List.take_of_length_le (by rw [List.length_drop]; omega)]
  · rw [Nat.min_eq_right (by omega), List.drop_of_length_le (Nat.le_refl _), List.drop_of_length_le (by omega), List.take_nil]
theorem flat_sing (l : List Nat) : (l.map fun n => [n]).flatten = l := by rw [flat_map1]; exact List.map_id' _
theorem sing_len (l : List Nat) : ((l.map fun n => [n]).map List.length).sum = l.length := sum_map1 l fun n => n
section
variable {P : Program} {w : World} {K : PySem.W.Frag} {mg : Str → Option Value} {base : Heap}
abbrev bi2' := True
theorem ok_some (c : Ctx w K mg) (sg : List Nat) (hs : sg.Sublist allSigs) (h0 : sg ≠ []) : DfOk P w K mg base "_law_some" 2 true [.bag, Dt K (.str (txt sg))] (.fro (exD K (fun l => OfOk l sg) fun l => .str (txt l))) := by
  obtain ⟨fd, F0⟩ := (d__law_some c)
  refine mk_df ["_law_bag_here", "_law_signs_here", "_law_found", "_law_sign_here", "_law_one"] (ps := ["_law_bag_here", "_law_signs_here"]) (N := noA) F0 (g__law_some c) ⟨rfl, rfl, rfl, by decide +kernel, rfl, by decide +kernel, by decide +kernel⟩ (fun _ _ _ _ _ _ us hl => match us, hl with | [_, _], _ => rfl) rfl (by simp [noOwns, notOwn]) (fun W X hW k hX => ?_) (fun _ _ _ _ _ z => z.elim)
  obtain ⟨cdv, A, outer, s, H, E, rfl⟩ := hX
  have s27 : sg.length ≤ 27 := Nat.le_trans hs.length_le (by decide)
  have s0 : 0 < sg.length := List.length_pos_iff.mpr h0
  refine srs_set 2 k (ev_toX (q := fun l : List Nat => l.Sublist sg) (enc2 := fun l => .str (txt l)) (ev_joinX (q := fun xs : List (List Nat) => ∃ l : List Nat, l.Sublist sg ∧ xs = l.map fun n => [n]) k (ev_txt []) (ev_toX (ev_lc (own := [("_law_sign_here", 3)]) k (lc_still (lc_any (js := [3]) (xs := sg) (enc := fun n => dat K (sgn n)) (fun pre ys => ∃ l : List Nat, l.Sublist pre ∧ ys = l.map sgn) (fun _ _ => True) (fun y d => d = sgn y) (it_str (ev_var 1)) (blkOk_by (by rfl)) (fun y _ s0 H C cl fp => tg_name 3 k.blk)
    (fun y _ s0 H C cl fp => tsts_one (tst_any0 (ev_call k.blk (ok_take c 2 (by decide) (by decide)) (ea_cons (ev_var 0) (ea_cons ev_int ea_nil))) ev_int)) (fun y _ _ s0 H C cl fp => ev_ex (enc := fun d => d) rfl (ev_var 3)) (by decide) ⟨[], List.Sublist.refl _, rfl⟩ (fun pre y post ys d _ hp _ hd => ?_) (fun pre y post ys _ hp _ => ?_) (by omega)) fun G p ho hp z => still_ex hp z)) ?_) (fun xs hx => ?_)) (fun xs hx => ?_)) ?_
  · obtain ⟨l, h1, rfl⟩ := hp
    exact ⟨l ++ [y], List.Sublist.append h1 (List.Sublist.refl _), by rw [hd, List.map_append]; rfl⟩
  · obtain ⟨l, h1, rfl⟩ := hp
    exact ⟨l, h1.trans (List.sublist_append_left _ _), rfl⟩
  · intro ys ⟨l, h1, e⟩
    refine ⟨l.map fun n => [n], ⟨l, h1, rfl⟩, ?_⟩
    rw [e, List.map_map]; rfl
  · obtain ⟨l, h1, rfl⟩ := hx
    rw [sing_len]
    have := h1.length_le
    omega
  · obtain ⟨l, h1, rfl⟩ := hx
    exact ⟨l, h1, by rw [flat_sing]⟩
  · refine srs_exD 2 fun l hl => ?_
    refine srs_set 4 k (ev_ixSX (q := fun n => n ∈ sg) (ev_var 1) (ev_call k (ok_take c sg.length s0 (by omega)) (ea_cons (ev_var 0) (ea_cons (ev_lenS k (n_len c) (ea_cons (ev_var 1) ea_nil)) ea_nil))) (fun i hi => ?_)) ?_
    · obtain ⟨n, rfl, lt⟩ := drw_nat hi
      exact ⟨sg[n], List.getElem_mem lt, atI_nat (List.getElem?_eq_getElem lt)⟩
    · refine srs_exD 4 fun n hn => ?_
      have ll := hl.length_le
      refine srs_ret (ev_ex (y := if l.isEmpty then [n] else l) ?_ (ev_orS k (ev_var 2) (ev_one (ev_var 4)) (by omega)))
      by_cases e : l.isEmpty = true
      · rw [if_pos e]
        exact ofok_sub (List.singleton_sublist.mpr hn) hs (by simp)
      · rw [if_neg e]
        exact ofok_sub hl hs (by intro z; rw [z] at e; exact e rfl)
/-! ### near -/
theorem nearD_len (l : List Nat) : (nearD l).length = l.length := by unfold nearD; rw [List.length_map]
theorem ok_l_near_tail (c : Ctx w K mg) (so : Str) (pl : List Nat) (p8 : pl.length ≤ 8) (nd : pl.Nodup) (hN : ∀ l : List Nat, l.Nodup → l.length ≤ pl.length → (∀ p ∈ l, p ∈ pl) → NearOk so l) {W : Option Addr} {k0 : Nat} {cdv : Value} {A : Around} {outer : List Env} {s : Shared} {H : Hp} {E : XK}
    (k : Cok P w K mg base 1 (cxOf CX0 P w K mg base ["_law_bag_here", "_law_sort", "_law_places", "_law_spin", "_law_found"] "_law_near" (defScope (top 79)) (He.ga K "_law_near") cdv A outer s H E).nox) :
    Srs (cxOf CX0 P w K mg base ["_law_bag_here", "_law_sort", "_law_places", "_law_spin", "_law_found"] "_law_near" (defScope (top 79)) (He.ga K "_law_near") cdv A outer s H E).nox K W ((defBody (top 79)).drop 2) (envA W [some .bag, some (Dt K (.str so)), some (Dt K (.list (nearD pl))), none, none]) noA noA noA (.fro (exT (NearOk so) fun near => xtT K (nearD near))) := by
  have elen : ∀ {Γ : En} {p1 p2 p3 : Pos}, Γ[2]? = some (some (Dt K (.list (nearD pl)))) → Ev (cxOf CX0 P w K mg base ["_law_bag_here", "_law_sort", "_law_places", "_law_spin", "_law_found"] "_law_near" (defScope (top 79)) (He.ga K "_law_near") cdv A outer s H E).nox K W Γ (.Call (.Name "len" p1) [.Name "_law_places" p2] [] p3) (Dt K (.int (pl.length : Nat))) := fun hΓ => ev_eq (ev_lenL k (n_len c) (ea_cons (ev_var 2 hΓ) ea_nil)) (by rw [nearD_len])
  have elen1 : (pl.length : Int) + 1 = ((pl.length + 1 : Nat) : Int) := by omega
  refine srs_set 3 k (ev_call k (ok_take c (pl.length + 1) (by omega) (by omega)) (ea_cons (ev_var 0) (ea_cons (ev_eq (ev_add (elen rfl) ev_int) (congrArg PyData.int elen1)) ea_nil))) ?_
  refine srs_exD 3 fun i hi => ?_
  obtain ⟨n, rfl, lt⟩ := drw_nat hi
  have ecat : cut (nearD pl) (some (n : Int)) none ++ cut (nearD pl) none (some (n : Int)) = nearD (pl.drop n ++ pl.take n) := by
    rw [cut_from, cut_to]
    unfold nearD
    rw [List.map_append, List.map_drop, List.map_take]
  refine srs_set 4 k (ev_eq (ev_cat c.nk k (ev_slL k (ev_var 2) (op_some (ev_var 3)) op_none) (ev_slL k (ev_var 2) op_none (op_some (ev_var 3))) (by rw [cut_from, cut_to, List.length_drop, List.length_take, nearD_len]; omega)) (congrArg PyData.list ecat)) ?_
  have hperm : (pl.drop n ++ pl.take n).Perm pl := List.perm_append_comm.trans (by rw [List.take_append_drop])
  let pr : List Nat → Prop := fun l => l.Nodup ∧ l.length = pl.length ∧ ∀ p ∈ l, p ∈ pl
  have pr1 : pr (pl.drop n ++ pl.take n) := ⟨hperm.nodup_iff.mpr nd, hperm.length_eq, fun p hp => hperm.mem_iff.mp hp⟩
  have pr2 : pr (pl.drop n ++ pl.take n).reverse := ⟨(List.reverse_perm _).nodup_iff.mpr pr1.1, by rw [List.length_reverse]; exact pr1.2.1, fun p hp => pr1.2.2 p (List.mem_reverse.mp hp)⟩
  refine srs_ifA (M := envA W [some .bag, some (Dt K (.str so)), some (Dt K (.list (nearD pl))), some (Dt K (.int (n : Nat))), some (.fro (exD K pr fun l => .list (nearD l)))]) (tst_any0 (ev_call k (ok_take c 2 (by decide) (by decide)) (ea_cons (ev_var 0) (ea_cons ev_int ea_nil))) ev_int) ?_ ?_ ?_
  · exact srs_set 4 k (ev_ex (y := (pl.drop n ++ pl.take n).reverse) pr2 (ev_eq (ev_revL k (ev_var 4)) (by unfold nearD; rw [List.map_reverse]))) srs_end
  · refine srs_nil fun H0 G H σ z => ?_
    obtain ⟨v, hv, q⟩ := z.at_ 4 _ rfl
    exact z.reent (i := 4) hv (ex_of (enc := fun l => PyData.list (nearD l)) pr1 q) fun j o => by rcases j with _ | _ | _ | _ | _ | j <;> intro z <;> cases z
  · refine srs_exD 4 fun l hl => ?_
    refine srs_ret (ev_xT (ev_tupleXX k (n_tuple c) (ev_slLX k (ev_var 4) (ev_call k (ok_take c (pl.length + 1) (by omega) (by omega)) (ea_cons (ev_var 0) (ea_cons (ev_eq (ev_add (elen rfl) ev_int) (congrArg PyData.int elen1)) ea_nil))))) fun ys hy => ?_)
    obtain ⟨i, hi, rfl⟩ := hy
    obtain ⟨j, rfl, lj⟩ := drw_nat hi
    refine ⟨l.take j, hN _ (hl.1.sublist (List.take_sublist _ _)) (by rw [List.length_take]; have := hl.2.1; omega) (fun p hp => hl.2.2 p (List.mem_of_mem_take hp)), fun H0 G H v q => ?_⟩
    have e : cut (nearD l) none (some (j : Int)) = nearD (l.take j) := by rw [cut_to]; unfold nearD; rw [List.map_take]
    rw [← e]
    exact q
theorem ok_l_near (c : Ctx w K mg) (so : Str) (hso : so ∈ (["around", "halves", "blocks"] : List Str)) : DfOk P w K mg base "_law_near" 2 true [.bag, Dt K (.str so)] (.fro (exT (NearOk so) fun near => xtT K (nearD near))) := by
  obtain ⟨fd, F0⟩ := (d__law_near c)
  refine mk_df ["_law_bag_here", "_law_sort", "_law_places", "_law_spin", "_law_found"] (ps := ["_law_bag_here", "_law_sort"]) (N := noA) F0 (g__law_near c) ⟨rfl, rfl, rfl, by decide +kernel, rfl, by decide +kernel, by decide +kernel⟩ (fun _ _ _ _ _ _ us hl => match us, hl with | [_, _], _ => rfl) rfl (by simp [noOwns, notOwn]) (fun W X hW k hX => ?_) (fun _ _ _ _ _ z => z.elim)
  obtain ⟨cdv, A, outer, s, H, E, rfl⟩ := hX
  have e8 : ∀ {Γ : En} {p0 p1 p2 p3 p4 p5 p6 p7 p8 : Pos} {j0 j1 j2 j3 j4 j5 j6 j7 : Nat}, Ev (cxOf CX0 P w K mg base ["_law_bag_here", "_law_sort", "_law_places", "_law_spin", "_law_found"] "_law_near" (defScope (top 79)) (He.ga K "_law_near") cdv A outer s H E).nox K W Γ (.List [.Constant (.str "n") j0 p0, .Constant (.str "ne") j1 p1, .Constant (.str "e") j2 p2, .Constant (.str "se") j3 p3, .Constant (.str "s") j4 p4, .Constant (.str "sw") j5 p5, .Constant (.str "w") j6 p6, .Constant (.str "nw") j7 p7] p8) (Dt K (.list (nearD [0, 1, 2, 3, 4, 5, 6, 7]))) :=
    ev_eq (ev_lst (ead_cons ev_str (ead_cons ev_str (ead_cons ev_str (ead_cons ev_str (ead_cons ev_str (ead_cons ev_str (ead_cons ev_str (ead_cons ev_str ead_nil))))))))) rfl
  refine srs_set 2 k e8 ?_
  have e4 : ∀ (bv : Bool), cut (nearD [0, 2, 4, 6]) none (some (4 * (if bv then 1 else 0))) = nearD (if bv then [0, 2, 4, 6] else []) := fun bv => by cases bv <;> rfl
  simp only [List.mem_cons, List.not_mem_nil, or_false] at hso
  rcases hso with rfl | rfl | rfl
  · refine srs_no (tst_eq (tst_neS k (ev_var 1) ev_str) rfl) ?_
    exact ok_l_near_tail (k0 := 0) c "around" [0, 1, 2, 3, 4, 5, 6, 7] (by decide) (by decide) (fun l nd hl hp => ⟨fun p h => by have := hp p h; simp at this; omega, nd, by simpa using hl, fun z => absurd z (by decide), fun _ => .inl rfl⟩) k
  · refine srs_if (cv := true) (M := envA W [some .bag, some (Dt K (.str "halves")), some (Dt K (.list (nearD [0, 2, 4, 6]))), none, none]) (tst_eq (tst_neS k (ev_var 1) ev_str) rfl) (fun _ => ?_) (fun z => nomatch z) ?_
    · refine srs_set 2 k (ev_eq (ev_slL (ds := nearD [0, 2, 4, 6]) k (ev_eq (ev_lst (ead_cons ev_str (ead_cons ev_str (ead_cons ev_str (ead_cons ev_str ead_nil))))) rfl) op_none (op_some (ev_mul ev_int (ev_intB (bv := true) k (n_int c) (ea_cons (ev_eq (ev_eqS k (ev_var 1) ev_str) rfl) ea_nil)) (by unfold CMul; left; decide)))) (congrArg PyData.list (e4 true))) srs_end
    · exact ok_l_near_tail (k0 := 0) c "halves" [0, 2, 4, 6] (by decide) (by decide) (fun l nd hl hp => ⟨fun p h => by have := hp p h; simp at this; omega, nd, Nat.le_trans hl (by decide), fun _ p h => by have := hp p h; simp at this; rcases this with rfl | rfl | rfl | rfl <;> decide, fun z => absurd rfl z⟩) k
  · refine srs_if (cv := true) (M := envA W [some .bag, some (Dt K (.str "blocks")), some (Dt K (.list (nearD []))), none, none]) (tst_eq (tst_neS k (ev_var 1) ev_str) rfl) (fun _ => ?_) (fun z => nomatch z) ?_
    · refine srs_set 2 k (ev_eq (ev_slL (ds := nearD [0, 2, 4, 6]) k (ev_eq (ev_lst (ead_cons ev_str (ead_cons ev_str (ead_cons ev_str (ead_cons ev_str ead_nil))))) rfl) op_none (op_some (ev_mul ev_int (ev_intB (bv := false) k (n_int c) (ea_cons (ev_eq (ev_eqS k (ev_var 1) ev_str) rfl) ea_nil)) (by unfold CMul; left; decide)))) (congrArg PyData.list (e4 false))) srs_end
    · exact ok_l_near_tail (k0 := 0) c "blocks" [] (by decide) (by decide) (fun l nd hl hp => ⟨fun p h => by have := hp p h; simp at this, nd, Nat.le_trans hl (by decide), fun z => absurd z (by decide), fun _ => .inr (List.length_eq_zero_iff.mp (by simpa using hl))⟩) k
end
end Cs

set_option Elab.async false
set_option linter.all false
set_option autoImplicit false
set_option maxRecDepth 100000
set_option maxHeartbeats 4000000
/-! Drawn tests, rows. -/
namespace Cs
open PySem PySem.Spec PyProof.Rows L2
section
variable {P : Program} {w : World} {K : PySem.W.Frag} {mg : Str → Option Value} {base : Heap}
theorem ok_l_test (c : Ctx w K mg) (so : Str) (near sg : List Nat) (hn : NearOk so near) (hs : sg.Sublist allSigs) (h0 : sg ≠ []) : DfOk P w K mg base "_law_test" 3 true [.bag, .fro (xtT K (nearD near)), Dt K (.str (txt sg))] (.fro (exD K (tstOk near sg) tstD)) := by
  obtain ⟨fd, F0⟩ := (d__law_test c)
  refine mk_df ["_law_bag_here", "_law_near_here", "_law_signs_here", "_law_low"] (ps := ["_law_bag_here", "_law_near_here", "_law_signs_here"]) (N := noA) F0 (g__law_test c) ⟨rfl, rfl, rfl, by decide +kernel, rfl, by decide +kernel, by decide +kernel⟩ (fun _ _ _ _ _ _ us hl => match us, hl with | [_, _, _], _ => rfl) rfl (by simp [noOwns, notOwn]) (fun W X hW k hX => ?_) (fun _ _ _ _ _ z => z.elim)
  obtain ⟨cdv, A, outer, s, H, E, rfl⟩ := hX
  have n8 := hn.few
  refine srs_ifB (tst_w (tsw_andA (c1 := !decide (nearD near = [])) (tst_eq (tst_neD (d1 := .tuple (nearD near)) (d2 := .tuple []) k (near_sh hn.lt) (by decide +kernel) (ev_xd (ev_var 1)) (ev_tup ead_nil)) (by rw [tupEmpty])) fun _ => tsw_and1 (tst_any0 (ev_call k (ok_take c 2 (by decide) (by decide)) (ea_cons (ev_var 0) (ea_cons ev_int ea_nil))) ev_int))) (fun hz => ?_) ?_
  · have n0 : 0 < near.length := by
      have := hz rfl
      cases near with
      | nil => simp [nearD] at this
      | cons a l => simp
    refine srs_ret (ev_tupD (ts := [dat K (.str "at"), exD K (fun p => p ∈ near) (fun p => .str (plc p)), exD K (fun l => OfOk l sg) fun l => .str (txt l)]) (tsx_d (tsx_x (tsx_x tsx_nil))) (ea_cons ev_str (ea_cons (ev_ixTX k (ev_xd (ev_var 1)) (ev_call k (ok_take c near.length n0 (by omega)) (ea_cons (ev_var 0) (ea_cons (ev_eq (ev_lenT k (n_len c) (ea_cons (ev_xd (ev_var 1)) ea_nil)) (by rw [nearD_len])) ea_nil))) (fun i hi => ?_)) (ea_cons (ev_call k (ok_some c sg hs h0) (ea_cons (ev_var 0) (ea_cons (ev_var 2) ea_nil))) ea_nil))) fun ds hd => ?_)
    · obtain ⟨n, rfl, lt⟩ := drw_nat hi
      refine ⟨near[n], List.getElem_mem lt, atI_nat ?_⟩
      unfold nearD
      rw [List.getElem?_map, List.getElem?_eq_getElem lt]; rfl
    · obtain ⟨_, ⟨p, _, hp, ⟨l, _, hl, rfl, rfl⟩, rfl⟩, rfl⟩ := hd
      exact ⟨.at_ p l, ⟨hn.lt p hp, hp, hl⟩, rfl⟩
  · refine srs_set 3 k (ev_call k (ok_take c 4 (by decide) (by decide)) (ea_cons (ev_var 0) (ea_cons ev_int ea_nil))) ?_
    refine srs_exD 3 fun i hi => ?_
    obtain ⟨lo, rfl, llo⟩ := drw_nat hi
    refine srs_ret (ev_tupD (ts := [dat K (.str "count"), dat K (.int (lo : Nat)), exD K (fun h : Nat => lo ≤ h ∧ h ≤ 8) (fun h => .int (h : Nat)), exD K (fun l => OfOk l sg) fun l => .str (txt l)]) (tsx_d (tsx_d (tsx_x (tsx_x tsx_nil)))) (ea_cons ev_str (ea_cons (ev_var 3) (ea_cons (ev_toX (ev_addX (pi := fun n => n = (lo : Nat)) (qi := drw 5) (ri := fun n => (lo : Int) ≤ n ∧ n ≤ 8) (ev_IX (ev_var 3) rfl) (ev_call k (ok_take c 5 (by decide) (by decide)) (ea_cons (ev_var 0) (ea_cons ev_int ea_nil))) (fun a b ha hb => by have := hb.1; have := hb.2; subst ha; omega)) fun n hn => ⟨n.toNat, by have := hn.1; have := hn.2; omega, by show PyData.int n = .int ((n.toNat : Nat) : Int); congr 1; have := hn.1; omega⟩) (ea_cons (ev_call k (ok_some c sg hs h0) (ea_cons (ev_var 0) (ea_cons (ev_var 2) ea_nil))) ea_nil)))) fun ds hd => ?_)
    obtain ⟨_, ⟨_, ⟨h, _, hh, ⟨l, _, hl, rfl, rfl⟩, rfl⟩, rfl⟩, rfl⟩ := hd
    exact ⟨.cnt lo h l, ⟨hh.1, hh.2, hl⟩, rfl⟩
theorem sig_pick {K : PySem.W.Frag} {k : Nat} {X : Cx} {W : Option Addr} {Γ : En} {a b : Expr} {pos : Pos} (c : Ctx w K mg) (kk : Cok P w K mg base k X) (sg : List Nat) (s27 : sg.length ≤ 27) (h0 : sg ≠ []) (ha : Ev X K W Γ a (Dt K (.str (txt sg)))) (hb : Ev X K W Γ b (IX K (drw sg.length))) (hp : PlainIx b := by exact fun _ _ => rfl) : Ev X K W Γ (.Subscript a b pos) (.fro (exD K (fun n => n ∈ sg) sgn)) :=
  ev_ixSX ha hb (fun i hi => by
    obtain ⟨n, rfl, lt⟩ := drw_nat hi
    exact ⟨sg[n], List.getElem_mem lt, atI_nat (List.getElem?_eq_getElem lt)⟩) (by omega) hp
theorem ok_l_row (c : Ctx w K mg) (so : Str) (near sg : List Nat) (hn : NearOk so near) (hs : sg.Sublist allSigs) (h0 : sg ≠ []) : DfOk P w K mg base "_law_row" 4 true [.bag, .fro (xtT K (nearD near)), Dt K (.str (txt sg))] (.fro (exD K (CRowOk near sg) crowD)) := by
  obtain ⟨fd, F0⟩ := (d__law_row c)
  refine mk_df ["_law_bag_here", "_law_near_here", "_law_signs_here", "_law_own", "_law_tests", "_law_k"] (ps := ["_law_bag_here", "_law_near_here", "_law_signs_here"]) (N := noA) F0 (g__law_row c) ⟨rfl, rfl, rfl, by decide +kernel, rfl, by decide +kernel, by decide +kernel⟩ (fun _ _ _ _ _ _ us hl => match us, hl with | [_, _, _], _ => rfl) rfl (by simp [noOwns, notOwn]) (fun W X hW k hX => ?_) (fun _ _ _ _ _ z => z.elim)
  obtain ⟨cdv, A, outer, s, H, E, rfl⟩ := hX
  have s27 : sg.length ≤ 27 := Nat.le_trans hs.length_le (by decide)
  have s0 : 0 < sg.length := List.length_pos_iff.mpr h0
  refine srs_set 3 k (ev_call k (ok_some c sg hs h0) (ea_cons (ev_var 0) (ea_cons (ev_var 2) ea_nil))) ?_
  refine srs_exD 3 fun own hown => ?_
  refine srs_set 4 k (ev_toX (q := fun ts : List Tst0 => ts.length ≤ 8 ∧ ∀ t ∈ ts, tstOk near sg t) (enc2 := fun ts => .tuple (ts.map tstD)) (ev_tupleLX k (n_tuple c) (ev_lc (own := [("_law_k", 5)]) k (lc_still (lc_anyR (js := [5]) (q := fun n => n ≤ 2) (M := fun _ => True) (fun pre ys => ∃ ts : List Tst0, ts.length = pre.length ∧ (∀ t ∈ ts, tstOk near sg t) ∧ ys = ts.map tstD) (fun _ b => b = true) (fun y d => ∃ t, tstOk near sg t ∧ d = tstD t) (it_rangeX (pi := drw 3) k (n_range c) (ev_call k (ok_take c 3 (by decide) (by decide)) (ea_cons (ev_var 0) (ea_cons ev_int ea_nil))) (fun i hi => by obtain ⟨n, rfl, lt⟩ := drw_nat hi; exact ⟨n, rfl, by omega, by omega⟩)) (fun n hn => by omega) (fun _ _ _ _ => trivial) (blkOk_by (by rfl)) (fun y _ s0 H C cl fp => tg_name 5 k.blk)
    (fun y _ s0 H C cl fp => tsts_nil) (fun y _ _ s0 H C cl fp => ev_toX (ev_call k.blk (ok_l_test c so near sg hn hs h0) (ea_cons (ev_var 0) (ea_cons (ev_var 1) (ea_cons (ev_var 2) ea_nil)))) fun t ht => ⟨tstD t, ⟨t, ht, rfl⟩, rfl⟩) (by decide) ⟨[], rfl, (fun _ h => nomatch h), rfl⟩ (fun pre y ys d hp _ hd => ?_) (fun pre y ys _ hb => by cases hb)) fun G p ho hp z => still_ex hp z))) ?_) ?_
  · obtain ⟨ts, h1, h2, rfl⟩ := hp
    obtain ⟨t, ht, rfl⟩ := hd
    exact ⟨ts ++ [t], by rw [List.length_append, List.length_append, h1]; rfl, fun u hu => by rcases List.mem_append.mp hu with z | z; exact h2 u z; rw [List.mem_singleton] at z; rw [z]; exact ht, by rw [List.map_append]; rfl⟩
  · intro ys ⟨n, hn2, ts, h1, h2, e⟩
    exact ⟨ts, ⟨by rw [h1, List.length_range]; omega, h2⟩, by rw [e]⟩
  · refine srs_exD 4 fun ts hts => ?_
    refine srs_ret (ev_tupD (ts := [dat K (.str (txt own)), dat K (.tuple (ts.map tstD)), exD K (fun n => n ∈ sg) sgn]) (tsx_d (tsx_d (tsx_x tsx_nil))) (ea_cons (ev_var 3) (ea_cons (ev_var 4) (ea_cons (sig_pick c k sg s27 h0 (ev_var 2) (ev_call k (ok_take c sg.length s0 (by omega)) (ea_cons (ev_var 0) (ea_cons (ev_lenS k (n_len c) (ea_cons (ev_var 2) ea_nil)) ea_nil)))) ea_nil))) fun ds hd => ?_)
    obtain ⟨_, ⟨_, ⟨n, _, hn2, rfl, rfl⟩, rfl⟩, rfl⟩ := hd
    exact ⟨⟨own, ts, n⟩, ⟨hown, hts.1, hts.2, hn2, hs.subset hn2⟩, rfl⟩
theorem ok_l_block_row (c : Ctx w K mg) (sg : List Nat) (hs : sg.Sublist allSigs) (h0 : sg ≠ []) : DfOk P w K mg base "_law_block_row" 3 true [.bag, Dt K (.str (txt sg))] (.fro (exD K (BRowOk sg) browD)) := by
  obtain ⟨fd, F0⟩ := (d__law_block_row c)
  refine mk_df ["_law_bag_here", "_law_signs_here", "_law_fours", "_law_k"] (ps := ["_law_bag_here", "_law_signs_here"]) (N := noA) F0 (g__law_block_row c) ⟨rfl, rfl, rfl, by decide +kernel, rfl, by decide +kernel, by decide +kernel⟩ (fun _ _ _ _ _ _ us hl => match us, hl with | [_, _], _ => rfl) rfl (by simp [noOwns, notOwn]) (fun W X hW k hX => ?_) (fun _ _ _ _ _ z => z.elim)
  obtain ⟨cdv, A, outer, s, H, E, rfl⟩ := hX
  have s27 : sg.length ≤ 27 := Nat.le_trans hs.length_le (by decide)
  have s0 : 0 < sg.length := List.length_pos_iff.mpr h0
  refine srs_set 2 k (ev_toX (q := fun fs : List (List Nat) => fs.length = 4 ∧ ∀ f ∈ fs, OfOk f sg) (enc2 := fun fs => .tuple (fs.map fun f => .str (txt f))) (ev_tupleLX k (n_tuple c) (ev_lc (own := [("_law_k", 3)]) k (lc_still (lc_any (js := [3]) (xs := List.range 4) (enc := fun i => dat K (.int (i : Nat))) (fun pre ys => ∃ fs : List (List Nat), fs.length = pre.length ∧ (∀ f ∈ fs, OfOk f sg) ∧ ys = fs.map fun f => .str (txt f)) (fun _ b => b = true) (fun y d => ∃ f, OfOk f sg ∧ d = .str (txt f)) (it_range1 (n := 4) k (n_range c) (ea_cons ev_int ea_nil)) (blkOk_by (by rfl)) (fun y _ s0 H C cl fp => tg_name 3 k.blk)
    (fun y _ s0 H C cl fp => tsts_nil) (fun y _ _ s0 H C cl fp => ev_toX (ev_call k.blk (ok_some c sg hs h0) (ea_cons (ev_var 0) (ea_cons (ev_var 1) ea_nil))) fun f hf => ⟨_, ⟨f, hf, rfl⟩, rfl⟩) (by decide) ⟨[], rfl, (fun _ h => nomatch h), rfl⟩ (fun pre y post ys d _ hp _ hd => ?_) (fun pre y post ys _ _ hb => by cases hb) (by decide)) fun G p ho hp z => still_ex hp z))) ?_) ?_
  · obtain ⟨fs, h1, h2, rfl⟩ := hp
    obtain ⟨f, hf, rfl⟩ := hd
    exact ⟨fs ++ [f], by rw [List.length_append, List.length_append, h1]; rfl, fun u hu => by rcases List.mem_append.mp hu with z | z; exact h2 u z; rw [List.mem_singleton] at z; rw [z]; exact hf, by rw [List.map_append]; rfl⟩
  · intro ys ⟨fs, h1, h2, e⟩
    exact ⟨fs, ⟨by rw [h1, List.length_range], h2⟩, by rw [e]⟩
  · refine srs_exD 2 fun fs hfs => ?_
    refine srs_ret (ev_tupD (ts := [dat K (.tuple (fs.map fun f => .str (txt f))), exD K (fun l : List Nat => l.length = 4 ∧ ∀ n ∈ l, n ∈ sg) (fun l => .str (txt l))]) (tsx_d (tsx_x tsx_nil)) (ea_cons (ev_var 2) (ea_cons (ev_toX (ev_joinX (q := fun xs : List (List Nat) => ∃ l : List Nat, (l.length = 4 ∧ ∀ n ∈ l, n ∈ sg) ∧ xs = l.map fun n => [n]) k (ev_txt []) (ev_toX (ev_lc (own := [("_law_k", 3)]) k (lc_still (lc_any (js := [3]) (xs := List.range 4) (enc := fun i => dat K (.int (i : Nat))) (fun pre ys => ∃ l : List Nat, l.length = pre.length ∧ (∀ n ∈ l, n ∈ sg) ∧ ys = l.map sgn) (fun _ b => b = true) (fun y d => ∃ n, n ∈ sg ∧ d = sgn n) (it_range1 (n := 4) k (n_range c) (ea_cons ev_int ea_nil)) (blkOk_by (by rfl)) (fun y _ s0 H C cl fp => tg_name 3 k.blk)
      (fun y _ s0 H C cl fp => tsts_nil) (fun y _ _ s1 H C cl fp => ev_toX (sig_pick c k.blk sg s27 h0 (ev_var 1) (ev_call k.blk (ok_take c sg.length s0 (by omega)) (ea_cons (ev_var 0) (ea_cons (ev_lenS k.blk (n_len c) (ea_cons (ev_var 1) ea_nil)) ea_nil)))) fun n hn => ⟨_, ⟨n, hn, rfl⟩, rfl⟩) (by decide) ⟨[], rfl, (fun _ h => nomatch h), rfl⟩ (fun pre y post ys d _ hp _ hd => ?_) (fun pre y post ys _ _ hb => by cases hb) (by decide)) fun G p ho hp z => still_ex hp z)) ?_) (fun xs hx => ?_)) (fun xs hx => ?_)) ea_nil)) fun ds hd => ?_)
    · obtain ⟨l, h1, h2, rfl⟩ := hp
      obtain ⟨n, hn, rfl⟩ := hd
      exact ⟨l ++ [n], by rw [List.length_append, List.length_append, h1]; rfl, fun u hu => by rcases List.mem_append.mp hu with z | z; exact h2 u z; rw [List.mem_singleton] at z; rw [z]; exact hn, by rw [List.map_append]; rfl⟩
    · intro ys ⟨l, h1, h2, e⟩
      refine ⟨l.map fun n => [n], ⟨l, ⟨by rw [h1, List.length_range], h2⟩, rfl⟩, ?_⟩
      rw [e, List.map_map]; rfl
    · obtain ⟨l, h1, rfl⟩ := hx
      rw [sing_len]
      omega
    · obtain ⟨l, h1, rfl⟩ := hx
      exact ⟨l, h1, by rw [flat_sing]⟩
    · obtain ⟨_, ⟨l, _, hl, rfl, rfl⟩, rfl⟩ := hd
      exact ⟨⟨fs, l⟩, ⟨hfs.1, hfs.2, hl.1, List.all_eq_true.mpr fun n hn => decide_eq_true (hl.2 n hn)⟩, rfl⟩
end
end Cs

set_option Elab.async false
set_option linter.all false
set_option autoImplicit false
set_option maxRecDepth 100000
set_option maxHeartbeats 4000000
/-! Rules looked at; a drawn rule. -/
namespace Cs
open PySem PySem.Spec PyProof.Rows L2
def ofB (l s : List Nat) : Bool := signsOk l && (decide (l.length ≤ 27) && l.all fun n => decide (n ∈ s))
theorem ofB_ok {l s : List Nat} (h : ofB l s = true) : OfOk l s := by
  unfold ofB at h
  rw [Bool.and_eq_true, Bool.and_eq_true] at h
  exact ⟨h.1, of_decide_eq_true h.2.1, h.2.2⟩
def tstB (near s : List Nat) : Tst0 → Bool
  | .at_ p l => decide (p < 8) && (decide (p ∈ near) && ofB l s)
  | .cnt lo hi l => decide (lo ≤ hi) && (decide (hi ≤ 8) && ofB l s)
theorem tstB_ok {near s : List Nat} {t : Tst0} (h : tstB near s t = true) : tstOk near s t := by
  cases t with
  | at_ p l =>
    simp only [tstB, Bool.and_eq_true, decide_eq_true_eq] at h
    exact ⟨h.1, h.2.1, ofB_ok h.2.2⟩
  | cnt lo hi l =>
    simp only [tstB, Bool.and_eq_true, decide_eq_true_eq] at h
    exact ⟨h.1, h.2.1, ofB_ok h.2.2⟩
def crowB (near s : List Nat) (r : CRow) : Bool := ofB r.own s && (decide (r.tests.length ≤ 8) && (r.tests.all (tstB near s) && (decide (r.sign ∈ s) && decide (r.sign ∈ allSigs))))
theorem crowB_ok {near s : List Nat} {r : CRow} (h : crowB near s r = true) : CRowOk near s r := by
  simp only [crowB, Bool.and_eq_true, decide_eq_true_eq, List.all_eq_true] at h
  exact ⟨ofB_ok h.1, h.2.1, fun t ht => tstB_ok (h.2.2.1 t ht), h.2.2.2⟩
def browB (s : List Nat) (r : BRow) : Bool := decide (r.fours.length = 4) && (r.fours.all (fun f => ofB f s) && (decide (r.four.length = 4) && r.four.all fun n => decide (n ∈ s)))
theorem browB_ok {s : List Nat} {r : BRow} (h : browB s r = true) : BRowOk s r := by
  simp only [browB, Bool.and_eq_true, decide_eq_true_eq] at h
  refine ⟨h.1, fun f hf => ofB_ok (List.all_eq_true.mp h.2.1 f hf), h.2.2.1, h.2.2.2⟩
def nearB (so : Str) (near : List Nat) : Bool := near.all (fun p => decide (p < 8)) && (decide near.Nodup && (decide (near.length ≤ 8) && ((!decide (so = "halves") || near.all fun p => decide (plc p ∈ (["n", "e", "s", "w"] : List Str))) && (decide (so = "halves") || (decide (so = "around") || decide (near = []))))))
theorem nearB_ok {so : Str} {near : List Nat} (h : nearB so near = true) : NearOk so near := by
  simp only [nearB, Bool.and_eq_true, decide_eq_true_eq, List.all_eq_true, Bool.or_eq_true, Bool.not_eq_true', decide_eq_false_iff_not] at h
  refine ⟨h.1, h.2.1, h.2.2.1, fun e => ?_, fun e => ?_⟩
  · rcases h.2.2.2.1 with z | z
    · exact absurd e z
    · exact z
  · rcases h.2.2.2.2 with z | z
    · exact absurd z e
    · exact z
def rowsB (so : Str) (near s : List Nat) : Rws → Bool
  | .cell l => !decide (so = "blocks") && l.all (crowB near s)
  | .block l => decide (so = "blocks") && l.all (browB s)
def ruB (r : Ru) : Bool := decide (r.so ∈ (["around", "halves", "blocks"] : List Str)) && (decide (2 ≤ r.m) && (decide (r.m ≤ 27) && (nearB r.so r.near && (decide (r.rows.D.length ≤ 80) && rowsB r.so r.near (sigs r.m) r.rows))))
theorem ruB_ok {r : Ru} (h : ruB r = true) : r.Ok := by
  obtain ⟨so, m, near, rows⟩ := r
  simp only [ruB, Bool.and_eq_true, decide_eq_true_eq] at h
  obtain ⟨h1, h2, h3, h4, h5, h6⟩ := h
  refine ⟨h1, h2, h3, nearB_ok h4, h5, ?_⟩
  cases rows with
  | cell l =>
    simp only [rowsB, Bool.and_eq_true, Bool.not_eq_true', decide_eq_false_iff_not, List.all_eq_true] at h6
    exact ⟨h6.1, fun r hr => crowB_ok (h6.2 r hr)⟩
  | block l =>
    simp only [rowsB, Bool.and_eq_true, decide_eq_true_eq, List.all_eq_true] at h6
    exact ⟨h6.1, fun r hr => browB_ok (h6.2 r hr)⟩
/-- a rule that is drawn -/
structure Drawn (r : Ru) : Prop where
  ok : r.Ok
  keeps : keepsG r = true
abbrev Ru.tup (K : PySem.W.Frag) (r : Ru) : T := tupT K (ruleTs K r.so r.m r.near r.rows.D)
theorem sigs_len {m : Nat} (h : m ≤ 27) : (sigs m).length = m := by
  unfold sigs
  rw [List.length_take]
  exact Nat.min_eq_left h
section
variable {P : Program} {w : World} {K : PySem.W.Frag} {mg : Str → Option Value} {base : Heap} {k : Nat} {X : Cx} {W : Option Addr} {Γ : En} {pos : Pos} {a0 a1 a2 a3 elt tg iter : Expr} {ifs : List Expr} {scope : Scope} {own : List (Str × Nat)} {so : Str} {m : Nat} {near : List Nat}
theorem ev_ruleX {x1 : Nat} {pl : List PyData → Prop} {p : Ru → Prop} (h : Ea X K W Γ [a0, a1, a2, a3] [Dt K (.str so), Dt K (.int (m : Nat)), .fro (xtT K (nearD near)), .fro (exD K pl .list)]) (hr : ∀ ys, pl ys → ∃ r : Ru, p r ∧ r.so = so ∧ r.m = m ∧ r.near = near ∧ r.rows.D = ys) : Ev X K W Γ (.Tuple [a0, a1, a2, a3] x1 pos) (.fro (exT p (Ru.tup K))) :=
  ev_to (ev_tupT [dat K (.str so), dat K (.int (m : Nat)), xtT K (nearD near), exD K pl .list] h) fun H0 G H v z G' l => by
    obtain ⟨q, xs, rfl, hs, ht⟩ := z G' l
    match xs, ht with
    | [v0, v1, v2, v3], ht =>
      obtain ⟨ys, hy, dy⟩ := up.now ht.2.2.2.1
      obtain ⟨r, hp, rfl, rfl, rfl, rfl⟩ := hr ys hy
      refine ⟨r, hp, fun G2 l2 => ⟨q, _, rfl, l2.tup hs, ht.1.lk l2, ht.2.1.lk l2, ht.2.2.1.lk l2, up_dat (l2.dat dy), trivial⟩⟩
theorem lc_stillX {ds : List PyData} {β : Type} {p : β → Prop} {enc : β → PyData} {y : β} (hy : p y) (e : PyData.list ds = enc y) (h : LcOk X K W Γ elt tg iter ifs scope own (.own (lstO K ds))) : LcOk X K W Γ elt tg iter ifs scope own (.fro (exD K p enc)) :=
  lc_still h fun G q ho hp z G' l => ⟨y, hy, by rw [← e]; exact up.now (still_lst (l.at_ hp) fun G2 l2 => z G2 (l.trans l2))⟩
end
end Cs

set_option Elab.async false
set_option linter.all false
set_option autoImplicit false
set_option maxRecDepth 100000
set_option maxHeartbeats 4000000
/-! A drawn rule. -/
namespace Cs
open PySem PySem.Spec PyProof.Rows L2
def row0 (near : List Nat) : CRow := ⟨[46], [.cnt near.length 8 [46]], 46⟩
def brow0 : BRow := ⟨[[46], [46], [46], [46]], [46, 46, 46, 46]⟩
theorem filter_all (n : Nat) : (List.replicate n 46).filter (fun a => decide (a ∈ [46])) = List.replicate n 46 := by
  rw [List.filter_eq_self]
  intro a ha
  rw [List.eq_of_mem_replicate ha]; rfl
theorem keeps_row0 (so : Str) (m : Nat) (near : List Nat) (l : List CRow) (h8 : near.length ≤ 8) : keepsG ⟨so, m, near, .cell (row0 near :: l)⟩ = true := by
  have hf : rowFits near 46 (List.replicate near.length 46) (row0 near) = true := by
    unfold rowFits row0 holds
    simp [filter_all, h8]
  show decide (fateC near (row0 near :: l) 46 (List.replicate near.length 46) = 46) = true
  unfold fateC
  rw [List.find?_cons, hf]
  rfl
theorem keeps_brow0 (so : Str) (m : Nat) (near : List Nat) (l : List BRow) : keepsG ⟨so, m, near, .block (brow0 :: l)⟩ = true := by
  show decide (fateB (brow0 :: l) [46, 46, 46, 46] = [46, 46, 46, 46]) = true
  unfold fateB
  rw [List.find?_cons, show fitB [46, 46, 46, 46] brow0 = true by decide]
  rfl
theorem of46 {m : Nat} (h : 2 ≤ m) : OfOk [46] (sigs m) := ofok_sub (List.singleton_sublist.mpr (dot_in h)) (sigs_sub m) (by simp)
section
variable {P : Program} {w : World} {K : PySem.W.Frag} {mg : Str → Option Value} {base : Heap}
theorem lc_toX {X : Cx} {W : Option Addr} {Γ : En} {elt tg iter : Expr} {ifs : List Expr} {scope : Scope} {own : List (Str × Nat)} {β γ : Type} {p : β → Prop} {enc : β → PyData} {q : γ → Prop} {enc2 : γ → PyData} (h : LcOk X K W Γ elt tg iter ifs scope own (.fro (exD K p enc))) (i : ∀ y, p y → ∃ z, q z ∧ enc y = enc2 z) : LcOk X K W Γ elt tg iter ifs scope own (.fro (exD K q enc2)) :=
  lc_to h fun _ _ _ _ z => by
    obtain ⟨y, hy, z⟩ := ex_get z
    obtain ⟨u, hu, e⟩ := i y hy
    exact ex_of hu (by rw [← e]; exact z)
theorem ok_l_rule (c : Ctx w K mg) (m : Nat) (m2 : 2 ≤ m) (m27 : m ≤ 27) : DfOk P w K mg base "_law_rule" 5 true [.bag, .fro (exD K (fun so => so ∈ (["around", "halves", "blocks"] : List Str)) .str), Dt K (.int (m : Nat))] (.fro (exT (fun r => Drawn r ∧ r.m = m) (Ru.tup K))) := by
  obtain ⟨fd, F0⟩ := (d__law_rule c)
  refine mk_df ["_law_bag_here", "_law_sort", "_law_many", "_law_signs_here", "_law_near_here", "_law_way", "_law_size", "_law_rows", "_law_k", "_law_sign_here"] (ps := ["_law_bag_here", "_law_sort", "_law_many"]) (N := noA) F0 (g__law_rule c) ⟨rfl, rfl, rfl, by decide +kernel, rfl, by decide +kernel, by decide +kernel⟩ (fun _ _ _ _ _ _ us hl => match us, hl with | [_, _, _], _ => rfl) rfl (by simp [noOwns, notOwn]) (fun W X hW k hX => ?_) (fun _ _ _ _ _ z => z.elim)
  obtain ⟨cdv, A, outer, s, H, E, rfl⟩ := hX
  have hs := sigs_sub m
  have sl := sigs_len m27
  have h0 : sigs m ≠ [] := by intro z; rw [z] at sl; simp at sl; omega
  refine srs_exD 1 fun so hso => ?_
  refine srs_set 3 k (ev_call k (ok_l_signs c m) (ea_cons (ev_var 2) ea_nil)) ?_
  refine srs_set 4 k (ev_call k (ok_l_near c so hso) (ea_cons (ev_var 0) (ea_cons (ev_var 1) ea_nil))) ?_
  refine srs_exT 4 fun near hn => ?_
  have n8 := hn.few
  refine srs_set 5 k (ev_call k (ok_take c 5 (by decide) (by decide)) (ea_cons (ev_var 0) (ea_cons ev_int ea_nil))) ?_
  refine srs_exD 5 fun wi hwi => ?_
  refine srs_set 6 k (ev_call k (ok_take c 5 (by decide) (by decide)) (ea_cons (ev_var 0) (ea_cons ev_int ea_nil))) ?_
  refine srs_exD 6 fun si hsi => ?_
  obtain ⟨n, rfl, nlt⟩ := drw_nat hsi
  refine srs_ifR (cv := decide (so = "blocks")) (tst_eqS k (ev_var 1) ev_str) (fun hb => ?_) fun hb => ?_
  · have hb' := of_decide_eq_true hb
    refine srs_cons (sr_setLc 7 (own := [("_law_k", 8)]) k (lc_toX (q := fun l : List BRow => l.length ≤ 5 ∧ ∀ r ∈ l, BRowOk (sigs m) r) (enc2 := fun l => .list (l.map browD)) (lc_still (lc_any (js := [8]) (xs := List.range n) (enc := fun i => dat K (.int (i : Nat))) (fun pre ys => ∃ l : List BRow, l.length = pre.length ∧ (∀ r ∈ l, BRowOk (sigs m) r) ∧ ys = l.map browD) (fun _ b => b = true) (fun y d => ∃ r, BRowOk (sigs m) r ∧ d = browD r) (it_range1 k (n_range c) (ea_cons (ev_var 6) ea_nil)) (blkOk_by (by rfl)) (fun y _ s0 H C cl fp => tg_name 8 k.blk)
      (fun y _ s0 H C cl fp => tsts_nil) (fun y _ _ s1 H C cl fp => ev_toX (ev_call k.blk (ok_l_block_row c (sigs m) hs h0) (ea_cons (ev_var 0) (ea_cons (ev_var 3) ea_nil))) fun r hr => ⟨_, ⟨r, hr, rfl⟩, rfl⟩) (by decide) ⟨[], rfl, (fun _ h => nomatch h), rfl⟩ (fun pre y post ys d _ hp _ hd => ?_) (fun pre y post ys _ _ hb => by cases hb) (by rw [List.length_range]; omega)) fun G p ho hp z => still_ex hp z) ?_)) ?_
    · obtain ⟨l, h1, h2, rfl⟩ := hp
      obtain ⟨r, hr, rfl⟩ := hd
      exact ⟨l ++ [r], by rw [List.length_append, List.length_append, h1]; rfl, fun u hu => by rcases List.mem_append.mp hu with z | z; exact h2 u z; rw [List.mem_singleton] at z; rw [z]; exact hr, by rw [List.map_append]; rfl⟩
    · intro ys ⟨l, h1, h2, e⟩
      exact ⟨l, ⟨by rw [h1, List.length_range]; omega, h2⟩, by rw [e]⟩
    · refine srs_ret (ev_ruleX (so := so) (m := m) (near := near) (ea_cons (ev_var 1) (ea_cons (ev_var 2) (ea_cons (ev_var 4) (ea_cons (ev_catX (ds := [browD brow0]) c.nk k (pl := fun ys => ∃ l : List BRow, (l.length ≤ 5 ∧ ∀ r ∈ l, BRowOk (sigs m) r) ∧ ys = l.map browD) (ev_lst (ead_cons (ev_tup (ead_cons (ev_tup (ead_cons (ev_txt [46]) (ead_cons (ev_txt [46]) (ead_cons (ev_txt [46]) (ead_cons (ev_txt [46]) ead_nil))))) (ead_cons (ev_txt [46, 46, 46, 46]) ead_nil))) ead_nil)) (ev_toX (ev_var 7) fun l hl => ⟨l.map browD, ⟨l, hl, rfl⟩, rfl⟩) (fun es ⟨l, hl, e⟩ => by rw [e, List.length_map]; simp; omega)) ea_nil)))) fun ys hy => ?_)
      obtain ⟨_, ⟨l, hl, rfl⟩, rfl⟩ := hy
      refine ⟨⟨so, m, near, .block (brow0 :: l)⟩, ⟨⟨⟨hso, m2, m27, hn, ?_, hb', fun r hr => ?_⟩, keeps_brow0 so m near l⟩, rfl⟩, rfl, rfl, rfl, rfl⟩
      · show ((brow0 :: l).map browD).length ≤ 80
        rw [List.length_map, List.length_cons]; omega
      · rcases List.mem_cons.mp hr with e | hr
        · subst e
          refine ⟨rfl, fun f hf => ?_, rfl, ?_⟩
          · have : f = [46] := by simpa [brow0] using hf
            rw [this]; exact of46 m2
          · show ([46, 46, 46, 46].all fun n => decide (n ∈ sigs m)) = true
            simp [dot_in m2]
        · exact hl.2 r hr
  · have hb' := of_decide_eq_false hb
    let pc : List CRow → Prop := fun l => l.length ≤ 27 ∧ ∀ r ∈ l, CRowOk near (sigs m) r
    refine srs_cons (sr_setLc 7 (own := [("_law_k", 8)]) k (lc_toX (q := pc) (enc2 := fun l => .list (l.map crowD)) (lc_still (lc_any (js := [8]) (xs := List.range n) (enc := fun i => dat K (.int (i : Nat))) (fun pre ys => ∃ l : List CRow, l.length = pre.length ∧ (∀ r ∈ l, CRowOk near (sigs m) r) ∧ ys = l.map crowD) (fun _ b => b = true) (fun y d => ∃ r, CRowOk near (sigs m) r ∧ d = crowD r) (it_range1 k (n_range c) (ea_cons (ev_var 6) ea_nil)) (blkOk_by (by rfl)) (fun y _ s0 H C cl fp => tg_name 8 k.blk)
      (fun y _ s0 H C cl fp => tsts_nil) (fun y _ _ s1 H C cl fp => ev_toX (ev_call k.blk (ok_l_row c so near (sigs m) hn hs h0) (ea_cons (ev_var 0) (ea_cons (ev_var 4) (ea_cons (ev_var 3) ea_nil)))) fun r hr => ⟨_, ⟨r, hr, rfl⟩, rfl⟩) (by decide) ⟨[], rfl, (fun _ h => nomatch h), rfl⟩ (fun pre y post ys d _ hp _ hd => ?_) (fun pre y post ys _ _ hb => by cases hb) (by rw [List.length_range]; omega)) fun G p ho hp z => still_ex hp z) ?_)) ?_
    · obtain ⟨l, h1, h2, rfl⟩ := hp
      obtain ⟨r, hr, rfl⟩ := hd
      exact ⟨l ++ [r], by rw [List.length_append, List.length_append, h1]; rfl, fun u hu => by rcases List.mem_append.mp hu with z | z; exact h2 u z; rw [List.mem_singleton] at z; rw [z]; exact hr, by rw [List.map_append]; rfl⟩
    · intro ys ⟨l, h1, h2, e⟩
      exact ⟨l, ⟨by rw [h1, List.length_range]; omega, h2⟩, by rw [e]⟩
    · let Γ7 : En := [some .bag, some (Dt K (.str so)), some (Dt K (.int (m : Nat))), some (Dt K (.str (txt (sigs m)))), some (.fro (xtT K (nearD near))), some (Dt K (.int wi)), some (Dt K (.int (n : Nat))), some (.fro (exD K pc fun l => .list (l.map crowD))), none, none]
      refine srs_if (M := envA W Γ7) (cv := decide (wi = 0) && !decide (nearD near = [])) (tst_w (tsw_and (tst_eqI k (ev_var 5) ev_int) fun _ => tsw_and1 (tst_eq (tst_neD (d1 := .tuple (nearD near)) (d2 := .tuple []) k (near_sh hn.lt) (by decide +kernel) (ev_xd (ev_var 4)) (ev_tup ead_nil)) (by rw [tupEmpty])))) (fun hc => ?_) (fun _ => srs_end) ?_
      · rw [Bool.and_eq_true] at hc
        obtain ⟨p0, near', en⟩ : ∃ p0 near', near = p0 :: near' := by
          cases near with
          | nil => exact absurd hc.2 (by decide)
          | cons p0 near' => exact ⟨p0, near', rfl⟩
        refine srs_cons (sr_setLc 7 (own := [("_law_sign_here", 9)]) k (lc_stillX (p := pc) (enc := fun l => .list (l.map crowD)) (y := (sigs m).map fun s => ⟨sigs m, [.at_ p0 [s]], s⟩) ⟨by rw [List.length_map, sl]; exact m27, fun r hr => ?_⟩ (by rw [List.map_map]; rfl) (lc_map (js := [9]) (xs := sigs m) (enc := fun n => dat K (sgn n)) (fun s => crowD ⟨sigs m, [.at_ p0 [s]], s⟩) (it_str (ev_var 3)) (blkOk_by (by rfl)) (fun y _ s0 H C cl fp => tg_name 9 k.blk)
          (fun y _ s0 H C cl fp => ev_tup (ead_cons (ev_var 3) (ead_cons (ev_tup (ead_cons (ev_tup (ead_cons ev_str (ead_cons (ev_ixT (d := .str (plc p0)) k.blk (ev_xd (ev_var 4)) ev_int (by rw [en]; exact at0)) (ead_cons (ev_var 9) ead_nil)))) ead_nil)) (ead_cons (ev_var 9) ead_nil)))) (by decide) (by rw [sl]; omega)))) srs_end
        obtain ⟨s, hsm, rfl⟩ := List.mem_map.mp hr
        refine ⟨ofok_sub (List.Sublist.refl _) hs h0, Nat.le_of_ble_eq_true rfl, fun t ht => ?_, hsm, hs.subset hsm⟩
        rw [List.mem_singleton] at ht
        rw [ht]
        exact ⟨hn.lt p0 (by rw [en]; exact List.mem_cons_self ..), by rw [en]; exact List.mem_cons_self .., ofok_sub (List.singleton_sublist.mpr hsm) hs (by simp)⟩
      · refine srs_if (M := envA W Γ7) (cv := decide (wi = 1)) (tst_eqI k (ev_var 5) ev_int) (fun hc => ?_) (fun _ => srs_end) ?_
        · have ei : ∀ i : Nat, (1 : Int) + (1 + (i : Nat)) % ((m : Nat) - 1) = ((1 + (1 + i) % (m - 1) : Nat) : Int) := fun i => by
            have e1 : ((m - 1 : Nat) : Int) = (m : Nat) - 1 := by omega
            rw [Int.natCast_add, Int.natCast_emod, Int.natCast_add, e1]; rfl
          have ej : ∀ i : Nat, (1 : Int) + (i : Nat) = ((1 + i : Nat) : Int) := fun i => by omega
          have il : ∀ i : Nat, 1 + (1 + i) % (m - 1) < (sigs m).length := fun i => by
            have := Nat.mod_lt (1 + i) (show m - 1 > 0 by omega)
            omega
          refine srs_cons (sr_setLc 7 (own := [("_law_k", 8)]) k (lc_stillX (p := pc) (enc := fun l => .list (l.map crowD)) (y := (List.range (m - 1)).map fun i => ⟨[(sigs m).getD (1 + i) 0], [], (sigs m).getD (1 + (1 + i) % (m - 1)) 0⟩) ⟨by rw [List.length_map, List.length_range]; omega, fun r hr => ?_⟩ (by rw [List.map_map]; rfl) (lc_map (js := [8]) (xs := List.range (m - 1)) (enc := fun i => dat K (.int (1 + (i : Nat)))) (fun i => crowD ⟨[(sigs m).getD (1 + i) 0], [], (sigs m).getD (1 + (1 + i) % (m - 1)) 0⟩) (it_range2n (lo := 1) (hi := (m : Nat)) (m - 1) (by omega) k (n_range c) (ea_cons ev_int (ea_cons (ev_var 2) ea_nil)) (by decide) (by omega) (by decide) (by omega)) (blkOk_by (by rfl)) (fun y _ s0 H C cl fp => tg_name 8 k.blk)
            (fun i hi s0 H C cl fp => ev_tup (ead_cons (ev_ixS (l := sigs m) (n := (sigs m).getD (1 + i) 0) (ev_var 3) (ev_eq (ev_var 8) (congrArg PyData.int (ej i))) (atI_nat (getD_at (by have := List.mem_range.mp hi; omega))) (by omega)) (ead_cons (ev_tup ead_nil) (ead_cons (ev_ixS (l := sigs m) (n := (sigs m).getD (1 + (1 + i) % (m - 1)) 0) (ev_var 3) (ev_eq (ev_add ev_int (ev_mod (ev_var 8) (ev_sub (ev_var 2) ev_int) (by omega))) (congrArg PyData.int (ei i))) (atI_nat (getD_at (il i))) (by omega)) ead_nil)))) (by decide) (by rw [List.length_range]; omega)))) srs_end
          obtain ⟨i, hi, rfl⟩ := List.mem_map.mp hr
          have hi2 := List.mem_range.mp hi
          have m1 : (sigs m).getD (1 + i) 0 ∈ sigs m := List.mem_of_getElem? (getD_at (by omega))
          have m3 : (sigs m).getD (1 + (1 + i) % (m - 1)) 0 ∈ sigs m := List.mem_of_getElem? (getD_at (il i))
          exact ⟨ofok_sub (List.singleton_sublist.mpr m1) hs (by simp), Nat.le_of_ble_eq_true rfl, (fun _ h => nomatch h), m3, hs.subset m3⟩
        · refine srs_ret (ev_ruleX (so := so) (m := m) (near := near) (ea_cons (ev_var 1) (ea_cons (ev_var 2) (ea_cons (ev_var 4) (ea_cons (ev_catX (ds := [crowD (row0 near)]) c.nk k (pl := fun ys => ∃ l : List CRow, pc l ∧ ys = l.map crowD) (ev_lst (ead_cons (ev_tup (ead_cons (ev_txt [46]) (ead_cons (ev_tup (ead_cons (ev_tup (ead_cons ev_str (ead_cons (ev_eq (ev_lenT k (n_len c) (ea_cons (ev_xd (ev_var 4)) ea_nil)) (by rw [nearD_len])) (ead_cons ev_int (ead_cons (ev_txt [46]) ead_nil))))) ead_nil)) (ead_cons (ev_eq (ev_txt [46]) rfl) ead_nil)))) ead_nil)) (ev_toX (ev_var 7) fun l hl => ⟨l.map crowD, ⟨l, hl, rfl⟩, rfl⟩) (fun es ⟨l, hl, e⟩ => by have := hl.1; rw [e, List.length_map]; simp; omega)) ea_nil)))) fun ys hy => ?_)
          obtain ⟨_, ⟨l, hl, rfl⟩, rfl⟩ := hy
          refine ⟨⟨so, m, near, .cell (row0 near :: l)⟩, ⟨⟨⟨hso, m2, m27, hn, ?_, hb', fun r hr => ?_⟩, keeps_row0 so m near l n8⟩, rfl⟩, rfl, rfl, rfl, rfl⟩
          · show ((row0 near :: l).map crowD).length ≤ 80
            have := hl.1
            rw [List.length_map, List.length_cons]; omega
          · rcases List.mem_cons.mp hr with e | hr
            · subst e
              refine ⟨of46 m2, Nat.le_of_ble_eq_true rfl, fun t ht => ?_, dot_in m2, (by decide : (46 : Nat) ∈ allSigs)⟩
              have : t = .cnt near.length 8 [46] := by simpa [row0] using ht
              rw [this]
              exact ⟨n8, by decide, of46 m2⟩
            · exact hl.2 r hr
end
end Cs

set_option Elab.async false
set_option linter.all false
set_option autoImplicit false
set_option maxRecDepth 100000
set_option maxHeartbeats 4000000
/-! Blocks, lively rules. -/
namespace Cs
open PySem PySem.Spec PyProof.Rows L2
theorem vals_signs {l : List Nat} {acc : Array Value} (h : ItemsOf (SignAt (txt l)) acc (txt l).cps.size) : Vals (l.map fun n => V.str (txt [n])) acc.toList := by
  have hs : acc.toList.length = l.length := by rw [Array.length_toList, h.1]; show l.toArray.size = _; simp
  refine vals_of_at (by rw [List.length_map]; exact hs.symm) fun j x w h1 h2 => ?_
  obtain ⟨c, u, hc, rfl⟩ := h.2 j w (by rw [← Array.getElem?_toList]; exact h2)
  rw [List.getElem?_map] at h1
  have hc' : l[j]? = some c := by
    have : (txt l).cps[j]? = l[j]? := by show l.toArray[j]? = _; simp
    rw [← this]; exact hc
  rw [hc'] at h1
  cases h1
  exact ⟨u, rfl⟩
section
variable {P : Program} {w : World} {K : PySem.W.Frag} {mg : Str → Option Value} {base : Heap} {k : Nat} {X : Cx} {W : Option Addr} {Γ : En} {pos p0 : Pos} {a b tg : Expr} {l r : List Nat}
theorem call_list_txt {X : Cx} (hc : X.calm = true) : CallR X (.type "list") (fun xs H Q => ∃ l : List Nat, xs = [V.str (txt l)] ∧ l.length ≤ 1000 ∧ ∀ p, H p = none → Q (.ref p) (upd H p (.lst (l.map fun n => V.str (txt [n]))))) := by
  intro pins s σ H xs us Q I rs h
  obtain ⟨l, rfl, hl, q⟩ := h
  obtain ⟨u, rfl, rx⟩ := vals1 rs
  obtain ⟨t, rfl⟩ := rx
  have hz : (txt l).cps.size ≤ sizeLine := by show l.toArray.size ≤ _; rw [sizeLine_eq]; simp; omega
  refine call_list_str (I.ok.hd hc) (txt l) t (fun h' tk acc' c' kp hS hacc => ?_) hz
  refine ⟨.ref s.heap.objs.size, _, I.laid (t' := tk) kp (Nat.le_refl _) (show ObjOk X.prog X.w _ h' _ (.lst (l.map fun n => V.str (txt [n]))) from ⟨by rw [List.length_map, sizeLine_eq]; omega, acc'.toList, c', vals_signs hacc, by rw [Array.toArray_toList]; exact hS⟩), rfl, q _ (I.hok.fresh (Nat.le_refl _))⟩
/-- list(text) -/
theorem ev_listS (c : Cok P w K mg base k X) (hm : mg "list" = none) (hl : l.length ≤ 1000) (ha : Ev X K W Γ a (Dt K (.str (txt l)))) (hg : Gl X "list" := by rfl) (he : A1 X a := by rfl) : Ev X K W Γ (.Call (.Name "list" p0) [a] [] pos) (Dt K (.list (l.map sgn))) :=
  ev_callT c (call_list_txt c.hc) (fun H0 G H vs f hb q Q kk => by
    obtain ⟨v, rfl, q1⟩ := args1 q
    refine ⟨l, by rw [dt_str q1], hl, fun p hp => ?_⟩
    have hd : DpAll K G (l.map fun n => V.str (txt [n])) (l.map sgn) := up_all (f := fun n => V.str (txt [n])) (g := sgn) (fun _ _ => .str _) G l
    obtain ⟨s2, q2⟩ := new_lst f hd hp
    exact kk _ _ _ s2 (q2.back hb)) hm (by decide +kernel) (ea_cons ha ea_nil he) hg (he := he)
theorem it_zipS {p : Pos} {elts : List Expr} {kk : Nat} {tpos : Pos} (c : Cok P w K mg base k X) (hm : mg "zip" = none) (ha : Ea X K W Γ [a, b] [Dt K (.str (txt l)), Dt K (.str (txt r))]) (hg : Gl X "zip" := by rfl) (hs : starEach [a, b] X.env = (false, eval a X.env) :: starEach [b] X.env := by rfl) (hpl : (backTo pos (starEach [b] X.env)).any (·.1) = false := by rfl) :
    PI X (.Tuple elts kk tpos) (.Call (.Name "zip" p) [a, b] [] pos) (cI K W Γ ((l.zip r).map fun z => dat K (.tuple [sgn z.1, sgn z.2]))) := by
  have e : ((l.map sgn).zip (r.map sgn)).map (fun z => dat K (.tuple [z.1, z.2])) = (l.zip r).map fun z => dat K (.tuple [sgn z.1, sgn z.2]) := by
    rw [List.zip_map, List.map_map]; rfl
  rw [← e]
  exact it_zip c hm ha (items_txt l) (items_txt r) hg hs hpl
theorem ev_joinT {apos : Pos} {xs : List (List Nat)} (c : Cok P w K mg base k X) (ha : Ev X K W Γ a (Dt K (.str (txt [])))) (hb : Ev X K W Γ b (Dt K (.tuple (xs.map fun z => .str (txt z))))) (hz : (xs.map List.length).sum ≤ 16777216)
    (hs : starEach [b] X.env = [(false, eval b X.env)] := by rfl) (hbase : attributeBase a "join" X.env (eval a X.env) = eval a X.env := by rfl) (hline : (apos.endLine == pos.line) = true := by rfl) : Ev X K W Γ (.Call (.Attribute a "join" apos) [b] [] pos) (Dt K (.str (txt xs.flatten))) :=
  peI (pe_join ha hb hs hbase hline) fun σ H Q ⟨H0, G, f, en, k⟩ => ⟨H0, G, f, en, fun v H1 G1 s1 q1 => ⟨⟨txt [], dt_str q1⟩, H0, G1, s1.frm, en.step s1, fun u H2 G2 s2 q2 => by
    obtain ⟨p, vs, rfl, hs, hd⟩ := dt_tuple q2
    have e0 : xs.map (fun z => PyData.str (txt z)) = (xs.map txt).map .str := by rw [List.map_map]; rfl
    rw [e0] at hd
    rw [dpStrs hd] at hs
    refine ⟨txt [], p, xs.map txt, dt_str q1, rfl, .inr (by rw [c.hK]; exact s2.frm.seqT hs), ?_, k _ H2 G2 (s1.trans s2) (dt_of ?_)⟩
    · have e1 : (xs.map txt).map (·.length) = xs.map List.length := by rw [List.map_map]; exact List.map_congr_left fun z _ => txt_len z
      rw [e1, txt_len]
      simpa using hz
    · rw [join_txt]; exact .str _⟩⟩
end
def orders : List (List Nat) := [[3, 2, 1, 0], [2, 0, 3, 1], [1, 0, 3, 2]]
def perm4 (o t : List Nat) : List Nat := o.map fun i => t.getD i 46
def browP (o t : List Nat) : BRow := ⟨t.map fun n => [n], perm4 o t⟩
def blkRows (o : List Nat) : List BRow := ((texts (sigs 2) 4).filter fun t => !decide (t = perm4 o t)).map (browP o)
theorem orders_ok : ∀ o ∈ orders, (ruB ⟨"blocks", 2, [], .block (blkRows o)⟩ && keepsG ⟨"blocks", 2, [], .block (blkRows o)⟩) = true := by decide +kernel
theorem orders_lt : ∀ o ∈ orders, o.length = 4 ∧ ∀ i ∈ o, i < 4 := by decide +kernel
theorem brow_perm (o t : List Nat) : browD (browP o t) = .tuple [.tuple (t.map sgn), .str (txt (perm4 o t))] := by
  unfold browD browP
  simp only [List.map_map]
  rfl
section
variable {P : Program} {w : World} {K : PySem.W.Frag} {mg : Str → Option Value} {base : Heap}
theorem ok_l_blocks (c : Ctx w K mg) : DfOk P w K mg base "_law_blocks" 2 true [.bag, Dt K (.str (txt (sigs 2)))] (.fro (exD K (fun l : List BRow => Drawn ⟨"blocks", 2, [], .block l⟩) fun l => .list (l.map browD))) := by
  obtain ⟨fd, F0⟩ := (d__law_blocks c)
  refine mk_df ["_law_bag_here", "_law_signs_here", "_law_order", "_law_blocks_here", "_law_k", "_law_longer", "_law_text", "_law_sign_here", "_law_rows", "_law_at", "_law_row_here"] (ps := ["_law_bag_here", "_law_signs_here"]) (N := noA) F0 (g__law_blocks c) ⟨rfl, rfl, rfl, by decide +kernel, rfl, by decide +kernel, by decide +kernel⟩ (fun _ _ _ _ _ _ us hl => match us, hl with | [_, _], _ => rfl) rfl (by simp [noOwns, notOwn]) (fun W X hW k hX => ?_) (fun _ _ _ _ _ z => z.elim)
  obtain ⟨cdv, A, outer, s, H, E, rfl⟩ := hX
  refine srs_set 2 k (ev_ixLX (q := fun o => o ∈ orders) (enc2 := fun o : List Nat => .list (o.map fun i => .int (i : Nat))) (ds := orders.map fun o => .list (o.map fun i => .int (i : Nat))) k (ev_lst (ead_cons (ev_lst (ead_cons ev_int (ead_cons ev_int (ead_cons ev_int (ead_cons ev_int ead_nil))))) (ead_cons (ev_lst (ead_cons ev_int (ead_cons ev_int (ead_cons ev_int (ead_cons ev_int ead_nil))))) (ead_cons (ev_lst (ead_cons ev_int (ead_cons ev_int (ead_cons ev_int (ead_cons ev_int ead_nil))))) ead_nil)))) (ev_call k (ok_take c 3 (by decide) (by decide)) (ea_cons (ev_var 0) (ea_cons ev_int ea_nil))) (fun i hi => ?_)) ?_
  · obtain ⟨n, rfl, lt⟩ := drw_nat hi
    have lt' : n < orders.length := lt
    exact ⟨orders[n], List.getElem_mem lt', atI_nat (by rw [List.getElem?_map, List.getElem?_eq_getElem lt']; rfl)⟩
  refine srs_exD 2 fun o ho => ?_
  obtain ⟨o4, olt⟩ := orders_lt o ho
  refine srs_set 3 k (ev_lst (ead_cons (ev_txt []) ead_nil)) ?_
  let sg := sigs 2
  let J : List Nat → En := fun pre => [some .bag, some (Dt K (.str (txt (sigs 2)))), some (Dt K (.list (o.map fun i => .int (i : Nat)))), some (Dt K (.list ((texts (sigs 2) pre.length).map fun t => .str (txt t)))), none, none, none, none, none, none, none]
  refine srs_cons (M := envA W (J (List.range 4))) (sr_for (List.range 4) (fun i => dat K (.int (i : Nat))) J (fun pre i => (J pre).set 4 (some (Dt K (.int (i : Nat))))) k (it_range1 (n := 4) k (n_range c) (ea_cons ev_int ea_nil)) (Sub.refl _) (fun pre i post _ => tg_name 4 k) (fun pre i post e => ?_) (fun _ _ _ _ z => z)) ?_
  · obtain ⟨rfl, lt⟩ := range_at e
    have tc : (texts (sigs 2) pre.length).length ≤ 16 := by
      rw [texts_count]
      exact Nat.le_trans (Nat.pow_le_pow_right (by decide) (show pre.length ≤ 4 by omega)) (by decide)
    refine srs_set 5 k (ev_lstO ead_nil) ?_
    let J1 : List (List Nat) → En := fun q => [some .bag, some (Dt K (.str (txt (sigs 2)))), some (Dt K (.list (o.map fun i => .int (i : Nat)))), some (Dt K (.list ((texts (sigs 2) pre.length).map fun t => .str (txt t)))), some (Dt K (.int (pre.length : Nat))), some (.own (lstO K ((q.flatMap fun t => (sigs 2).map fun s => t ++ [s]).map fun t => .str (txt t)))), none, none, none, none, none]
    have hfl : ∀ q : List (List Nat), ((q.flatMap fun t => (sigs 2).map fun s => t ++ [s]).map fun t => PyData.str (txt t)).length = q.length * 2 := fun q => by
      rw [List.length_map]
      induction q with
      | nil => simp
      | cons a q ih => rw [List.flatMap_cons, List.length_append, List.length_map, ih, List.length_cons, Nat.succ_mul, sigs_len (by decide)]; omega
    refine srs_cons (M := envA W (J1 (texts (sigs 2) pre.length))) (sr_for (texts (sigs 2) pre.length) (fun t => dat K (.str (txt t))) J1 (fun q t => (J1 q).set 6 (some (Dt K (.str (txt t))))) k (it_lst _ (fun t => .str (txt t)) k (ev_var 3)) (Sub.refl _) (fun q t post2 _ => tg_name 6 k) (fun q t post2 e2 => ?_) (fun _ _ _ _ z => z)) ?_
    · have hq : q.length ≤ 16 := by
        have h1 := congrArg List.length e2
        rw [List.length_append, List.length_cons] at h1
        omega
      have ht : t.length = pre.length := texts_len (by rw [e2]; simp)
      refine srs_cons (sr_extend (ds := (q.flatMap fun t => (sigs 2).map fun s => t ++ [s]).map fun t => .str (txt t)) (es := (sigs 2).map fun s => .str (txt (t ++ [s]))) 5 k (ev_lc (own := [("_law_sign_here", 7)]) k (lc_map (js := [7]) (xs := sigs 2) (enc := fun s => dat K (sgn s)) (fun s => .str (txt (t ++ [s]))) (it_str (ev_var 1)) (blkOk_by (by rfl)) (fun s _ s0 H C cl fp => tg_name 7 k.blk) (fun s _ s0 H C cl fp => ev_addS (ev_var 6) (ev_var 7) (by simp; omega)) (by decide) (by decide))) (by rw [hfl, List.length_map, sigs_len (by decide)]; omega)) (srs_nil fun _ _ _ _ z => z.sub ?_)
      refine ⟨.inr rfl, .inr rfl, .inr rfl, .inr rfl, .inr rfl, .inr ?_, .inl rfl, .inr rfl, .inr rfl, .inr rfl, .inr rfl, trivial⟩
      show some (Ent.own (lstO K (((q ++ [t]).flatMap fun t => (sigs 2).map fun s => t ++ [s]).map fun t => .str (txt t)))) = _
      rw [List.flatMap_append, List.map_append, List.flatMap_cons, List.flatMap_nil, List.append_nil, List.map_map]
      rfl
    · refine srs_stillL 5 (ds := (texts (sigs 2) (pre.length + 1)).map fun t => .str (txt t)) ?_
      refine srs_set 3 k (ev_var 5) (srs_nil fun _ _ _ _ z => z.sub ?_)
      exact ⟨.inr rfl, .inr rfl, .inr rfl, .inr (by show some (Dt K (.list ((texts (sigs 2) (pre ++ [pre.length]).length).map fun t => .str (txt t)))) = _; rw [List.length_append]; rfl), .inl rfl, .inl rfl, .inr rfl, .inr rfl, .inr rfl, .inr rfl, .inr rfl, trivial⟩
  · have tl : (texts (sigs 2) 4).length ≤ 16777000 := by rw [texts_count]; decide
    refine srs_lcm 8 [("_law_text", 6)] (texts (sigs 2) 4) (fun t => dat K (.str (txt t))) (fun t => browD (browP o t)) k (it_lst _ (fun t => .str (txt t)) k (ev_var 3)) (fun t _ s0 H C cl fp => tg_name 6 k.blk) (fun t ht s0 H C cl fp => ?_) tl ?_
    · have t4 := texts_len ht
      have e0 : o.map (fun i => sgn (t.getD i 46)) = (o.map fun i => [t.getD i 46]).map fun z => PyData.str (txt z) := by rw [List.map_map]; rfl
      refine ev_eq (ev_tup (ead_cons (ev_tupleL k.blk (n_tuple c) (ea_cons (ev_listS (l := t) k.blk (n_list c) (by omega) (ev_var 6)) ea_nil)) (ead_cons (ev_join (l := []) (xs := o.map fun i => [t.getD i 46]) k.blk (ev_txt []) (ev_eq (ev_lcm [("_law_at", 9)] o (fun i => dat K (.int (i : Nat))) (fun i => sgn (t.getD i 46)) k.blk (it_lst o (fun i => .int (i : Nat)) k.blk (ev_var 2)) (fun i _ s0 H C cl fp => tg_name 9 k.blk.blk) (fun i hi s0 H C cl fp => ev_ixS (l := t) (n := t.getD i 46) (ev_var 6) (ev_var 9) (atI_nat (getD_at (by have := olt i hi; omega))) (by omega)) (by omega)) (congrArg PyData.list e0)) (by rw [sum_map1]; omega)) ead_nil))) ?_
      rw [brow_perm, flat_map1]; rfl
    · refine srs_ret (ev_ex (y := blkRows o) ?_ (ev_eq (ev_lcs [("_law_row_here", 10)] (texts (sigs 2) 4) (fun t => dat K (browD (browP o t))) (fun t => !decide (t = perm4 o t)) (fun t => browD (browP o t)) k (it_lst (texts (sigs 2) 4) (fun t => browD (browP o t)) k (ev_var 8)) (fun t _ s0 H C cl fp => tg_name 10 k.blk) (fun t ht s0 H C cl fp => ?_) (fun t _ _ s0 H C cl fp => ev_var 10) tl) ?_))
      · have h := orders_ok o ho
        rw [Bool.and_eq_true] at h
        exact ⟨ruB_ok h.1, h.2⟩
      · have t4 := texts_len ht
        have e2 : t.map sgn = (t.map fun n => [n]).map fun z => PyData.str (txt z) := by rw [List.map_map]; rfl
        refine tsts_one (tst_neX (l := t) (m := perm4 o t) k.blk (ev_eq (ev_joinT (xs := t.map fun n => [n]) k.blk (ev_txt []) (ev_eq (ev_ixT (d := .tuple (t.map sgn)) k.blk (ev_eq (ev_var 10) (brow_perm o t)) ev_int at0) (congrArg PyData.tuple e2)) (by rw [sing_len]; omega)) (by rw [flat_sing])) (ev_ixT (d := .str (txt (perm4 o t))) k.blk (ev_eq (ev_var 10) (brow_perm o t)) ev_int (atI_nat (j := 1) rfl)))
      · unfold blkRows
        rw [List.map_map]; rfl
end
end Cs

set_option Elab.async false
set_option linter.all false
set_option autoImplicit false
set_option maxRecDepth 100000
set_option maxHeartbeats 4000000
/-! Lively rules. -/
namespace Cs
open PySem PySem.Spec PyProof.Rows L2
def rolled (m : Nat) : List Nat := [46] ++ (sigs m).drop 2 ++ [(sigs m).getD 1 0]
def rowsA (p m : Nat) : List CRow := (sigs m).map fun s => ⟨sigs m, [.at_ p [s]], s⟩
def rowsZ (m : Nat) : List CRow := ((sigs m).zip (rolled m)).map fun z => ⟨[z.1], [], z.2⟩
def rowsP (p m : Nat) : List CRow := ((sigs m).zip (rolled m)).map fun z => ⟨sigs m, [.at_ p [z.1]], z.2⟩
def rowsQ (p : Nat) : List CRow := (([97, 98, 99].zip [97, 99, 98]).map fun z => ⟨[46, 97, 98, 99], [.at_ p [z.1]], z.2⟩) ++ [⟨[97, 98, 99], [], 46⟩]
def ruD (r : Ru) : Bool := ruB r && keepsG r
theorem ruD_ok {r : Ru} (h : ruD r = true) : Drawn r := by
  unfold ruD at h
  rw [Bool.and_eq_true] at h
  exact ⟨ruB_ok h.1, h.2⟩
theorem dA : ∀ p, p < 8 → ∀ m, m = 2 ∨ m = 3 → Drawn ⟨"around", m, [p], .cell (rowsA p m)⟩ := by
  have h : ∀ p, p < 8 → (ruD ⟨"around", 2, [p], .cell (rowsA p 2)⟩ && ruD ⟨"around", 3, [p], .cell (rowsA p 3)⟩) = true := by decide +kernel
  intro p hp m hm
  have h1 := h p hp
  rw [Bool.and_eq_true] at h1
  rcases hm with rfl | rfl
  · exact ruD_ok h1.1
  · exact ruD_ok h1.2
theorem dP : ∀ p, p < 8 → ∀ m, m = 2 ∨ m = 3 → Drawn ⟨"around", m, [p], .cell (rowsP p m)⟩ := by
  have h : ∀ p, p < 8 → (ruD ⟨"around", 2, [p], .cell (rowsP p 2)⟩ && ruD ⟨"around", 3, [p], .cell (rowsP p 3)⟩) = true := by decide +kernel
  intro p hp m hm
  have h1 := h p hp
  rw [Bool.and_eq_true] at h1
  rcases hm with rfl | rfl
  · exact ruD_ok h1.1
  · exact ruD_ok h1.2
theorem dQ : ∀ p, p < 8 → Drawn ⟨"around", 4, [p], .cell (rowsQ p)⟩ := by
  have h : ∀ p, p < 8 → ruD ⟨"around", 4, [p], .cell (rowsQ p)⟩ = true := by decide +kernel
  intro p hp
  exact ruD_ok (h p hp)
abbrev ahs : List Str := ["around", "halves"]
theorem dZ : ∀ so ∈ ahs, ∀ m, m = 2 ∨ m = 3 → Drawn ⟨so, m, [], .cell (rowsZ m)⟩ := by
  have h : ∀ so ∈ ahs, (ruD ⟨so, 2, [], .cell (rowsZ 2)⟩ && ruD ⟨so, 3, [], .cell (rowsZ 3)⟩) = true := by decide +kernel
  intro so hso m hm
  have h1 := h so hso
  rw [Bool.and_eq_true] at h1
  rcases hm with rfl | rfl
  · exact ruD_ok h1.1
  · exact ruD_ok h1.2
section
variable {P : Program} {w : World} {K : PySem.W.Frag} {mg : Str → Option Value} {base : Heap} {k : Nat} {X : Cx} {W : Option Addr} {Γ : En} {pos : Pos} {a b a0 a1 a2 a3 : Expr}
theorem ev_ruleK {x1 : Nat} {p : Ru → Prop} (r : Ru) (hp : p r) (h : Ea X K W Γ [a0, a1, a2, a3] [Dt K (.str r.so), Dt K (.int (r.m : Nat)), .fro (xtT K (nearD r.near)), Dt K (.list r.rows.D)]) : Ev X K W Γ (.Tuple [a0, a1, a2, a3] x1 pos) (.fro (exT p (Ru.tup K))) :=
  ev_exT (t := Ru.tup K) hp (ev_tupT (ruleTs K r.so r.m r.near r.rows.D) h)
/-- a list picked at by a draw -/
theorem ev_pickL {β : Type} (ys : List β) (enc : β → PyData) (c : Cok P w K mg base k X) (ha : Ev X K W Γ a (Dt K (.list (ys.map enc)))) (hb : Ev X K W Γ b (IX K (drw ys.length))) (hp : PlainIx b := by exact fun _ _ => rfl) : Ev X K W Γ (.Subscript a b pos) (.fro (exD K (fun y => y ∈ ys) enc)) :=
  ev_ixLX c ha hb (fun i hi => by
    obtain ⟨n, rfl, lt⟩ := drw_nat hi
    exact ⟨ys[n], List.getElem_mem lt, atI_nat (by rw [List.getElem?_map, List.getElem?_eq_getElem lt]; rfl)⟩) hp
end
abbrev Lvl (r : Ru) : Prop := Drawn r ∧ (r.m = 2 ∨ r.m = 3 ∨ r.m = 4)
section
variable {P : Program} {w : World} {K : PySem.W.Frag} {mg : Str → Option Value} {base : Heap}
theorem ok_lively (c : Ctx w K mg) : DfOk P w K mg base "_law_lively" 6 true [.bag] (.fro (exT Lvl (Ru.tup K))) := by
  obtain ⟨fd, F0⟩ := (d__law_lively c)
  refine mk_df ["_law_bag_here", "_law_way", "_law_many", "_law_signs_here", "_law_place", "_law_rolled", "_law_sign_here", "_law_sort", "_law_one", "_law_to", "_law_rows"] (ps := ["_law_bag_here"]) (N := noA) F0 (g__law_lively c) ⟨rfl, rfl, rfl, by decide +kernel, rfl, by decide +kernel, by decide +kernel⟩ (fun _ _ _ _ _ _ us hl => match us, hl with | [_], _ => rfl) rfl (by simp [noOwns, notOwn]) (fun W X hW k hX => ?_) (fun _ _ _ _ _ z => z.elim)
  obtain ⟨cdv, A, outer, s, H, E, rfl⟩ := hX
  refine srs_set 1 k (ev_call k (ok_take c 8 (by decide) (by decide)) (ea_cons (ev_var 0) (ea_cons ev_int ea_nil))) ?_
  refine srs_exD 1 fun wi hwi => ?_
  refine srs_set 2 k (ev_toX (q := fun m : Nat => (m = 2 ∨ m = 3) ∧ (wi = 3 → m = 2)) (enc2 := fun m => .int (m : Nat)) (ev_addX (pi := fun i => i = 2) (qi := fun i => (i = 0 ∨ i = 1) ∧ (wi = 3 → i = 0)) (ri := fun i => (i = 2 ∨ i = 3) ∧ (wi = 3 → i = 2)) (ev_IX ev_int rfl) (ev_mulX (pi := drw 2) (qi := fun i => i = if wi = 3 then 0 else 1) (ev_call k (ok_take c 2 (by decide) (by decide)) (ea_cons (ev_var 0) (ea_cons ev_int ea_nil))) (ev_IX (ev_intB (bv := !decide (wi = 3)) k (n_int c) (ea_cons (ev_neI k (ev_var 1) ev_int) ea_nil)) (by by_cases e : wi = 3 <;> simp [e])) (fun i j hi hj => ?_)) (fun i j hi hj => ?_)) fun i hi => ?_) ?_
  · have h1 := hi.1
    have h2 := hi.2
    refine ⟨by unfold CMul; left; omega, ?_⟩
    subst hj
    by_cases e : wi = 3
    · rw [if_pos e]; simp
    · rw [if_neg e]
      exact ⟨by omega, fun z => absurd z e⟩
  · subst hi
    obtain ⟨h1, h2⟩ := hj
    exact ⟨by omega, fun z => by have := h2 z; omega⟩
  · obtain ⟨h1, h2⟩ := hi
    exact ⟨i.toNat, ⟨by omega, fun z => by have := h2 z; omega⟩, by show PyData.int i = .int ((i.toNat : Nat) : Int); congr 1; omega⟩
  refine srs_exD 2 fun m hm => ?_
  obtain ⟨hm, h3⟩ := hm
  have m27 : m ≤ 27 := by omega
  have sl := sigs_len m27
  refine srs_set 3 k (ev_call k (ok_l_signs c m) (ea_cons (ev_var 2) ea_nil)) ?_
  refine srs_set 4 k (ev_pickL [0, 1, 2, 3, 4, 5, 6, 7] (fun p => .str (plc p)) k (ev_eq (ev_lst (ead_cons ev_str (ead_cons ev_str (ead_cons ev_str (ead_cons ev_str (ead_cons ev_str (ead_cons ev_str (ead_cons ev_str (ead_cons ev_str ead_nil))))))))) rfl) (ev_call k (ok_take c 8 (by decide) (by decide)) (ea_cons (ev_var 0) (ea_cons ev_int ea_nil)))) ?_
  refine srs_exD 4 fun p hp => ?_
  have p8 : p < 8 := by simp at hp; omega
  have ecut : cut (sigs m) (some 2) none = (sigs m).drop 2 := cut_from _ 2
  refine srs_set 5 k (ev_eq (ev_addS (l := [46] ++ (sigs m).drop 2) (m := [(sigs m).getD 1 0]) (ev_addS (l := [46]) (ev_txt [46]) (ev_eq (ev_slS (ev_var 3) (op_some ev_int) op_none (by omega)) (by rw [ecut])) (by simp; omega)) (ev_ixS (l := sigs m) (n := (sigs m).getD 1 0) (ev_var 3) ev_int (atI_nat (j := 1) (getD_at (by omega))) (by omega)) (by simp; omega)) (show _ = PyData.str (txt (rolled m)) by rfl)) ?_
  have zl : ((sigs m).zip (rolled m)).length ≤ 27 := by rw [List.length_zip]; omega
  refine srs_ifR (cv := decide (wi = 0)) (tst_eqI k (ev_var 1) ev_int) (fun _ => ?_) fun _ => ?_
  · refine srs_ret (ev_ruleK ⟨"around", m, [p], .cell (rowsA p m)⟩ ⟨dA p p8 m hm, by show m = 2 ∨ m = 3 ∨ m = 4; omega⟩ (ea_cons ev_str (ea_cons (ev_var 2) (ea_cons (ev_tupX (ds := [.str (plc p)]) (ead_cons (ev_var 4) ead_nil)) (ea_cons (ev_eq (ev_lcm [("_law_sign_here", 6)] (sigs m) (fun s => dat K (sgn s)) (fun s => crowD ⟨sigs m, [.at_ p [s]], s⟩) k (it_str (ev_var 3)) (fun s _ s0 H C cl fp => tg_name 6 k.blk) (fun s _ s0 H C cl fp => ev_tup (ead_cons (ev_var 3) (ead_cons (ev_tup (ead_cons (ev_tup (ead_cons ev_str (ead_cons (ev_var 4) (ead_cons (ev_var 6) ead_nil)))) ead_nil)) (ead_cons (ev_var 6) ead_nil)))) (by omega)) (by show _ = PyData.list ((rowsA p m).map crowD); unfold rowsA; rw [List.map_map]; rfl)) ea_nil)))))
  refine srs_ifR (cv := decide (wi = 1)) (tst_eqI k (ev_var 1) ev_int) (fun _ => ?_) fun _ => ?_
  · refine srs_set 7 k (ev_pickL ahs .str k (ev_lst (ead_cons ev_str (ead_cons ev_str ead_nil))) (ev_call k (ok_take c 2 (by decide) (by decide)) (ea_cons (ev_var 0) (ea_cons ev_int ea_nil)))) ?_
    refine srs_exD 7 fun so hso => ?_
    refine srs_ret (ev_ruleK ⟨so, m, [], .cell (rowsZ m)⟩ ⟨dZ so hso m hm, by show m = 2 ∨ m = 3 ∨ m = 4; omega⟩ (ea_cons (ev_var 7) (ea_cons (ev_var 2) (ea_cons (ev_tupX (ds := []) ead_nil) (ea_cons (ev_eq (ev_lcm [("_law_one", 8), ("_law_to", 9)] ((sigs m).zip (rolled m)) (fun z => dat K (.tuple [sgn z.1, sgn z.2])) (fun z => crowD ⟨[z.1], [], z.2⟩) k (it_zipS k (n_zip c) (ea_cons (ev_var 3) (ea_cons (ev_var 5) ea_nil))) (fun z _ s0 H C cl fp => tg_dat _ k.blk (tgs_cons (tg_name 8 k.blk) (tgs_cons (tg_name 9 k.blk) tgs_nil))) (fun z _ s0 H C cl fp => ev_tup (ead_cons (ev_var 8) (ead_cons (ev_tup ead_nil) (ead_cons (ev_var 9) ead_nil)))) (by omega)) (by show _ = PyData.list ((rowsZ m).map crowD); unfold rowsZ; rw [List.map_map]; rfl)) ea_nil)))))
  refine srs_ifR (cv := decide (wi = 2)) (tst_eqI k (ev_var 1) ev_int) (fun _ => ?_) fun _ => ?_
  · refine srs_lcm 10 [("_law_one", 8), ("_law_to", 9)] ((sigs m).zip (rolled m)) (fun z => dat K (.tuple [sgn z.1, sgn z.2])) (fun z => crowD ⟨sigs m, [.at_ p [z.1]], z.2⟩) k (it_zipS k (n_zip c) (ea_cons (ev_var 3) (ea_cons (ev_var 5) ea_nil))) (fun z _ s0 H C cl fp => tg_dat _ k.blk (tgs_cons (tg_name 8 k.blk) (tgs_cons (tg_name 9 k.blk) tgs_nil))) (fun z _ s0 H C cl fp => ev_tup (ead_cons (ev_var 3) (ead_cons (ev_tup (ead_cons (ev_tup (ead_cons ev_str (ead_cons (ev_var 4) (ead_cons (ev_var 8) ead_nil)))) ead_nil)) (ead_cons (ev_var 9) ead_nil)))) (by omega) ?_
    exact srs_ret (ev_ruleK ⟨"around", m, [p], .cell (rowsP p m)⟩ ⟨dP p p8 m hm, by show m = 2 ∨ m = 3 ∨ m = 4; omega⟩ (ea_cons ev_str (ea_cons (ev_var 2) (ea_cons (ev_tupX (ds := [.str (plc p)]) (ead_cons (ev_var 4) ead_nil)) (ea_cons (ev_eq (ev_var 10) (by show _ = PyData.list ((rowsP p m).map crowD); unfold rowsP; rw [List.map_map]; rfl)) ea_nil)))))
  refine srs_ifR (cv := decide (wi = 3)) (tst_eqI k (ev_var 1) ev_int) (fun z3 => ?_) fun _ => ?_
  · have m2 := h3 (of_decide_eq_true z3)
    subst m2
    refine srs_ret (ev_ruleX (so := "blocks") (m := 2) (near := []) (ea_cons ev_str (ea_cons (ev_var 2) (ea_cons (ev_tupX (ds := []) ead_nil) (ea_cons (ev_toX (q := fun ys => ∃ l : List BRow, Drawn ⟨"blocks", 2, [], .block l⟩ ∧ ys = l.map browD) (enc2 := .list) (ev_call k (ok_l_blocks c) (ea_cons (ev_var 0) (ea_cons (ev_var 3) ea_nil))) fun l hl => ⟨l.map browD, ⟨l, hl, rfl⟩, rfl⟩) ea_nil)))) fun ys hy => ?_)
    obtain ⟨l, hl, rfl⟩ := hy
    exact ⟨⟨"blocks", 2, [], .block l⟩, ⟨hl, .inl rfl⟩, rfl, rfl, rfl, rfl⟩
  refine srs_ifR (cv := decide (wi = 4)) (tst_eqI k (ev_var 1) ev_int) (fun _ => ?_) fun _ => ?_
  · refine srs_lcm 10 [("_law_one", 8), ("_law_to", 9)] ([97, 98, 99].zip [97, 99, 98]) (fun z => dat K (.tuple [sgn z.1, sgn z.2])) (fun z => crowD ⟨[46, 97, 98, 99], [.at_ p [z.1]], z.2⟩) k (it_zipS (l := [97, 98, 99]) (r := [97, 99, 98]) k (n_zip c) (ea_cons (ev_txt [97, 98, 99]) (ea_cons (ev_txt [97, 99, 98]) ea_nil))) (fun z _ s0 H C cl fp => tg_dat _ k.blk (tgs_cons (tg_name 8 k.blk) (tgs_cons (tg_name 9 k.blk) tgs_nil))) (fun z _ s0 H C cl fp => ev_tup (ead_cons (ev_txt [46, 97, 98, 99]) (ead_cons (ev_tup (ead_cons (ev_tup (ead_cons ev_str (ead_cons (ev_var 4) (ead_cons (ev_var 8) ead_nil)))) ead_nil)) (ead_cons (ev_var 9) ead_nil)))) (by decide) ?_
    refine srs_ret (ev_ruleK ⟨"around", 4, [p], .cell (rowsQ p)⟩ ⟨dQ p p8, .inr (.inr rfl)⟩ (ea_cons ev_str (ea_cons ev_int (ea_cons (ev_tupX (ds := [.str (plc p)]) (ead_cons (ev_var 4) ead_nil)) (ea_cons (ev_eq (ev_cat (es := [crowD ⟨[97, 98, 99], [], 46⟩]) c.nk k (ev_var 10) (ev_lst (ead_cons (ev_tup (ead_cons (ev_txt [97, 98, 99]) (ead_cons (ev_tup ead_nil) (ead_cons (ev_eq (ev_txt [46]) rfl) ead_nil)))) ead_nil)) (Nat.le_of_ble_eq_true rfl)) (by show _ = PyData.list ((rowsQ p).map crowD); unfold rowsQ; rw [List.map_append, List.map_map]; rfl)) ea_nil)))))
  exact srs_ret (ev_to (ev_call k (ok_l_rule c m (by omega) m27) (ea_cons (ev_var 0) (ea_cons (ev_pickL (["around", "halves", "blocks"] : List Str) .str k (ev_lst (ead_cons ev_str (ead_cons ev_str (ead_cons ev_str ead_nil)))) (ev_call k (ok_take c 3 (by decide) (by decide)) (ea_cons (ev_var 0) (ea_cons ev_int ea_nil)))) (ea_cons (ev_var 2) ea_nil)))) fun H0 G H v z => by
    obtain ⟨r, hr, z⟩ := xt_get z
    exact xt_of (t := Ru.tup K) ⟨hr.1, by rw [hr.2]; omega⟩ z)
end
end Cs

set_option Elab.async false
set_option linter.all false
set_option autoImplicit false
set_option maxRecDepth 100000
set_option maxHeartbeats 4000000
/-! What is refused. -/
namespace Cs
open PySem PySem.Spec PyProof.Rows L2
abbrev mostK : Str := "most"
def spTM (C : Addr) : Sp := fun vs H Q _ => ∃ (a : Addr) (v : V), vs = [.ref a, v] ∧ H a = some (exo a C none) ∧ ∀ d, H d = none → d ≠ a → Q .non (upd (upd H d (exd d [(mostK, v)])) a (exo a C (some d)))
section
variable {P : Program} {w : World} {K : PySem.W.Frag} {mg : Str → Option Value} {base : Heap}
theorem ok_TM_init (c : Ctx w K mg) : ∃ fd, Binds K fd ["self", "most"] [] ∧ FnOk P w K mg base CX0 1 (He.ma K (He.ga K "TooMany") "__init__") fd ["self", "most"] (spTM (He.ga K "TooMany")) := by
  obtain ⟨fd, F⟩ := dm_TooMany_init c
  have x := c.ex
  refine ⟨fd, F.bindsN (fun _ _ _ _ _ _ us hl => match us, hl with | [_, _], _ => rfl), F.ok (N := ["self", "most"]) ⟨rfl, rfl, rfl, by decide +kernel, rfl, by decide +kernel, by decide +kernel⟩ (fun vs H Q E q => ?_) (fun cdv A outer s H vs Q E hr q => ?_)⟩
  · obtain ⟨a, v, rfl, _⟩ := q; rfl
  · obtain ⟨a, v, rfl, ha, k⟩ := q
    refine ⟨_, pss_cons (ps_expr (pe_cellinit (C := He.ga K "CellError") x.cell rfl (g_CellError c) (pa_cons (pe_var (i := 0) rfl (.inl rfl)) (pa_cons pe_str pa_nil)))) (pss_one (ps_ost (pe_var (i := 0) rfl (.inl rfl)) (pe_var (i := 1) rfl (.inl rfl)))), ?_⟩
    refine ⟨.ref a, rfl, a, He.ga K "TooMany", [_], rfl, by decide, x.oex, ha, v, rfl, .ref a, rfl, a, He.ga K "TooMany", rfl, x.oex, x.most, .inl ⟨ha, fun d hd hda => k d hd hda⟩⟩
section
variable {X : Cx} {bmB : List Value} {C : Addr} {B newId initId : String} {x : Str} {p pos : Pos}
/-- X() -/
theorem pmk_own0 (F : ExcBaseFacts B newId initId bmB) (q : PySem.W.excIn X.K C bmB newId = true) (gC : X.mg x = some (.ref C)) (kC : PySem.W.keepIn X.K (.ref C) = true) (r : Raises X (.ref C)) (hg : Gl X x) (hdb : (x == ("__debug__" : Str)) = false := by decide) :
    PMk X (.Call (.Name x p) [] [] pos) (fun _ H Q => Q (.ref C) none H) := by
  intro pins s σ H Q I h
  refine wpAny_Call_Name_kw (ld_glob I hg gC (PySem.W.callWith_K0 I.kIn kC ?_) hdb)
  obtain ⟨bm, N, nm, qn, bs, hdct, sn, sub, ab, col, dd, k0, k1, k2, k3, k5, mN, hC, hN, hni, T⟩ := exc_obj I.kIn q
  exact wpAny_call_exc_subT F T hC hN hni (fun h' e hm => mk_of I hm r h (I.hok.gone hm.new)) (by show 0 ≤ sizeLine; exact Nat.zero_le _)
end
theorem nmS_nd : (["rule", "wide", "high", "most", "signs", "many", "k", "found", "text", "rows", "paper"] : List Str).Nodup := by decide +kernel
/-! ### a def that raises -/
def cRs (K : PySem.W.Frag) (W : Option Addr) (A : As) (Φ : Hp → Hp → Prop) : TS := fun D σ H => ∃ H0 G0 G, Step K W G0 H0 G H ∧ A H0 G H σ ∧ Φ G0 H0
abbrev noE : Ent := .fro fun _ _ => False
section
variable {X : Cx} {W : Option Addr} {st : Stmt} {rest : List Stmt} {A M : As} {Φ : Hp → Hp → Prop} {Γ : En} {a e : Expr} {p1 p2 : Pos} {Wx : WX} {t : L2.St → Hp → XK → Prop}
theorem pss_skip (h1 : Sr X K W st A M noA noA noE) (h2 : PSs X rest (cRs K W M Φ)) : PSs X (st :: rest) (cRs K W A Φ) :=
  pssI (pss_cons h1 h2) fun D σ H ⟨H0, G0, G, s, q, φ⟩ => ⟨H0, G0, G, s, q, fun σ' H' G' s' m => ⟨H0, G0, G', s', m, φ⟩, fun v H' G' s' q => (up.now (t := fun _ _ => False) (v := v) q : False).elim, fun _ _ _ _ z => z.elim, fun _ _ _ _ z => z.elim⟩
theorem pss_raiseIf (hc : X.calm = true) (ht : Tst X K W Γ a (fun b => b = true)) (tk : Takes X Wx) (he : PMk X e t) (hΦ : ∀ G0 H0 G H σ, Step K W G0 H0 G H → EnvOk W H0 G H σ Γ → Φ G0 H0 → t σ H fun cls d H' => Wx cls d σ H') : PSs X (.If a [.Raise (some e) none p1] [] p2 :: rest) (cRs K W (envA W Γ) Φ) :=
  pssI (pss_cons (ps_if ht (pss_one (ps_raise hc tk he)) (pss_never (sts := []))) (pss_never (sts := rest))) fun D σ H ⟨H0, G0, G, s, en, φ⟩ => ⟨H0, G, s.frm, en, fun b H' G' s' q => by
    subst q
    exact iteT (hΦ G0 H0 G' H' σ (s.trans s') (en.step s') φ)⟩
end
/-- what is promised of a def that raises: of an end Cl -/
def spX (K : PySem.W.Frag) (as : List Ent) (Cl : XK → Hp → Prop) : Sp := fun vs H Q E => ∃ G, Frm K none G H ∧ EntsOk none H G H vs as ∧ ∀ H' G', Step K none G H G' H' → Cl E H'
def clR (R : Addr) : XK → Hp → Prop := fun E H => E (.ref R) none H
def clT (T : Addr) : XK → Hp → Prop := fun E H => ∀ d, H d = none → E (.ref T) (some d) (upd H d (.xd [(mostK, .int 256)]))
abbrev SeaX (P : Program) (w : World) (K : PySem.W.Frag) (mg : Str → Option Value) (base : Heap) (as : List Ent) (Cl : XK → Hp → Prop) : Prop :=
  ∃ fd, Binds K fd ["rule", "wide", "high", "most"] [] ∧ FnOk P w K mg base (CX P w) 7 (He.ga K "search") fd ["rule", "wide", "high", "most"] (spX K as Cl)
theorem ok_search_restless (c : Ctx w K mg) (r : Ru) (h : r.Ok) (hk : keepsG r = false) (wd hg most : Int) : SeaX P w K mg base [r.ent K, Dt K (.int wd), Dt K (.int hg), Dt K (.int most)] (clR (He.ga K "Restless")) := by
  obtain ⟨fd, F⟩ := d_search c
  have x := c.ex
  refine ⟨fd, F.bindsN (fun _ _ _ _ _ _ us hl => match us, hl with | [_, _, _, _], _ => rfl), F.ok (N := ["rule", "wide", "high", "most", "signs", "many", "k", "found", "text", "rows", "paper"]) ⟨rfl, rfl, rfl, by decide +kernel, rfl, by decide +kernel, by decide +kernel⟩ (fun vs H Q E q => ?_) (fun cdv A outer s H vs Q E hr q => ?_)⟩
  · obtain ⟨G, _, q, _⟩ := q
    exact q.length
  · obtain ⟨G, f, q, kk⟩ := q
    have k : Cok P w K mg base 6 (cxOf (CX P w) P w K mg base ["rule", "wide", "high", "most", "signs", "many", "k", "found", "text", "rows", "paper"] "search" (defScope (top 72)) (He.ga K "search") cdv A outer s H E) := ⟨rfl, rfl, rfl, rfl, rfl, hr, rfl, nmS_nd⟩
    refine ⟨_, pss_raiseIf (Γ := initE 11 [r.ent K, Dt K (.int wd), Dt K (.int hg), Dt K (.int most)]) (Φ := fun G0 H0 => ∀ H' G', Step K none G0 H0 G' H' → clR (He.ga K "Restless") E H') rfl (tst_eq (tst_not (tst_val (ev_meth0 k (ok_R_keeps c r h) (ev_var 0) (hl := rfl)))) (by rw [hk]; rfl)) (takes_of rfl rfl rfl rfl) (pmk_own0 PySem.F.excBase_ValueError x.rex (g_Restless c) x.rkp (raises_own x.rsub x.rty) rfl) (fun G0 H0 G H σ st _ φ => φ H G st), ?_⟩
    exact ⟨H, G, G, Step.refl f, env_init (ps := ["rule", "wide", "high", "most"]) (by rfl) rfl q (by simp [noOwns, notOwn]), kk⟩
theorem upd_del {H1 : Hp} {a d : Addr} {u v z y : HO} (ha : H1 a = none) (hd : d ≠ a) : upd (del (upd (upd (upd H1 a u) d v) a z) a) d y = upd H1 d y := by
  funext b
  by_cases e : b = d
  · subst e; rw [upd_same, upd_same]
  · rw [upd_ne e, upd_ne e]
    by_cases e2 : b = a
    · subst e2; rw [del_same, ha]
    · rw [del_ne e2, upd_ne e2, upd_ne e, upd_ne e2]
theorem ok_search_many (c : Ctx w K mg) (r : Ru) (h : r.Ok) (hk : keepsG r = true) (wd hg : Nat) (most : Int) (w1 : wd ≤ 30) (h1 : hg ≤ 30) (big : 256 < (sigs r.m).length ^ (wd * hg)) : SeaX P w K mg base [r.ent K, Dt K (.int (wd : Nat)), Dt K (.int (hg : Nat)), Dt K (.int most)] (clT (He.ga K "TooMany")) := by
  obtain ⟨fd, F⟩ := d_search c
  have x := c.ex
  refine ⟨fd, F.bindsN (fun _ _ _ _ _ _ us hl => match us, hl with | [_, _, _, _], _ => rfl), F.ok (N := ["rule", "wide", "high", "most", "signs", "many", "k", "found", "text", "rows", "paper"]) ⟨rfl, rfl, rfl, by decide +kernel, rfl, by decide +kernel, by decide +kernel⟩ (fun vs H Q E q => ?_) (fun cdv A outer s H vs Q E hr q => ?_)⟩
  · obtain ⟨G, _, q, _⟩ := q
    exact q.length
  · obtain ⟨G, f, q, kk⟩ := q
    have k : Cok P w K mg base 6 (cxOf (CX P w) P w K mg base ["rule", "wide", "high", "most", "signs", "many", "k", "found", "text", "rows", "paper"] "search" (defScope (top 72)) (He.ga K "search") cdv A outer s H E) := ⟨rfl, rfl, rfl, rfl, rfl, hr, rfl, nmS_nd⟩
    have area : wd * hg ≤ 900 := Nat.le_trans (Nat.mul_le_mul w1 h1) (by decide)
    have sg27 : (sigs r.m).length ≤ 27 := by
      unfold sigs
      rw [List.length_take]
      exact Nat.le_trans (Nat.min_le_right _ _) (by decide)
    have eprod : ((wd : Int) * (hg : Int)) = ((wd * hg : Nat) : Int) := by rw [Int.natCast_mul]
    let J : List Nat → En := fun pre => [some (r.ent K), some (Dt K (.int (wd : Nat))), some (Dt K (.int (hg : Nat))), some (Dt K (.int most)), some (Dt K (.str (txt (sigs r.m)))), some (Dt K (.int (((sigs r.m).length ^ pre.length : Nat) : Int))), none, none, none, none, none]
    let Γ5 : En := [some (r.ent K), some (Dt K (.int (wd : Nat))), some (Dt K (.int (hg : Nat))), some (Dt K (.int most)), some (Dt K (.str (txt (sigs r.m)))), some (Dt K (.int (((sigs r.m).length ^ (wd * hg) : Nat) : Int))), none, none, none, none, none]
    have eJ : J (List.range (wd * hg)) = Γ5 := by unfold J; rw [List.length_range]
    obtain ⟨fi, bT, FT⟩ := ok_TM_init (P := P) (base := base) c
    refine ⟨_, pss_skip (M := envA none (initE 11 [r.ent K, Dt K (.int (wd : Nat)), Dt K (.int (hg : Nat)), Dt K (.int most)])) (sr_if (cv := false) (tst_eq (tst_not (tst_val (ev_meth0 k (ok_R_keeps c r h) (ev_var 0) (hl := rfl)))) (by rw [hk]; rfl)) (fun z => nomatch z) (fun _ => srs_end))
      (pss_skip (sr_set 4 k (ev_meth0 k (ok_R_signs c r.so r.m r.near r.rows.D) (ev_var 0) (hl := rfl))) (pss_skip (sr_set 5 k ev_int)
      (pss_skip (M := envA none Γ5) (sr_for (List.range (wd * hg)) (fun i => dat K (.int (i : Nat))) J (fun pre i => (J pre).set 6 (some (Dt K (.int (i : Nat))))) k (it_range1 k (n_range c) (ea_cons (ev_eq (ev_mul (ev_var 1) (ev_var 2) (by unfold CMul; left; omega)) (congrArg PyData.int eprod)) ea_nil)) (Sub.refl _) (fun pre i post _ => tg_name 6 k) (fun pre i post e => ?_) (fun _ _ _ _ z => by rw [eJ] at z; exact z) (hp := passes_of rfl))
      (pss_raiseIf (t := tMkO (He.ga K "TooMany") (spTM (He.ga K "TooMany")) [] (cA K none Γ5 [Dt K (.int 256)])) (Γ := Γ5) (Φ := fun G0 H0 => ∀ H' G', Step K none G0 H0 G' H' → clT (He.ga K "TooMany") E H') rfl (tst_eq (tst_cmp1 op_gt rd_gt (ev_var 5) (ev_gint k (i_MOST_PICTURES c))) (decide_eq_true (by omega))) (takes_of rfl rfl rfl rfl)
        (pmk_oex x.oex x.ini x.fn FT (hr.mono (by decide)) bT .nil pass0 (by rfl) (g_TooMany c) (ea_cons (ev_gint k (i_MOST_PICTURES c)) ea_nil)) (fun G0 H0 G H σ st en φ => ?_))))), ?_⟩
    · refine srs_cons (sr_aug 5 k iop_mul (rd_I (i := (((sigs r.m).length ^ pre.length : Nat) : Int)) (j := ((sigs r.m).length : Nat)) (by unfold CMul; right; omega) (fun G => .int _)) (ev_lenS k (n_len c) (ea_cons (ev_var 4) ea_nil) (by omega))) ?_
      refine srs_nil fun _ _ _ _ z => z.sub ?_
      refine ⟨.inr rfl, .inr rfl, .inr rfl, .inr rfl, .inr rfl, .inr ?_, .inl rfl, .inr rfl, .inr rfl, .inr rfl, .inr rfl, trivial⟩
      rw [List.length_append]
      show some (Dt K (.int _)) = some (Dt K (.int _))
      rw [show pre.length + [i].length = pre.length + 1 from rfl, Nat.pow_succ, Int.natCast_mul]
    · refine ⟨H0, G, st.frm, en, fun vs H1 G1 s1 q1 => ?_⟩
      obtain ⟨v, rfl, q2⟩ := args1 q1
      refine ⟨by show 1 ≤ 1000; decide, fun a ha => ⟨a, v, rfl, upd_same, fun d hd hda => ⟨rfl, d, [(mostK, v)], upd_same, ?_, ?_, ?_⟩⟩⟩
      · rw [upd_ne hda, upd_same]
      · rw [upd_ne hda] at hd; exact hd
      · rw [upd_ne hda] at hd
        rw [upd_del ha hda, dt_int q2]
        exact φ H1 G1 (st.trans s1) d hd
    · exact ⟨H, G, G, Step.refl f, env_init (ps := ["rule", "wide", "high", "most"]) (by rfl) rfl q (by simp [noOwns, notOwn]), kk⟩
end
end Cs

set_option Elab.async false
set_option linter.all false
set_option autoImplicit false
set_option maxRecDepth 100000
set_option maxHeartbeats 4000000
/-! The plain law, part a: sorted cells. -/
namespace Cs
open PySem PySem.Spec PyProof.Rows L2
def lt3 (a b : Cell3) : Prop := a.1 < b.1 ∨ (a.1 = b.1 ∧ (a.2.1 < b.2.1 ∨ (a.2.1 = b.2.1 ∧ a.2.2 < b.2.2)))
instance (a b : Cell3) : Decidable (lt3 a b) := by unfold lt3; infer_instance
theorem dataLt_c3 (a b : Cell3) : PySem.W.dataLt (c3D a) (c3D b) = decide (lt3 a b) := by
  unfold c3D sgn
  rw [PySem.W.dataLt_tuple, PySem.W.dataLt_cons (by simp [PySem.W.alike]), PySem.W.dataLt_cons (by simp [PySem.W.alike]), PySem.W.dataLt_cons (by simp [PySem.W.alike]), PySem.W.dataLt_int, PySem.W.dataLt_int, PySem.W.dataLt_str]
  have e : PyProof.Rows.lexLt PyProof.Rows.itemOrd (PySem.W.keyToksAll []) (PySem.W.keyToksAll []) = false := PyProof.Rows.lex_irrefl _
  rw [e]
  have es : decide ((txt [a.2.2]).cps.toList < (txt [b.2.2]).cps.toList) = decide (a.2.2 < b.2.2) := lt_sing _ _
  rw [es]
  have e1 : PyData.eqv (.int a.1) (.int b.1) = decide (a.1 = b.1) := by simp only [PyData.eqv]; exact Bool.beq_eq_decide_eq _ _
  have e2 : PyData.eqv (.int a.2.1) (.int b.2.1) = decide (a.2.1 = b.2.1) := by simp only [PyData.eqv]; exact Bool.beq_eq_decide_eq _ _
  have e3 : PyData.eqv (.str (txt [a.2.2])) (.str (txt [b.2.2])) = decide (a.2.2 = b.2.2) := by
    simp only [PyData.eqv]
    by_cases h : a.2.2 = b.2.2
    · rw [h]; simp
    · have : txt [a.2.2] ≠ txt [b.2.2] := fun z => h (by have := txt_inj z; simpa using this)
      simp [h, this]
  rw [e1, e2, e3]
  unfold lt3
  by_cases h1 : a.1 = b.1
  · by_cases h2 : a.2.1 = b.2.1
    · by_cases h3 : a.2.2 = b.2.2
      · simp [h1, h2, h3]
      · simp [h1, h2, h3]
    · simp [h1, h2]
  · simp [h1]
def le3 (a b : Cell3) : Bool := !decide (lt3 b a)
theorem dataLe_c3 : PySem.W.dataLe false c3D = le3 := by
  funext a b
  show (!PySem.W.dataLt (c3D b) (c3D a)) = _
  rw [dataLt_c3]; rfl
theorem le3_iff (a b : Cell3) : le3 a b = true ↔ ¬ (b.1 < a.1 ∨ (b.1 = a.1 ∧ (b.2.1 < a.2.1 ∨ (b.2.1 = a.2.1 ∧ b.2.2 < a.2.2)))) := by
  unfold le3
  rw [Bool.not_eq_true', decide_eq_false_iff_not]
  exact Iff.rfl
theorem le3_trans (a b c : Cell3) (h1 : le3 a b = true) (h2 : le3 b c = true) : le3 a c = true := by
  rw [le3_iff] at *
  omega
theorem le3_total (a b : Cell3) : (le3 a b || le3 b a) = true := by
  rw [Bool.or_eq_true, le3_iff, le3_iff]
  omega
theorem le3_anti (a b : Cell3) (h1 : le3 a b = true) (h2 : le3 b a = true) : a = b := by
  rw [le3_iff] at *
  exact Prod.ext (by omega) (Prod.ext (by omega) (by omega))
theorem sorted_eq {α : Type} {le : α → α → Bool} (anti : ∀ a b, le a b = true → le b a = true → a = b) : ∀ {l m : List α}, l.Perm m → l.Pairwise (fun a b => le a b = true) → m.Pairwise (fun a b => le a b = true) → l = m
  | [], m, h, _, _ => h.nil_eq
  | a :: l, [], h, _, _ => absurd h.symm.nil_eq (by simp)
  | a :: l, b :: m, h, h1, h2 => by
    rw [List.pairwise_cons] at h1 h2
    have e : a = b := by
      have ha : a ∈ b :: m := h.mem_iff.mp (List.mem_cons_self ..)
      have hb : b ∈ a :: l := h.mem_iff.mpr (List.mem_cons_self ..)
      rcases List.mem_cons.mp ha with e | ha
      · exact e
      · rcases List.mem_cons.mp hb with e | hb
        · exact e.symm
        · exact anti a b (h1.1 b hb) (h2.1 a ha)
    subst e
    rw [sorted_eq anti (List.Perm.cons_inv h) h1.2 h2.2]
theorem srt_pw (l : List Cell3) : (srt l).Pairwise fun a b => le3 a b = true := by
  unfold srt
  rw [dataLe_c3]
  exact List.pairwise_mergeSort le3_trans le3_total l
theorem srt_perm (l : List Cell3) : (srt l).Perm l := List.mergeSort_perm _ _
theorem srt_eq {l m : List Cell3} (h : l.Perm m) : srt l = srt m := sorted_eq le3_anti (((srt_perm l).trans h).trans (srt_perm m).symm) (srt_pw l) (srt_pw m)
theorem srt_srt (l : List Cell3) : srt (srt l) = srt l := srt_eq (srt_perm l)
end Cs

set_option Elab.async false
set_option linter.all false
set_option autoImplicit false
set_option maxRecDepth 100000
set_option maxHeartbeats 4000000
/-! The plain law, part b: the stages are the same. -/
namespace Cs
open PySem PySem.Spec PyProof.Rows L2
theorem mem_addS {l : List Spot} {q p : Spot} : p ∈ addS l q ↔ p ∈ l ∨ p = q := by
  unfold addS
  split
  · rename_i h
    constructor
    · exact Or.inl
    · rintro (h2 | rfl)
      · exact h2
      · exact h
  · simp
theorem mem_nb1 {g : Spot → Nat → Spot} {q p : Spot} : ∀ {ks : List Nat} {l : List Spot}, p ∈ nb1 g q l ks ↔ p ∈ l ∨ ∃ k ∈ ks, p = g q k
  | [], l => by simp [nb1]
  | k :: ks, l => by
    have ih := mem_nb1 (g := g) (q := q) (p := p) (ks := ks) (l := addS l (g q k))
    show p ∈ nb1 g q (addS l (g q k)) ks ↔ _
    rw [ih, mem_addS]
    simp [or_assoc]
theorem mem_nbs {g : Spot → Nat → Spot} {qs : List Spot} {p : Spot} : p ∈ nbs g qs ↔ ∃ q ∈ qs, ∃ k, k < 9 ∧ p = g q k := by
  have key : ∀ (qs l : List Spot), p ∈ qs.foldl (fun l q => nb1 g q l (List.range 9)) l ↔ p ∈ l ∨ ∃ q ∈ qs, ∃ k, k < 9 ∧ p = g q k := by
    intro qs
    induction qs with
    | nil => intro l; simp
    | cons q qs ih =>
      intro l
      rw [List.foldl_cons, ih, mem_nb1]
      simp only [List.mem_range, List.mem_cons, exists_eq_or_imp, or_assoc]
  have h := key qs []
  simp only [List.not_mem_nil, false_or] at h
  exact h
theorem mem_gS {q p : Spot} : (∃ k, k < 9 ∧ p = gS q k) ↔ (q.1 - 1 ≤ p.1 ∧ p.1 ≤ q.1 + 1 ∧ q.2 - 1 ≤ p.2 ∧ p.2 ≤ q.2 + 1) := by
  constructor
  · rintro ⟨k, hk, rfl⟩
    unfold gS
    dsimp only
    omega
  · rintro ⟨h1, h2, h3, h4⟩
    refine ⟨((p.1 - q.1 + 1) * 3 + (p.2 - q.2 + 1)).toNat, by omega, ?_⟩
    unfold gS
    refine Prod.ext ?_ ?_ <;> dsimp only <;> omega
theorem mem_gL {q p : Spot} : (∃ k, k < 9 ∧ p = gL q k) ↔ (q.1 - 1 ≤ p.1 ∧ p.1 ≤ q.1 + 1 ∧ q.2 - 1 ≤ p.2 ∧ p.2 ≤ q.2 + 1) := by
  constructor
  · rintro ⟨k, hk, rfl⟩
    unfold gL
    dsimp only
    omega
  · rintro ⟨h1, h2, h3, h4⟩
    refine ⟨((p.2 - q.2 + 1) * 3 + (p.1 - q.1 + 1)).toNat, by omega, ?_⟩
    unfold gL
    refine Prod.ext ?_ ?_ <;> dsimp only <;> omega
theorem nbs_perm {qs qs2 : List Spot} (h : qs.Perm qs2) : (nbs gS qs).Perm (nbs gL qs2) := by
  refine (List.perm_ext_iff_of_nodup (nbs_nd qs) (nbs_nd qs2)).mpr fun p => ?_
  rw [mem_nbs, mem_nbs]
  constructor
  · rintro ⟨q, hq, z⟩
    exact ⟨q, h.mem_iff.mp hq, mem_gL.mpr (mem_gS.mp z)⟩
  · rintro ⟨q, hq, z⟩
    exact ⟨q, h.mem_iff.mpr hq, mem_gS.mpr (mem_gL.mp z)⟩
theorem lk_mem {cs : Cells} {q : Spot} {n : Nat} (h : lk cs q = some n) : (q, n) ∈ cs := by
  unfold lk at h
  cases e : cs.find? fun p => decide (p.1 = q) with
  | none => rw [e] at h; cases h
  | some z =>
    rw [e] at h
    have hm := List.mem_of_find?_eq_some e
    have hp : z.1 = q := by
      have h3 := List.find?_some e
      simpa using h3
    cases h
    subst hp
    exact hm
theorem lk_none {cs : Cells} {q : Spot} (h : lk cs q = none) : ∀ z ∈ cs, z.1 ≠ q := by
  intro z hz e
  unfold lk at h
  rw [Option.map_eq_none_iff, List.find?_eq_none] at h
  exact h z hz (decide_eq_true e)
theorem lk_perm {A B : Cells} (h : A.Perm B) (nd : (A.map (·.1)).Nodup) (q : Spot) : lk A q = lk B q := by
  have ndB : (B.map (·.1)).Nodup := (h.map _).nodup_iff.mp nd
  cases e : lk A q with
  | some n =>
    have := lk_of ndB (h.mem_iff.mp (lk_mem e))
    exact this.symm
  | none =>
    cases e2 : lk B q with
    | none => rfl
    | some n => exact absurd rfl (lk_none e _ (h.mem_iff.mpr (lk_mem e2)))
theorem at_perm {A B : Cells} (h : A.Perm B) (nd : (A.map (·.1)).Nodup) : at_ A = at_ B := by
  funext x y
  unfold at_
  rw [lk_perm h nd]
theorem behind_at {A B : Cells} (e : at_ A = at_ B) (r : Ru) : behind r A = behind r B := by
  funext t x y
  unfold behind
  cases r.rows with
  | block l => dsimp only; unfold behB; rw [e]
  | cell l => dsimp only; unfold beside; rw [e]
theorem step_perm (r : Ru) {A B : Cells} (h : A.Perm B) (nd : (A.map (·.1)).Nodup) (t : Int) : (stepC r A t).Perm (stepL r B t) := by
  unfold stepC stepL keptL toldC
  rw [behind_at (at_perm h nd) r]
  exact ((nbs_perm (h.map (·.1))).map _).filter _
theorem stepC_nd {r : Ru} {cs : Cells} {t : Int} : ((stepC r cs t).map (·.1)).Nodup := by
  have h := told_keys r cs t
  have n := nbs_nd (g := gS) (cs.map (·.1))
  rw [← h] at n
  unfold stepC
  exact n.sublist (List.Sublist.map _ List.filter_sublist)
theorem cells_cl3 (A : Cells) : cellsC (cl3 A) = A := by
  unfold cellsC cl3 spot3
  rw [List.map_map]
  exact List.map_id' _
theorem cl3_cells (l : List Cell3) : cl3 (cellsC l) = l := by
  unfold cellsC cl3 spot3
  rw [List.map_map]
  exact List.map_id' _
theorem stage_eq (r : Ru) (l : List Cell3) (hs : srt l = l) (nd : (l.map spot3).Nodup) : ∀ n, lawSt r l n = srt (cl3 (stgC r l n)) ∧ ((stgC r l n).map (·.1)).Nodup
  | 0 => by
    refine ⟨?_, ?_⟩
    · show l = srt (cl3 (cellsC l))
      rw [cl3_cells, hs]
    · show ((cellsC l).map (·.1)).Nodup
      unfold cellsC
      rw [List.map_map]
      exact nd
  | n + 1 => by
    obtain ⟨ih, ndn⟩ := stage_eq r l hs nd n
    refine ⟨?_, stepC_nd⟩
    show srt (cl3 (stepL r (cellsC (lawSt r l n)) (n : Nat))) = srt (cl3 (stepC r (stgC r l n) (n : Nat)))
    rw [ih]
    have p : (stgC r l n).Perm (cellsC (srt (cl3 (stgC r l n)))) := by
      have q := (srt_perm (cl3 (stgC r l n))).symm
      have q2 := q.map fun z => (spot3 z, z.2.2)
      have e : (cl3 (stgC r l n)).map (fun z => (spot3 z, z.2.2)) = stgC r l n := cells_cl3 _
      rw [e] at q2
      exact q2
    exact srt_eq ((step_perm r p ndn (n : Nat)).map _).symm
theorem stg3_eq (r : Ru) (l : List Cell3) (hs : srt l = l) (nd : (l.map spot3).Nodup) (n : Nat) : stg3 r l n = lawSt r l n := (stage_eq r l hs nd n).1.symm
end Cs

set_option Elab.async false
set_option linter.all false
set_option autoImplicit false
set_option maxRecDepth 100000
set_option maxHeartbeats 4000000
/-! The plain law, part c: the papers are the same. -/
namespace Cs
open PySem PySem.Spec PyProof.Rows L2
section
variable {r : Ru} {l : List Cell3} {most n : Nat}
theorem stages_at (h : n ≤ most) : (lawStages r l most).getD n [] = lawSt r l n := by
  unfold lawStages
  rw [List.getD_eq_getElem?_getD, List.getElem?_map, List.getElem?_range (by omega)]
  rfl
theorem stages_take (h : n ≤ most) : (lawStages r l most).take (n + 1) = (List.range (n + 1)).map (lawSt r l) := by
  unfold lawStages
  rw [← List.map_take, List.take_range, Nat.min_eq_left (by omega)]
theorem gone_on (h : lawSt r l n = []) : lawSt r l (n + 1) = [] := by
  show laterL r (lawSt r l n) (n : Nat) = []
  rw [h]
  show srt (cl3 (stepL r (cellsC []) (n : Nat))) = []
  have e : stepL r (cellsC []) (n : Nat) = [] := rfl
  rw [e]
  exact List.length_eq_zero_iff.mp ((srt_perm []).length_eq)
theorem gone_far (h : lawSt r l n = []) : ∀ {m : Nat}, n ≤ m → lawSt r l m = []
  | 0, q => by
    have : n = 0 := by omega
    rw [← this]; exact h
  | m + 1, q => by
    by_cases e : n = m + 1
    · rw [← e]; exact h
    · exact gone_on (gone_far h (by omega))
theorem word_eq (hst : ∀ i, stg3 r l i = lawSt r l i) (h : n + 1 ≤ most) {q : Int × Int} (hq : shift (lawSt r l 0) (lawSt r l (n + 1)) = some q) : wordOf (seenL r l (n + 1)) q.1 q.2 = lawWord (lawSt r l 0) (lawStages r l most) (n + 1) q := by
  have es : seenL r l (n + 1) = (List.range (n + 2)).map (lawSt r l) := by
    unfold seenL
    exact List.map_congr_left fun i _ => hst i
  have eh : (seenL r l (n + 1)).headD [] = lawSt r l 0 := by
    rw [es, List.range_succ_eq_map]; rfl
  unfold wordOf lawWord
  rw [eh]
  by_cases e : q = (0, 0)
  · rw [if_neg (by rw [e]; simp), if_pos e]
    have e2 : lawSt r l (n + 1) = lawSt r l 0 := by
      obtain ⟨z, a, y, c, e1, e3, hl, hm, _⟩ := shift_some hq
      rw [e] at hm
      rw [e1, e3, ← hm]
      have : (z :: a).map (mv3 0 0) = (z :: a).map id := List.map_congr_left fun u _ => by
        unfold mv3
        simp
      show (z :: a).map (mv3 0 0) = _
      rw [this, List.map_id]
    have iff1 : ((seenL r l (n + 1)).all fun m => decide (m = lawSt r l 0)) = true ↔ (((lawStages r l most).take (n + 1)).filter fun m => decide (m = lawSt r l 0)).length = n + 1 := by
      rw [stages_take (by omega), es]
      have hlen : ((List.range (n + 1)).map (lawSt r l)).length = n + 1 := by rw [List.length_map, List.length_range]
      constructor
      · intro ha
        rw [List.all_eq_true] at ha
        have : (((List.range (n + 1)).map (lawSt r l)).filter fun m => decide (m = lawSt r l 0)) = (List.range (n + 1)).map (lawSt r l) := List.filter_eq_self.mpr fun m hm => by
          obtain ⟨i, hi, rfl⟩ := List.mem_map.mp hm
          exact ha _ (List.mem_map.mpr ⟨i, List.mem_range.mpr (by have := List.mem_range.mp hi; omega), rfl⟩)
        rw [this, hlen]
      · intro hf
        have hf2 := hf.trans hlen.symm
        rw [List.length_filter_eq_length_iff] at hf2
        rw [List.all_eq_true]
        intro m hm
        obtain ⟨i, hi, rfl⟩ := List.mem_map.mp hm
        have hi2 := List.mem_range.mp hi
        by_cases ei : i = n + 1
        · rw [ei, e2]; exact decide_eq_true rfl
        · exact hf2 _ (List.mem_map.mpr ⟨i, List.mem_range.mpr (by omega), rfl⟩)
    by_cases c : ((seenL r l (n + 1)).all fun m => decide (m = lawSt r l 0)) = true
    · rw [if_pos c, if_pos (iff1.mp c)]
    · rw [if_neg c, if_neg (fun z => c (iff1.mpr z))]
  · rw [if_pos (show (q.1, q.2) ≠ ((0, 0) : Int × Int) from e), if_neg e]
theorem found_eq (hst : ∀ i, stg3 r l i = lawSt r l i) (h : n + 1 ≤ most) : foundD r l (n + 1) = if lawHit r.so (lawSt r l 0) ((lawStages r l most).getD (n + 1) []) (1 + (n : Nat)) then lawAt r.so (lawSt r l 0) (lawStages r l most) n else .none := by
  have es : seenL r l (n + 1) = (List.range (n + 2)).map (lawSt r l) := by
    unfold seenL
    exact List.map_congr_left fun i _ => hst i
  have eh : (seenL r l (n + 1)).headD [] = lawSt r l 0 := by
    rw [es, List.range_succ_eq_map]; rfl
  have el : (seenL r l (n + 1)).getLastD [] = lawSt r l (n + 1) := by
    rw [es, List.range_succ, List.map_append]
    simp [List.getLastD_eq_getLast?]
  have en : ((seenL r l (n + 1)).length : Int) - 1 = 1 + (n : Nat) := by
    rw [es, List.length_map, List.length_range]; omega
  show paperBy r.so (seenL r l (n + 1)) = _
  unfold paperBy lawHit lawAt
  rw [eh, el, en, stages_at h]
  cases hq : shift (lawSt r l 0) (lawSt r l (n + 1)) with
  | none => rfl
  | some q =>
    dsimp only
    by_cases c : suits r.so (1 + (n : Nat)) q.1 q.2 = true
    · rw [if_pos c, if_pos c, word_eq hst h hq]
    · rw [if_neg c, if_neg c]
theorem paper_eq (hst : ∀ i, stg3 r l i = lawSt r l i) (hne : l ≠ []) : paperOf r l most = lawPaper r.so (lawStages r l most) := by
  have eh : (lawStages r l most).headD [] = lawSt r l 0 := by
    unfold lawStages
    rw [List.range_succ_eq_map]; rfl
  have elen : (lawStages r l most).length - 1 = most := by
    unfold lawStages
    rw [List.length_map, List.length_range]; omega
  unfold lawPaper
  rw [eh]
  have hat : ∀ i, lawHit r.so (lawSt r l 0) ((lawStages r l most).getD (i + 1) []) (1 + (i : Nat)) = true → isN (lawAt r.so (lawSt r l 0) (lawStages r l most) i) = false := by
    intro i hi
    unfold lawHit at hi
    unfold lawAt
    cases hq : shift (lawSt r l 0) ((lawStages r l most).getD (i + 1) []) with
    | none => rw [hq] at hi; cases hi
    | some q => rfl
  cases hf : lawFind r.so (lawSt r l 0) (lawStages r l most) with
  | none =>
    dsimp only
    unfold lawFind at hf
    rw [elen, List.find?_eq_none] at hf
    have hs := stopN_le (r := r) (l := l) (most := most)
    unfold paperOf
    cases e : stopN r l most with
    | zero => rfl
    | succ j =>
      rw [e] at hs
      rw [found_eq (most := most) hst (by omega)]
      rw [if_neg (hf j (List.mem_range.mpr (by omega)))]
  | some i =>
    dsimp only
    unfold lawFind at hf
    rw [elen] at hf
    have hp := List.find?_some hf
    have hm := List.mem_range.mp (List.mem_of_find?_eq_some hf)
    have before : ∀ j, j < i → lawHit r.so (lawSt r l 0) ((lawStages r l most).getD (j + 1) []) (1 + (j : Nat)) ≠ true := by
      intro j hj
      rw [List.find?_range_eq_some] at hf
      have := hf.2.2 j hj
      simpa using this
    have fi := found_eq hst (show i + 1 ≤ most by omega)
    rw [if_pos hp] at fi
    have none_at : ∀ n, n ≤ i → foundD r l n = .none := by
      intro n hn
      cases n with
      | zero => rfl
      | succ j => rw [found_eq hst (show j + 1 ≤ most by omega), if_neg (before j (by omega))]
    have s1 : stopN r l most ≤ i + 1 := by
      apply Nat.le_of_not_lt
      intro hlt
      have g := stopN_go (r := r) (l := l) (most := most) (n := i + 1) (by omega)
      rw [decide_eq_true hlt] at g
      unfold goOn at g
      rw [fi, hat i hp] at g
      cases g
    have s2 : i + 1 ≤ stopN r l most := by
      apply Nat.le_of_not_lt
      intro hlt
      have g := stopN_go (r := r) (l := l) (most := most) (n := stopN r l most) (Nat.le_refl _)
      rw [decide_eq_false (by omega)] at g
      unfold goOn at g
      rw [none_at _ (by omega), decide_eq_true (show stopN r l most + 1 ≤ most by omega)] at g
      have g2 : stg3 r l (stopN r l most) = [] := by
        simpa [isN] using g
      rw [hst] at g2
      have g3 := gone_far g2 (show stopN r l most ≤ i + 1 by omega)
      rw [stages_at (show i + 1 ≤ most by omega), g3] at hp
      have : shift (lawSt r l 0) [] = none := by
        unfold shift
        cases lawSt r l 0 <;> rfl
      unfold lawHit at hp
      rw [this] at hp
      cases hp
    unfold paperOf
    rw [show stopN r l most = i + 1 by omega, fi]
end
end Cs

set_option Elab.async false
set_option linter.all false
set_option autoImplicit false
set_option maxRecDepth 100000
set_option maxHeartbeats 4000000
/-! The plain law, part d: the stages stay small, and of the rule's signs. -/
namespace Cs
open PySem PySem.Spec PyProof.Rows L2
abbrev SgC (m : Nat) (cs : Cells) : Prop := ∀ z ∈ cs, z.2 ∈ sigs m
theorem at_sig {m : Nat} (m2 : 2 ≤ m) {cs : Cells} (h : SgC m cs) (x y : Int) : at_ cs x y ∈ sigs m := by
  unfold at_
  cases e : lk cs (x, y) with
  | none => exact dot_in m2
  | some n => exact h _ (lk_mem e)
theorem fateC_sig {near : List Nat} {l : List CRow} {s : List Nat} {own : Nat} {ar : List Nat} (hl : ∀ row ∈ l, CRowOk near s row) (ho : own ∈ s) : fateC near l own ar ∈ s := by
  unfold fateC
  cases e : l.find? (rowFits near own ar) with
  | none => exact ho
  | some row => exact (hl row (List.mem_of_find?_eq_some e)).sign.1
theorem getD_in {s l : List Nat} (h : ∀ n ∈ l, n ∈ s) (d : Nat) (hd : d ∈ s) (i : Nat) : l.getD i d ∈ s := by
  rw [List.getD_eq_getElem?_getD]
  cases e : l[i]? with
  | none => exact hd
  | some n => exact h n (List.mem_of_getElem? e)
theorem fateB_sig {l : List BRow} {s four : List Nat} (hl : ∀ row ∈ l, BRowOk s row) (hf : ∀ n ∈ four, n ∈ s) : ∀ n ∈ fateB l four, n ∈ s := by
  unfold fateB
  cases e : l.find? (fitB four) with
  | none => exact hf
  | some row =>
    have h := (hl row (List.mem_of_find?_eq_some e)).four
    rw [List.all_eq_true] at h
    exact fun n hn => of_decide_eq_true (h n hn)
theorem behind_sig {r : Ru} (h : r.Ok) {cs : Cells} (hs : SgC r.m cs) (t x y : Int) : behind r cs t x y ∈ sigs r.m := by
  obtain ⟨so, m, near, rows⟩ := r
  have m2 : 2 ≤ m := h.lo
  unfold behind
  cases rows with
  | block l =>
    dsimp only
    unfold behB
    exact getD_in (fateB_sig h.rows.2 fun n hn => by
      obtain ⟨q, _, rfl⟩ := List.mem_map.mp hn
      exact at_sig m2 hs _ _) _ (dot_in m2) _
  | cell l =>
    dsimp only
    split
    · exact at_sig m2 hs _ _
    · exact fateC_sig h.rows.2 (at_sig m2 hs _ _)
theorem step_sig {r : Ru} (h : r.Ok) {cs : Cells} (hs : SgC r.m cs) (t : Int) : SgC r.m (stepC r cs t) := by
  intro z hz
  unfold stepC toldC at hz
  have h1 := (List.mem_filter.mp hz).1
  obtain ⟨q, _, rfl⟩ := List.mem_map.mp h1
  exact behind_sig h hs _ _ _
theorem stg_sig {r : Ru} (h : r.Ok) {l : List Cell3} (hs : SgC r.m (cellsC l)) : ∀ n, SgC r.m (stgC r l n)
  | 0 => hs
  | n + 1 => step_sig h (stg_sig h hs n) _
/-! ### the box -/
def InBox (n wd hg : Nat) (q : Spot) : Prop := -(n : Int) ≤ q.1 ∧ q.1 < (wd : Int) + n ∧ -(n : Int) ≤ q.2 ∧ q.2 < (hg : Int) + n
theorem step_box {r : Ru} {cs : Cells} {n wd hg : Nat} (h : ∀ z ∈ cs, InBox n wd hg z.1) (t : Int) : ∀ z ∈ stepC r cs t, InBox (n + 1) wd hg z.1 := by
  intro z hz
  unfold stepC toldC at hz
  have h1 := (List.mem_filter.mp hz).1
  obtain ⟨q, hq, rfl⟩ := List.mem_map.mp h1
  obtain ⟨p, hp, hk⟩ := mem_nbs.mp hq
  have hb := mem_gS.mp hk
  obtain ⟨z0, hz0, rfl⟩ := List.mem_map.mp hp
  have hb0 := h z0 hz0
  unfold InBox at hb0 ⊢
  dsimp only
  omega
theorem stg_box {r : Ru} {l : List Cell3} {wd hg : Nat} (h : ∀ z ∈ cellsC l, InBox 0 wd hg z.1) : ∀ n, ∀ z ∈ stgC r l n, InBox n wd hg z.1
  | 0 => h
  | n + 1 => step_box (stg_box h n) _
def boxL (n wd hg : Nat) : List Spot := (List.range (wd + 2 * n)).flatMap fun i : Nat => (List.range (hg + 2 * n)).map fun j : Nat => (((i : Nat) : Int) - n, ((j : Nat) : Int) - n)
theorem boxL_len (n wd hg : Nat) : (boxL n wd hg).length = (wd + 2 * n) * (hg + 2 * n) := by
  unfold boxL
  rw [List.length_flatMap]
  simp only [List.length_map, List.length_range]
  rw [List.map_const', List.sum_replicate_nat, List.length_range]
theorem in_boxL {n wd hg : Nat} {q : Spot} (h : InBox n wd hg q) : q ∈ boxL n wd hg := by
  unfold InBox at h
  unfold boxL
  refine List.mem_flatMap.mpr ⟨(q.1 + n).toNat, List.mem_range.mpr (by omega), List.mem_map.mpr ⟨(q.2 + n).toNat, List.mem_range.mpr (by omega), ?_⟩⟩
  refine Prod.ext ?_ ?_ <;> dsimp only <;> omega
theorem box_few {cs : Cells} {n wd hg : Nat} (nd : (cs.map (·.1)).Nodup) (h : ∀ z ∈ cs, InBox n wd hg z.1) : cs.length ≤ (wd + 2 * n) * (hg + 2 * n) := by
  have q := nd.length_le_of_subset (l₂ := boxL n wd hg) fun p hp => by
    obtain ⟨z, hz, rfl⟩ := List.mem_map.mp hp
    exact in_boxL (h z hz)
  rw [List.length_map, boxL_len] at q
  exact q
end Cs

set_option Elab.async false
set_option linter.all false
set_option autoImplicit false
set_option maxRecDepth 100000
set_option maxHeartbeats 4000000
/-! The refusal, caught. -/
namespace Cs
open PySem PySem.Spec PyProof.Rows L2
def suiteOf (st : Stmt) : List Stmt := match defBody st with
  | .Try _ [.ExceptHandler _ _ b _] _ _ _ :: _ => b
  | _ => []
section
variable {P : Program} {w : World} {K : PySem.W.Frag} {mg : Str → Option Value} {base : Heap}
abbrev nmF : List Str := ["_law_made_here", "_law_wide", "_law_high", "e"]
/-- the suite, where TooMany(256) is held -/
theorem suite_many (c : Ctx w K mg) {X : Cx} {a dd : Addr} {oe : Obj} {pn : List (Addr × Obj)} (hX : ∃ cdv A outer s H E, X = (cxOf CX0 P w K mg base nmF "_law_refused" (defScope (top 103)) (He.ga K "_law_refused") cdv A outer s H E).nox) (hz : Zc (.ref (He.ga K "TooMany")) (some dd) oe) (hf : ∃ vs, oe.data = .fields vs) :
    PSs (X.suite a ((a, oe) :: pn)) (suiteOf (top 103)) (fun D σ H => σ[3]? = some (some (.ref a)) ∧ H dd = some (.xd [(mostK, .int 256)]) ∧ ∀ p, H p = none → D.rt (.ref p) (upd H p (.tup [.str "many", .int 256]))) := by
  obtain ⟨cdv, A, outer, s, H, E, rfl⟩ := hX
  have x := c.ex
  refine pssI (pss_cons (ps_if (pw_and (pt_val (pe_callB (call_isD x.isT hz hf) (by rfl) (n_isinstance c) (by decide +kernel) (pa_cons (pe_var (i := 3) rfl (.inl rfl)) (pa_cons (pe_glob (v := .ref (He.ga K "TooMany")) (by rfl) (g_TooMany c) rfl) pa_nil))))
    (pw_and1 (pt_not (pt_val (pe_callB (call_isD x.isT hz hf) (by rfl) (n_isinstance c) (by decide +kernel) (pa_cons (pe_var (i := 3) rfl (.inl rfl)) (pa_cons (pe_glob (v := .ref (He.ga K "Restless")) (by rfl) (g_Restless c) rfl) pa_nil))))))).pt
    (pss_one (ps_ret (pe_tup (pa_cons pe_str (pa_cons (pe_xf x.xf x.most hz hf (pe_var (i := 3) rfl (.inl rfl))) pa_nil))))) (pss_never (sts := []))) (pss_never)) fun D σ H ⟨h3, hd, k⟩ => ?_
  refine ⟨.ref a, h3, ⟨_, hd⟩, .ref (He.ga K "TooMany"), .ref (He.ga K "TooMany"), true, rfl, fun u r => r, x.tt, true, rfl, ?_⟩
  refine iteT ⟨.ref a, h3, ⟨_, hd⟩, .ref (He.ga K "Restless"), .ref (He.ga K "Restless"), false, rfl, fun u r => r, x.tr, false, rfl, iteT ?_⟩
  exact ⟨.ref a, h3, rfl, rfl, dd, _, .int 256, rfl, hd, rfl, Nat.le_of_ble_eq_true rfl, fun p hp => k p hp⟩
/-- the suite, where Restless() is held -/
theorem suite_restless (c : Ctx w K mg) {X : Cx} {a : Addr} {oe : Obj} {pn : List (Addr × Obj)} (hX : ∃ cdv A outer s H E, X = (cxOf CX0 P w K mg base nmF "_law_refused" (defScope (top 103)) (He.ga K "_law_refused") cdv A outer s H E).nox) (hz : Zc (.ref (He.ga K "Restless")) none oe) (hf : ∃ vs, oe.data = .fields vs) :
    PSs (X.suite a ((a, oe) :: pn)) (suiteOf (top 103)) (fun D σ H => σ[3]? = some (some (.ref a)) ∧ ∀ p, H p = none → D.rt (.ref p) (upd H p (.tup [.str "restless", .bl true]))) := by
  obtain ⟨cdv, A, outer, s, H, E, rfl⟩ := hX
  have x := c.ex
  refine pssI (pss_cons (ps_if (t := tNever) (u := tNext) (PW.pt (t := fun σ H Q => σ[3]? = some (some (.ref a)) ∧ Q false H) ?_) (pss_never) pss_nil) (pss_one (ps_ret (pe_tup (pa_cons pe_str (pa_cons (pe_callB (call_isE x.isR hz hf) (by rfl) (n_isinstance c) (by decide +kernel) (pa_cons (pe_var (i := 3) rfl (.inl rfl)) (pa_cons (pe_glob (v := .ref (He.ga K "Restless")) (by rfl) (g_Restless c) rfl) pa_nil))) pa_nil)))))) fun D σ H ⟨h3, k⟩ => ?_
  · refine ⟨fun wh pins s1 σ H1 Q I hq => ?_⟩
    refine isTrue_and (thn ((pt_val (pe_callB (call_isE x.isR hz hf) (by rfl) (n_isinstance c) (by decide +kernel) (pa_cons (pe_var (i := 3) rfl (.inl rfl)) (pa_cons (pe_glob (v := .ref (He.ga K "TooMany")) (by rfl) (g_TooMany c) rfl) pa_nil)))).run pins s1 σ H1 (fun b H2 => b = false ∧ Q false H2) I ?_) fun b s2 ⟨H2, I2, q2⟩ => ?_)
    · exact ⟨.ref a, hq.1, .ref (He.ga K "TooMany"), .ref (He.ga K "TooMany"), false, rfl, fun u r => r, x.rt, false, rfl, rfl, hq.2⟩
    · obtain ⟨rfl, q3⟩ := q2
      exact ⟨H2, I2, q3⟩
  · refine ⟨h3, iteF ?_⟩
    exact ⟨.ref a, h3, .ref (He.ga K "Restless"), .ref (He.ga K "Restless"), true, rfl, fun u r => r, x.rr, Nat.le_of_ble_eq_true rfl, fun p hp => k p hp⟩
end
end Cs

set_option Elab.async false
set_option linter.all false
set_option autoImplicit false
set_option maxRecDepth 100000
set_option maxHeartbeats 4000000
/-! _law_refused. -/
namespace Cs
open PySem PySem.Spec PyProof.Rows L2
section
variable {P : Program} {w : World} {K : PySem.W.Frag} {mg : Str → Option Value} {base : Heap}
theorem pss_ante {X : Cx} {l : List Stmt} {p : Prop} {t : TS} (h : p → PSs X l t) : PSs X l (fun D σ H => p ∧ t D σ H) := ⟨fun pins s σ H D I q => (h q.1).run pins s σ H D I q.2⟩
/-- the Try's reading, of a suite -/
theorem ok_l_refused_of (c : Ctx w K mg) (ru : Ru) (wd hg : Int) {r : PyData} {Cl : XK → Hp → Prop} (F : SeaX P w K mg base [ru.ent K, Dt K (.int wd), Dt K (.int hg), Dt K (.int 12)] Cl) {ts : Addr → Value → Option Addr → TS}
    (hsu : ∀ (X : Cx) (a : Addr) (oe : Obj) (cls : Value) (d : Option Addr) (pn : List (Addr × Obj)), (∃ cdv A outer s H E, X = (cxOf CX0 P w K mg base nmF "_law_refused" (defScope (top 103)) (He.ga K "_law_refused") cdv A outer s H E).nox) → Zc cls d oe → (∃ vs, oe.data = .fields vs) → PSs (X.suite a ((a, oe) :: pn)) (suiteOf (top 103)) (ts a cls d))
    (hts : ∀ (D : Ends) (H0 G0 G H : Hp) (σ : L2.St), σ.length = 4 → Step K none G0 H0 G H → (∀ v H' G', Step K none G0 H0 G' H' → EntOk none H0 G' H' v (Dt K r) → D.rt v H') → ∀ H1 G1, Step K none G H G1 H1 → Cl (WE (wAs K (.ref (He.ga K "CellError")) 3 ts (fun _ _ _ _ => False) D) σ) H1) :
    DfOk P w K mg base "_law_refused" 8 false [ru.ent K, Dt K (.int wd), Dt K (.int hg)] (Dt K r) := by
  obtain ⟨fd, F0⟩ := d__law_refused c
  obtain ⟨fs, bS, FS⟩ := F
  refine mk_df nmF (ps := ["_law_made_here", "_law_wide", "_law_high"]) (N := noA) F0 (g__law_refused c) ⟨rfl, rfl, rfl, by decide +kernel, rfl, by decide +kernel, by decide +kernel⟩ (fun _ _ _ _ _ _ us hl => match us, hl with | [_, _, _], _ => rfl) rfl (by simp [noOwns, notOwn]) (fun W X hW k hX => ?_) (fun _ _ _ _ _ z => z.elim)
  obtain rfl := hW rfl
  obtain ⟨cdv, A, outer, s, H, E, rfl⟩ := hX
  obtain ⟨h1, h2, h3, h4, h5, hr, hc, hN⟩ := k
  obtain ⟨fd2, F2⟩ := d_search c
  refine pssI (pss_cons (ps_try_as (X := (cxOf CX0 P w K mg base nmF "_law_refused" (defScope (top 103)) (He.ga K "_law_refused") cdv A outer s H E).nox) (i := 3) (n := "e") (c := .ref (He.ga K "CellError")) (ts := ts) (Wout := fun _ _ _ _ => False) rfl rfl hN rfl rfl ⟨rfl, by decide, .inl (g_CellError c)⟩ takes0
    (fun W pn xe tk _ => pss_one (ps_expr (pe_callS FS (hr.mono (by decide)) rfl (g_search c) F2.kp bS (fun σ => passAt tk σ)
      (ea_cons (W := none) (K := K) (Γ := initE 4 [ru.ent K, Dt K (.int wd), Dt K (.int hg)]) (ev_var 0) (ea_cons (ev_var 1) (ea_cons (ev_var 2) (ea_cons ev_int ea_nil)))))))
    (fun a oe cls d pn hz hf => hsu _ a oe cls d pn ⟨cdv, A, outer, s, H, E, rfl⟩ hz hf)) (pss_never (sts := (defBody (top 103)).tail))) fun D σ H ⟨H0, G0, G, st, en, hnx, hrt, _⟩ => ?_
  refine ⟨H0, G, st.frm, en, fun vs H1 G1 s1 q1 => ⟨G1, s1.frm, q1.any (by simp [noOwns, notOwn]), fun H2 G2 s2 => ?_⟩⟩
  exact hts { nx := tNever D, rt := D.rt, bk := D.bk, ct := D.ct } H0 G0 G H σ en.len st hrt H2 G2 (s1.trans s2)
theorem ok_l_refused_restless (c : Ctx w K mg) (r : Ru) (h : r.Ok) (hk : keepsG r = false) (wd hg : Int) : DfOk P w K mg base "_law_refused" 8 false [r.ent K, Dt K (.int wd), Dt K (.int hg)] (Dt K (.tuple [.str "restless", .bool true])) := by
  refine ok_l_refused_of c r wd hg (ok_search_restless c r h hk wd hg 12) (ts := fun a cls d D σ H => (cls = .ref (He.ga K "Restless") ∧ d = none) ∧ σ[3]? = some (some (.ref a)) ∧ ∀ p, H p = none → D.rt (.ref p) (upd H p (.tup [.str "restless", .bl true]))) (fun X a oe cls d pn hX hz hf => pss_ante fun ⟨e1, e2⟩ => ?_) (fun D H0 G0 G H σ hl st hrt H1 G1 s1 => ?_)
  · subst e1; subst e2
    exact suite_restless c hX hz hf
  · refine ⟨true, c.ex.rc, fun _ a ha => ⟨⟨rfl, rfl⟩, ?_, fun p hp => ?_⟩, nofun⟩
    · rw [List.getElem?_set_self (by omega)]
    · have st2 := st.trans s1
      exact hrt _ _ _ (st2.trans (Step.lay st2.frm hp)) (up_dat (.tup (SqT.of upd_same) (.cons (.str _) (.cons (.bl _) .nil))))
theorem ok_l_refused_many (c : Ctx w K mg) (r : Ru) (h : r.Ok) (hk : keepsG r = true) (wd hg : Nat) (w1 : wd ≤ 30) (h1 : hg ≤ 30) (big : 256 < (sigs r.m).length ^ (wd * hg)) : DfOk P w K mg base "_law_refused" 8 false [r.ent K, Dt K (.int (wd : Nat)), Dt K (.int (hg : Nat))] (Dt K (.tuple [.str "many", .int 256])) := by
  refine ok_l_refused_of c r wd hg (ok_search_many c r h hk wd hg 12 w1 h1 big) (ts := fun a cls d D σ H => (∃ dd, cls = .ref (He.ga K "TooMany") ∧ d = some dd ∧ H dd = some (.xd [(mostK, .int 256)])) ∧ σ[3]? = some (some (.ref a)) ∧ ∀ p, H p = none → D.rt (.ref p) (upd H p (.tup [.str "many", .int 256]))) (fun X a oe cls d pn hX hz hf => ?_) (fun D H0 G0 G H σ hl st hrt H1 G1 s1 => ?_)
  · cases d with
    | none => exact ⟨fun pins s σ H D I q => by obtain ⟨⟨_, _, z, _⟩, _⟩ := q; cases z⟩
    | some dd =>
      by_cases e1 : cls = .ref (He.ga K "TooMany")
      · subst e1
        exact pssI (suite_many c hX hz hf) fun D σ H ⟨⟨dd', _, e2, hd⟩, h3, k⟩ => by cases e2; exact ⟨h3, hd, k⟩
      · exact ⟨fun pins s σ H D I q => by obtain ⟨⟨_, z, _⟩, _⟩ := q; exact absurd z e1⟩
  · intro d hd
    have st2 := st.trans s1
    have stm := st2.trans (Step.mine st2.frm (o := .xd [(mostK, .int 256)]) hd)
    refine ⟨true, c.ex.tc, fun _ a ha => ⟨⟨d, rfl, rfl, upd_same⟩, ?_, fun p hp => ?_⟩, nofun⟩
    · rw [List.getElem?_set_self (by omega)]
    · exact hrt _ _ _ (stm.trans (Step.lay stm.frm hp)) (up_dat (.tup (SqT.of upd_same) (.cons (.str _) (.cons (.int _) .nil))))
end
end Cs

set_option Elab.async false
set_option linter.all false
set_option autoImplicit false
set_option maxRecDepth 100000
set_option maxHeartbeats 4000000
/-! repr of data; a def that is promised only where no repr is under way. -/
namespace Cs
open PySem PySem.Spec PyProof.Rows L2
/-- data whose repr is told -/
structure Rpd (d : PyData) : Prop where
  sh : d.showable = true
  nd : d.hasDict = false
  dp : d.depth ≤ 64
  sz : d.shown.length ≤ sizeLine
  pu : pur d = true
  sp : SeqAt.shaped d = true
section
variable {X : Cx} {K : PySem.W.Frag}
/-- repr(x), x of data by reference -/
theorem call_reprD (hg : X.A.guards = some []) (hu : X.A.units + 200 < cLine) : CallR X (.builtin "repr") (fun vs H Q => ∃ p ds, vs = [.ref p] ∧ (∃ d, Dp X.K H (.ref p) d ∧ Rpd d ∧ ds = d.shown) ∧ Q (.str ds) H) := by
  intro pins s σ H xs us Q I r h
  obtain ⟨p, ds, rfl, ⟨d, hd, R, rfl⟩, q⟩ := h
  obtain ⟨u, rfl, rx⟩ := vals1 r
  obtain ⟨as, rd⟩ := Dp.reads I d _ _ hd rx
  cases rx
  exact repr_of_reads' rd R.sh (fun e => by rw [R.nd] at e; cases e) hg (by have := R.dp; omega) (fun _ _ z => z) (fun h' u tk hk => ⟨.str d.shown, H, I.kept hk, ⟨_, rfl⟩, q⟩) R.sz
end
section
variable {P : Program} {w : World} {K : PySem.W.Frag} {mg : Str → Option Value} {base : Heap} {k : Nat} {X : Cx} {W : Option Addr} {Γ : En} {a : Expr} {p pos : Pos} {ds : List PyData}
theorem ev_reprL (c : Cok P w K mg base k X) (hm : mg "repr" = none) (hG : X.A.guards = some []) (hR : Rpd (.list ds)) (ha : Ea X K W Γ [a] [Dt K (.list ds)]) (hg : Gl X "repr" := by rfl) (he : A1 X a := by rfl) : Ev X K W Γ (.Call (.Name "repr" p) [a] [] pos) (Dt K (.str (PyData.list ds).shown)) :=
  ev_callB c (call_reprD hG (by have := c.hr.un; omega)) (fun H0 G H vs f hb q Q k => by
    obtain ⟨v, rfl, q1⟩ := args1 q
    have q2 := dt_dp q1
    obtain ⟨y, xs, rfl, hs, hd⟩ := dt_list q1
    exact ⟨y, _, rfl, ⟨.list ds, by rw [c.hK]; exact (Lk.same f.1).dat q2, hR, rfl⟩, k _ H G (Step.refl f) (dt_of (.str _))⟩) hm (by decide +kernel) ha hg (he := he)
end
/-! ### a def's promise where no repr is under way -/
structure FnG (P : Program) (w : World) (K : PySem.W.Frag) (mg : Str → Option Value) (base : Heap) (k : Nat) (f : Addr) (fd : FuncData) (ps : List Str) (sp : Sp) : Prop where
  many : ∀ vs H Q E, sp vs H Q E → vs.length = ps.length
  goes : ∀ (B : Around), B.guards = some [] → Room k B → ∀ (below : List Env) (z : Shared) (H : Hp), Env0 P w K mg base B below z H → ∀ (ar : Args) (us : List Value) (vs : List V), BindsTo z fd ar (ps.zip us) → Vals vs us → ∀ (Q : VK) (E : XK), sp vs H Q E →
    codeAny (model P w) B (.call (.ref f) ar) (CR CX0 below P w H z Q E) z
section
variable {P : Program} {w : World} {K : PySem.W.Frag} {mg : Str → Option Value} {base : Heap} {k j : Nat} {bg : Bool} {as : List Ent} {r e : Ent} {x : Str} {X : Cx} {W : Option Addr} {Γ : En} {a : Expr} {es : List Expr} {p pos : Pos}
theorem fnG_of {qual : Str} {pa : Arguments} {body : List Stmt} {scope : Scope} {f : Addr} {fd : FuncData} {Nm ps : List Str} {sp : Sp} (F : FunD K x qual pa body scope [] [] f fd) (S : FnScope Nm ps scope) (hl : ∀ vs H Q E, sp vs H Q E → vs.length = ps.length)
    (hb : ∀ (cdv : Value) (A : Around) (below : List Env) (z : Shared) (H : Hp) (vs : List V) (Q : VK) (E : XK), A.guards = some [] → Room k (A.deeper (envOfC qual scope z.heap.objs.size f cdv)) → sp vs H Q E →
      ∃ t, PSs (cxOf CX0 P w K mg base Nm qual scope f cdv A below z H E).nox body t ∧ t { nx := fun _ H' => Q .non H', rt := Q } (start Nm vs) H) : FnG P w K mg base (k + 1) f fd ps sp := by
  obtain ⟨oc, od, dV, kV, doc, pm, an, cdv, ct, osl, rfl, lk, hcd, _, _⟩ := F.ex
  refine ⟨hl, fun B g0 rm below z H e0 ar us vs bi rv Q E q => ?_⟩
  have old := fun b o e => (e0.bs b o e).1
  have inK : K.In z.heap := e0.mod.kin.keeps old
  refine codeAny_call_function rm.depth (inK _ _ lk) rfl S.co S.gen rfl (PySem.W.codeRec_of inK hcd) (bi _ _ _ _ (wpAny_newFunctionEnv_cells S.kind (fun y hy => ?_) fun env he z1 ic => ?_))
  · have hy1 : y.1 ∈ ps := (List.of_mem_zip (show (y.1, y.2) ∈ ps.zip us from hy)).1
    rcases S.par y.1 hy1 with q | q
    · exact .inl q
    · exact .inr ⟨q, PySem.W.cellsFrom_some _ _ _ (.inl q)⟩
  · subst he
    obtain ⟨t, ht, qt⟩ := hb cdv B below z H vs Q E g0 (rm.deeper _) q
    refine ⟨(e0.mod.nolimit.keeps old).keeps ic.toInCall.keep, codeAny_func (wpAny_mono (ht.nox.run [] z1 _ H _ (inv_start S rm.hd e0 (hl _ _ _ _ q) rv ic) qt) (fun fl z2 h2 => ?_) fun _ _ h2 => h2)⟩
    cases fl with
    | ret u =>
      obtain ⟨v, σ2, H2, J, rv2, q2⟩ := h2
      exact ⟨v, H2, J.os, J.bare, J.base, J.hok, rv2, q2⟩
    | next =>
      obtain ⟨σ2, H2, J, q2⟩ := h2
      exact ⟨.non, H2, J.os, J.bare, J.base, J.hok, rfl, q2⟩
    | brk => obtain ⟨_, _, _, q2⟩ := h2; exact q2.elim
    | cont => obtain ⟨_, _, _, q2⟩ := h2; exact q2.elim
def DfG (P : Program) (w : World) (K : PySem.W.Frag) (mg : Str → Option Value) (base : Heap) (x : Str) (k : Nat) (bg : Bool) (as : List Ent) (r : Ent) : Prop :=
  ∃ (f : Addr) (fd : FuncData) (ps : List Str), mg x = some (.ref f) ∧ PySem.W.keepIn K (.ref f) = true ∧ Binds K fd ps [] ∧ FnG P w K mg base k f fd ps (spF K bg as r)
theorem mk_dg {st : Stmt} {f : Addr} {fd : FuncData} {ps : List Str} (Nm : List Str) {N : As} (F : FnP K x st f fd) (hm : mg x = some (.ref f)) (S : FnScope Nm ps (defScope st))
    (bi : ∀ (kV doc pm : Value) (an : Option Addr) (cdv ct : Value) (us : List Value), us.length = ps.length → bindArgs (PySem.W.fnOf x x (defArgs st) (defBody st) (defScope st) .none kV doc pm an cdv ct) ⟨us, []⟩ = pure (ps.zip us))
    (hl : as.length = ps.length) (n : noOwns as)
    (h : ∀ (W : Option Addr) (X : Cx), (bg = false → W = none) → Cok P w K mg base k X → X.A.guards = some [] → (∃ cdv A outer s H E, X = (cxOf CX0 P w K mg base Nm x (defScope st) f cdv A outer s H E).nox) → Srs X K W (defBody st) (envA W (initE Nm.length as)) N noA noA r)
    (hN : ∀ W H0 G H σ, N H0 G H σ → EntOk W H0 G H .non r) : DfG P w K mg base x (k + 1) bg as r := by
  refine ⟨f, fd, ps, hm, F.kp, F.bindsN bi, fnG_of F S (fun vs H Q E q => ?_) fun cdv A below z H vs Q E g0 hr q => ?_⟩
  · obtain ⟨W, G, _, _, q, _⟩ := q
    exact q.length.trans hl
  · obtain ⟨W, G, hb, f, q, kk⟩ := q
    exact ⟨_, h W _ hb ⟨rfl, rfl, rfl, rfl, rfl, hr, rfl, S.nd⟩ g0 ⟨cdv, A, below, z, H, E, rfl⟩, H, G, G, Step.refl f, env_init S.pre hl q n, fun σ' H' G' s' z => kk _ H' G' s' (hN W _ _ _ _ z), fun v H' G' s' z => kk v H' G' s' z, (fun _ _ _ _ z => z.elim), (fun _ _ _ _ z => z.elim)⟩
/-- its call -/
theorem ev_callG (c : Cok P w K mg base k X) (g0 : X.A.guards = some []) (D : DfG P w K mg base x j bg as r) (ha : Ea X K W Γ (a :: es) as) (hj : j ≤ k := by decide) (hb : bg = true ∨ allFro as := by first | exact .inl rfl | exact .inr (by simp [allFro, isFro])) (n : noOwns as := by first | exact True.intro | simp [noOwns, notOwn])
    (hg : Gl X x := by rfl) (hdb : (x == ("__debug__" : Str)) = false := by decide) (he : starEach (a :: es) X.env = (false, eval a X.env) :: starEach es X.env := by rfl) (hpl : (backTo pos (starEach es X.env)).any (·.1) = false := by rfl) : Ev X K W Γ (.Call (.Name x p) (a :: es) [] pos) r := by
  obtain ⟨f, fd, ps, hm, hk, hbi, F⟩ := D
  obtain ⟨rfl, rfl, rfl, rfl, rfl, hr, hc, hN⟩ := c
  refine ⟨fun pins s σ H Q I ⟨H0, G, fr, en, kk⟩ => wpAny_Call_Name_kw (ld_glob I hg hm (PySem.W.callWith_K (h₀ := X.base) I.ok.mod.kin hk (thn (ha.run pos pins s σ H (fun vs H1 => spF X.K bg as r vs H1 Q E0) I ⟨H0, G, fr, en, fun vs H1 G1 s1 q1 => ?_⟩) fun us s1 ⟨vs, H1, I1, rv, q⟩ => ⟨I1.kIn, ?_⟩) he hpl) hdb)⟩
  · exact spF_use (σ := σ) s1.frm hb n q1 fun v H' G' s q => kk v H' G' (s1.trans s) (q.back fun a z => s1.free z)
  · have hlen : us.length = ps.length := by rw [← rv.length]; exact F.many _ _ _ _ q
    have b0 := hbi s1 us I1.kIn (by rw [List.append_nil]; exact hlen)
    rw [List.append_nil] at b0
    refine wpAny_call (codeAny_mono (F.goes X.A g0 (hr.mono hj) X.stack s1 H1 I1.env0 ⟨us, []⟩ us vs b0 rv Q E0 q) fun r2 s2 h2 => ?_)
    cases r2 with
    | error e => exact h2.elim
    | ok fl =>
      cases fl with
      | ret u => exact I1.after h2
      | next => exact h2.elim
      | brk => exact h2.elim
      | cont => exact h2.elim
theorem ok_l_alike (c : Ctx w K mg) {ds : List PyData} (R : Rpd (.list ds)) : DfG P w K mg base "_law_alike" 1 false [Dt K (.list ds), Dt K (.list ds)] (Dt K (.bool true)) := by
  obtain ⟨fd, F0⟩ := d__law_alike c
  refine mk_dg ["_law_found", "_law_due_here"] (ps := ["_law_found", "_law_due_here"]) (N := noA) F0 (g__law_alike c) ⟨rfl, rfl, rfl, by decide +kernel, rfl, by decide +kernel, by decide +kernel⟩ (fun _ _ _ _ _ _ us hl => match us, hl with | [_, _], _ => rfl) rfl (by simp [noOwns, notOwn]) (fun W X hW k g0 hX => ?_) (fun _ _ _ _ _ z => z.elim)
  obtain ⟨cdv, A, outer, s, H, E, rfl⟩ := hX
  exact srs_ret (ev_and (c1 := true) (c2 := true) (ev_eq (ev_eqD k R.sp R.sp (ev_var 0) (ev_var 1)) (congrArg PyData.bool ((eqv_pur _ _ R.pu R.pu).mpr rfl))) fun _ => ev_one (ev_eq (ev_cmp op_eq rd_eqS (ev_reprL k (n_repr c) g0 R (ea_cons (ev_var 0) ea_nil)) (ev_reprL k (n_repr c) g0 R (ea_cons (ev_var 1) ea_nil))) (by simp)))
end
end Cs

set_option Elab.async false
set_option linter.all false
set_option autoImplicit false
set_option maxRecDepth 100000
set_option maxHeartbeats 4000000
/-! The bag is made; from here on it is the bag. -/
namespace Cs
open PySem PySem.Spec PyProof.Rows L2
def bag0 (ns : List Int) : List PyData := [.int 0, .int 1234567891, .int 0, .list ((ns.take 63).map fun i => .int (if i < 0 then -i else i))]
section
variable {P : Program} {w : World} {K : PySem.W.Frag} {mg : Str → Option Value} {base : Heap} {k : Nat} {X : Cx} {W : Option Addr} {Γ : En} {rest : List Stmt} {t : T}
theorem ok_l_bag (c : Ctx w K mg) (ns : List Int) : DfOk P w K mg base "_law_bag" 1 false [Dt K (.list (ns.map .int))] (.own (lstO K (bag0 ns))) := by
  obtain ⟨fd, F0⟩ := (d__law_bag c)
  refine mk_df ["_law_script", "_law_cell"] (ps := ["_law_script"]) (N := noA) F0 (g__law_bag c) ⟨rfl, rfl, rfl, by decide +kernel, rfl, by decide +kernel, by decide +kernel⟩ (fun _ _ _ _ _ _ us hl => match us, hl with | [_], _ => rfl) rfl (by simp [noOwns, notOwn]) (fun W X hW k hX => ?_) (fun _ _ _ _ _ z => z.elim)
  obtain ⟨cdv, A, outer, s, H, E, rfl⟩ := hX
  refine srs_ret (ev_lstO (ead_cons ev_int (ead_cons ev_int (ead_cons ev_int (ead_cons (ev_eq (ev_lcm [("_law_cell", 1)] (ns.take 63) (fun i => dat K (.int i)) (fun i => .int (if i < 0 then -i else i)) k (it_lst (ns.take 63) (fun i => .int i) k ?_) (fun y _ s0 H C cl fp => tg_name 1 k.blk)
    (fun y _ s0 H C cl fp => ev_abs k.blk (n_abs c) (ea_cons (ev_var 1) ea_nil)) (by rw [List.length_take]; omega)) rfl) ead_nil)))))
  exact ev_eq (ev_slL k (ev_var 0) op_none (op_some ev_int)) (by rw [show (63 : Int) = ((63 : Nat) : Int) from rfl, cut_to, List.map_take])
/-- one's own new list becomes the bag -/
theorem srs_bagOn (i : Nat) {ns : List Int} {x y z : Int} (x0 : 0 ≤ x) (y0 : 0 ≤ y) (z0 : 0 ≤ z) (hn : ∀ n ∈ ns, 0 ≤ n) (he : Γ[i]? = some (some (.own (lstO K [.int x, .int y, .int z, intsD ns]))))
    (alone : ∀ j e, j ≠ i → Γ[j]? = some (some e) → notOwn e) (h : ∀ b, Srs X K (some b) rest (envA (some b) (Γ.set i (some .bag))) noA noA noA (.fro t)) : Srs X K none rest (envA none Γ) noA noA noA (.fro t) := by
  refine ⟨fun pins s σ H D I q => ?_⟩
  obtain ⟨H0, G0, G, st, en, _, hr, _, _⟩ := q
  obtain ⟨v, hv, b, ho, rfl, h0, gb, hb, nw, fo⟩ := en.at_ i _ he
  obtain ⟨vs, rfl, dv⟩ := fo _ (Lk.refl _)
  have hvs : ∃ c, vs = [.int x, .int y, .int z, .ref c] ∧ SqL K G c (ns.map V.int) := by
    cases dv with
    | cons d1 r1 => cases d1 with | int => cases r1 with
      | cons d2 r2 => cases d2 with | int => cases r2 with
        | cons d3 r3 => cases d3 with | int => cases r3 with
          | cons d4 r4 => cases r4 with
            | nil =>
              cases d4 with
              | lst hs hd =>
                refine ⟨_, rfl, ?_⟩
                have e : ∀ {us : List V} {ns : List Int}, DpAll K G us (ns.map .int) → us = ns.map V.int := by
                  intro us ns hq
                  induction ns generalizing us with
                  | nil => cases hq; rfl
                  | cons n ns ih =>
                    cases hq with
                    | cons a b2 =>
                      cases a
                      rw [ih b2]; rfl
                rw [← e hd]; exact hs
  obtain ⟨c1, rfl, hs⟩ := hvs
  have f2 : Frm K (some b) G H := ⟨st.frm.1, fun b' e => by cases e; exact ⟨gb, x, y, z, c1, ns, hb, hs, x0, y0, z0, hn⟩⟩
  refine (h b).run pins s σ H D I ⟨H, G, G, Step.refl f2, ⟨by rw [List.length_set]; exact en.len, fun j e g => ?_, fun j1 j2 o o' p g1 g2 _ _ => ?_⟩, (fun _ _ _ _ z => z.elim), fun v H' G' s' q => hr v H' G' ?_ q, (fun _ _ _ _ z => z.elim), (fun _ _ _ _ z => z.elim)⟩
  · by_cases ej : j = i
    · subst ej
      have lt : j < Γ.length := (List.getElem?_eq_some_iff.mp he).1
      rw [List.getElem?_set_self lt] at g
      cases g
      exact ⟨_, hv, b, rfl, rfl⟩
    · rw [List.getElem?_set_ne (fun z => ej z.symm)] at g
      obtain ⟨v, hv2, q⟩ := en.at_ j e g
      have no := alone j e ej g
      cases e with
      | fro t => exact ⟨v, hv2, q⟩
      | own o => exact no.elim
      | bag => obtain ⟨_, _, z⟩ := q; cases z
  · exfalso
    by_cases ej : j1 = i
    · subst ej
      have lt : j1 < Γ.length := (List.getElem?_eq_some_iff.mp he).1
      rw [List.getElem?_set_self lt] at g1
      cases g1
    · rw [List.getElem?_set_ne (fun z => ej z.symm)] at g1
      exact alone j1 _ ej g1
  · refine ⟨fun a o e _ => s'.keep a o (st.keep a o e (fun z => nomatch z)) (fun z => ?_), st.gro.trans s'.gro, fun a o g0 g' => ?_, s'.frm.low, fun b o z => nomatch z⟩
    · cases z; rw [e] at h0; cases h0
    · cases q1 : G a with
      | some u =>
        have e2 : G' a = some u := s'.gro a u q1
        rw [g'] at e2; cases e2
        exact st.new a o g0 q1
      | none =>
        rcases s'.new a o q1 g' with q2 | ⟨xs, q2⟩
        · exact .inl (st.free q2)
        · cases q3 : H0 a with
          | none => exact .inl rfl
          | some u =>
            have e2 := st.keep a u q3 (fun z => nomatch z)
            rw [q2] at e2; cases e2
            exact .inr ⟨xs, rfl⟩
end
end Cs

set_option Elab.async false
set_option linter.all false
set_option autoImplicit false
set_option maxRecDepth 100000
set_option maxHeartbeats 4000000
/-! _law_full_right. -/
namespace Cs
open PySem PySem.Spec PyProof.Rows L2
/-- what is found and what is due, on one rule and one size -/
structure Fits (r : Ru) (wd hg most : Nat) : Prop where
  sea : SeaOk r wd hg most
  due : DueOk r wd hg most
  same : (texts (sigs r.m) (wd * hg)).flatMap (hitD r wd hg most) = (texts (sigs r.m) (wd * hg)).flatMap (hitL r wd hg most)
  rp : Rpd (.list ((texts (sigs r.m) (wd * hg)).flatMap (hitL r wd hg most)))
  less : ((texts (sigs r.m) (wd * hg)).flatMap (hitL r wd hg most)).length ≤ 1000
abbrev FitAll : Prop := ∀ (r : Ru) (wd hg most : Nat), Drawn r → r.m ≤ 16 → 0 < wd → 0 < hg → wd ≤ 16 → hg ≤ 16 → 0 < most → most ≤ 12 → r.m ^ (wd * hg) ≤ 256 → Fits r wd hg most
theorem dF : ∀ m, m < 17 → 2 ≤ m → Drawn ⟨"around", m, [], .cell (rowsZ m)⟩ ∧ Drawn ⟨"around", m, [], .cell []⟩ := by
  have h : ∀ m, m < 17 → 2 ≤ m → (ruD ⟨"around", m, [], .cell (rowsZ m)⟩ && ruD ⟨"around", m, [], .cell []⟩) = true := by decide +kernel
  intro m h1 h2
  have q := h m h1 h2
  rw [Bool.and_eq_true] at q
  exact ⟨ruD_ok q.1, ruD_ok q.2⟩
abbrev N4 : Type := Nat × Nat × Nat × Nat
def fourD (y : N4) : PyData := .tuple [.int (y.1 : Nat), .int (y.2.1 : Nat), .int (y.2.2.1 : Nat), .int (y.2.2.2 : Nat)]
def frp (y : N4) : Prop := (2 ≤ y.1 ∧ y.1 ≤ 16) ∧ (0 < y.2.1 ∧ y.2.1 ≤ 16) ∧ (0 < y.2.2.1 ∧ y.2.2.1 ≤ 16) ∧ (0 < y.2.2.2 ∧ y.2.2.2 ≤ 12) ∧ y.1 ^ (y.2.1 * y.2.2.1) ≤ 256
instance (y : N4) : Decidable (frp y) := by unfold frp; infer_instance
def five : List N4 := [(2, 2, 4, 1), (2, 4, 2, 1), (4, 2, 2, 1), (16, 1, 2, 1), (16, 2, 1, 1)]
theorem five_ok : ∀ y ∈ five, frp y := by decide +kernel
section
variable {P : Program} {w : World} {K : PySem.W.Frag} {mg : Str → Option Value} {base : Heap} {k : Nat} {X : Cx} {W : Option Addr} {Γ : En} {a : Expr} {ds : List PyData}
theorem ev_stillL (h : Ev X K W Γ a (.own (lstO K ds))) : Ev X K W Γ a (Dt K (.list ds)) := ev_still h fun G p ho hp q => still_lst hp q
theorem ev_eqO {ds es : List PyData} (h : Ev X K W Γ a (.own (lstO K ds))) (e : ds = es) : Ev X K W Γ a (.own (lstO K es)) := e ▸ h
theorem ok_l_full_right (c : Ctx w K mg) (fit : FitAll) : DfG P w K mg base "_law_full_right" 9 true [.bag] (Dt K (.bool true)) := by
  obtain ⟨fd, F0⟩ := d__law_full_right c
  refine mk_dg ["_law_bag_here", "_law_sizes", "_law_many", "_law_wide", "_law_high", "_law_most", "_law_signs_here", "_law_rows", "_law_one", "_law_to", "_law_rule_here"] (ps := ["_law_bag_here"]) (N := noA) F0 (g__law_full_right c) ⟨rfl, rfl, rfl, by decide +kernel, rfl, by decide +kernel, by decide +kernel⟩ (fun _ _ _ _ _ _ us hl => match us, hl with | [_], _ => rfl) rfl (by simp [noOwns, notOwn]) (fun W X hW k g0 hX => ?_) (fun _ _ _ _ _ z => z.elim)
  obtain ⟨cdv, A, outer, s, H, E, rfl⟩ := hX
  refine srs_set 1 k (ev_eq (ev_lst (ead_cons (ev_tup (ead_cons ev_int (ead_cons ev_int (ead_cons ev_int (ead_cons ev_int ead_nil))))) (ead_cons (ev_tup (ead_cons ev_int (ead_cons ev_int (ead_cons ev_int (ead_cons ev_int ead_nil))))) (ead_cons (ev_tup (ead_cons ev_int (ead_cons ev_int (ead_cons ev_int (ead_cons ev_int ead_nil))))) (ead_cons (ev_tup (ead_cons ev_int (ead_cons ev_int (ead_cons ev_int (ead_cons ev_int ead_nil))))) (ead_cons (ev_tup (ead_cons ev_int (ead_cons ev_int (ead_cons ev_int (ead_cons ev_int ead_nil))))) ead_nil)))))) (show _ = PyData.list (five.map fourD) from rfl)) ?_
  refine srs_unpX (p := frp) (enc := fourD) (Γ' := fun y => ((((([some .bag, some (Dt K (.list (five.map fourD))), none, none, none, none, none, none, none, none, none] : En).set 2 (some (Dt K (.int (y.1 : Nat))))).set 3 (some (Dt K (.int (y.2.1 : Nat))))).set 4 (some (Dt K (.int (y.2.2.1 : Nat))))).set 5 (some (Dt K (.int (y.2.2.2 : Nat))))))
    (ev_ixLXX (p := fun ys => ∃ es, (∃ y, frp y ∧ es = [fourD y]) ∧ ys = five.map fourD ++ es) (enc := .list) (pi := drw 6) k (ev_catX (pl := fun es => ∃ y, frp y ∧ es = [fourD y]) c.nk k (ev_var 1) (ev_toX (p := frp) (enc := fun y => .list [fourD y]) (ev_lstX (ea_cons (ev_tupD (ts := [exD K (fun i : Int => 3 ≤ i ∧ i < 15) PyData.int, dat K (.int 1), dat K (.int 1), exD K (fun i : Int => 11 ≤ i ∧ i < 13) PyData.int]) (tsx_x (tsx_d (tsx_d (tsx_x tsx_nil))))
      (ea_cons (ev_addX (pi := fun i => i = 3) (qi := drw 12) (ri := fun i => 3 ≤ i ∧ i < 15) (ev_IX ev_int rfl) (ev_call k (ok_take c 12 (by decide) (by decide)) (ea_cons (ev_var 0) (ea_cons ev_int ea_nil))) (fun i j hi hj => by have h1 := hj.1; have h2 := hj.2; omega)) (ea_cons ev_int (ea_cons ev_int (ea_cons (ev_addX (pi := fun i => i = 11) (qi := drw 2) (ri := fun i => 11 ≤ i ∧ i < 13) (ev_IX ev_int rfl) (ev_call k (ok_take c 2 (by decide) (by decide)) (ea_cons (ev_var 0) (ea_cons ev_int ea_nil))) (fun i j hi hj => by have h1 := hj.1; have h2 := hj.2; omega)) ea_nil)))) (fun ds hd => ?_)) ea_nil)) (fun y hy => ⟨[fourD y], ⟨y, hy, rfl⟩, rfl⟩)) (fun es he => ?_)) (ev_call k (ok_take c 6 (by decide) (by decide)) (ea_cons (ev_var 0) (ea_cons ev_int ea_nil))) (fun ys i hy hi => ?_))
    (fun y hy => tg_dat [_, _, _, _] k (tgs_cons (tg_name 2 k) (tgs_cons (tg_name 3 k) (tgs_cons (tg_name 4 k) (tgs_cons (tg_name 5 k) tgs_nil))))) (fun y hy => ?_)
  · obtain ⟨i, es, ⟨i1, i2⟩, ⟨es2, ⟨es3, ⟨j, es4, ⟨j1, j2⟩, rfl, rfl⟩, rfl⟩, rfl⟩, rfl⟩ := hd
    refine ⟨(i.toNat, 1, 1, j.toNat), ⟨⟨?_, ?_⟩, ⟨?_, ?_⟩, ⟨?_, ?_⟩, ⟨?_, ?_⟩, ?_⟩, ?_⟩
    · show 2 ≤ i.toNat; omega
    · show i.toNat ≤ 16; omega
    · exact Nat.le_of_ble_eq_true rfl
    · exact Nat.le_of_ble_eq_true rfl
    · exact Nat.le_of_ble_eq_true rfl
    · exact Nat.le_of_ble_eq_true rfl
    · show 0 < j.toNat; omega
    · show j.toNat ≤ 12; omega
    · show i.toNat ^ 1 ≤ 256; rw [Nat.pow_one]; omega
    · show PyData.tuple _ = .tuple [.int ((i.toNat : Nat) : Int), .int 1, .int 1, .int ((j.toNat : Nat) : Int)]
      rw [Int.toNat_of_nonneg (by omega), Int.toNat_of_nonneg (by omega)]
  · obtain ⟨y, _, rfl⟩ := he
    simp [five]
  · obtain ⟨es, ⟨y, hy, rfl⟩, rfl⟩ := hy
    obtain ⟨n, rfl, hn⟩ := drw_nat hi
    have e : five.map fourD ++ [fourD y] = (five ++ [y]).map fourD := by rw [List.map_append]; rfl
    have hl : n < (five ++ [y]).length := by rw [List.length_append]; exact hn
    refine ⟨_, rfl, (five ++ [y])[n], ?_, ?_⟩
    · rcases List.mem_append.mp (List.getElem_mem hl) with z | z
      · exact five_ok _ z
      · rw [List.mem_singleton.mp z]; exact hy
    · rw [e]
      exact atI_nat (by rw [List.getElem?_map, List.getElem?_eq_getElem hl]; rfl)
  obtain ⟨m, wd, hg, most⟩ := y
  obtain ⟨⟨m2, m16⟩, ⟨w0, w1⟩, ⟨g0', g1⟩, ⟨o0, o1⟩, few⟩ := hy
  have m27 : m ≤ 27 := by have : m ≤ 16 := m16; omega
  have sl := sigs_len m27
  have hm2 : 2 ≤ m := m2
  have zl : ((sigs m).zip (rolled m)).length ≤ 27 := by rw [List.length_zip]; omega
  have ecut : cut (sigs m) (some 2) none = (sigs m).drop 2 := cut_from _ 2
  refine srs_set 6 k (ev_call k (ok_l_signs c m) (ea_cons (ev_var 2) ea_nil)) ?_
  refine srs_lcm 7 [("_law_one", 8), ("_law_to", 9)] ((sigs m).zip (rolled m)) (fun z => dat K (.tuple [sgn z.1, sgn z.2])) (fun z => crowD ⟨[z.1], [], z.2⟩) k (it_zipS k (n_zip c) (ea_cons (ev_var 6) (ea_cons (ev_eq (ev_addS (l := [46] ++ (sigs m).drop 2) (m := [(sigs m).getD 1 0]) (ev_addS (l := [46]) (ev_txt [46]) (ev_eq (ev_slS (ev_var 6) (op_some ev_int) op_none (by omega)) (by rw [ecut])) (by simp; omega)) (ev_ixS (l := sigs m) (n := (sigs m).getD 1 0) (ev_var 6) ev_int (atI_nat (j := 1) (getD_at (by omega))) (by omega)) (by simp; omega)) (show _ = PyData.str (txt (rolled m)) by rfl)) ea_nil))) (fun z _ s0 H C cl fp => tg_dat _ k.blk (tgs_cons (tg_name 8 k.blk) (tgs_cons (tg_name 9 k.blk) tgs_nil))) (fun z _ s0 H C cl fp => ev_tup (ead_cons (ev_var 8) (ead_cons (ev_tup ead_nil) (ead_cons (ev_var 9) ead_nil)))) (by omega) ?_
  have hm17 : m < 17 := Nat.lt_succ_of_le m16
  obtain ⟨dA1, dA2⟩ := dF m hm17 hm2
  refine srs_set 10 k (ev_ruleX (p := fun r => Drawn r ∧ r.m = m) (so := "around") (m := m) (near := []) (ea_cons ev_str (ea_cons (ev_var 2) (ea_cons (ev_tupX (ds := []) ead_nil) (ea_cons (ev_slLX (pi := fun i => i = 0 ∨ i = (m : Nat)) k (ev_var 7) (ev_mulX (pi := drw 2) (qi := fun i => i = (m : Nat)) (ev_call k (ok_take c 2 (by decide) (by decide)) (ea_cons (ev_var 0) (ea_cons ev_int ea_nil))) (ev_IX (ev_var 2) rfl) (fun i j hi hj => ?_))) ea_nil)))) fun ys hy => ?_) ?_
  · have h1 := hi.1
    have h2 := hi.2
    subst hj
    refine ⟨by unfold CMul; right; omega, ?_⟩
    have e : i = 0 ∨ i = 1 := by omega
    rcases e with e | e
    · left; rw [e, Int.zero_mul]
    · right; rw [e, Int.one_mul]
  · obtain ⟨i, hi, rfl⟩ := hy
    rcases hi with rfl | rfl
    · exact ⟨⟨"around", m, [], .cell []⟩, ⟨dA2, rfl⟩, rfl, rfl, rfl, by rw [show (0 : Int) = ((0 : Nat) : Int) from rfl, cut_to]; rfl⟩
    · refine ⟨⟨"around", m, [], .cell (rowsZ m)⟩, ⟨dA1, rfl⟩, rfl, rfl, rfl, ?_⟩
      rw [cut_to, List.take_of_length_le (by rw [List.length_map, List.length_zip]; omega)]
      show (rowsZ m).map crowD = _
      unfold rowsZ; rw [List.map_map]; rfl
  refine srs_exT 10 fun r hr => ?_
  obtain ⟨dr, rfl⟩ := hr
  have F := fit r wd hg most dr m16 w0 g0' w1 g1 o0 o1 few
  refine srs_ret (ev_callG k g0 (ok_l_alike c F.rp) (ea_cons (ev_stillL (ev_eqO (ev_call k (ok_search c r wd hg most F.sea) (ea_cons (ev_call k (ok_l_made c r.so r.m r.near r.rows dr.ok) (ea_cons (ev_var 10) ea_nil)) (ea_cons (ev_var 3) (ea_cons (ev_var 4) (ea_cons (ev_var 5) ea_nil))))) F.same)) (ea_cons (ev_stillL (ev_call k (ok_l_due c r wd hg most F.due) (ea_cons (ev_var 10) (ea_cons (ev_var 3) (ea_cons (ev_var 4) (ea_cons (ev_var 5) ea_nil)))))) ea_nil)))
end
end Cs

set_option Elab.async false
set_option linter.all false
set_option autoImplicit false
set_option maxRecDepth 100000
set_option maxHeartbeats 4000000
/-! law's end: what is refused. -/
namespace Cs
open PySem PySem.Spec PyProof.Rows L2
abbrev nmL : List Str := ["_law_script", "_law_bag_here", "_law_rule_here", "_law_made_here", "_law_sizes", "_law_wide", "_law_high", "_law_most", "_law_due_here", "_law_again", "_law_found", "_law_size", "_law_great", "_law_sort", "_law_many", "_law_rows", "_law_restless", "_law_told"]
def pairD (y : Nat × Nat) : PyData := .tuple [.int (y.1 : Nat), .int (y.2 : Nat)]
def greats : List (Nat × Nat) := [(3, 3), (3, 4), (4, 4), (4, 3)]
def strangeC : List CRow := [⟨[46], [], 97⟩]
def strangeB : List BRow := [⟨[[46], [46], [46], [46]], [97, 46, 46, 46]⟩]
def stranges : List Rws := [.cell strangeC, .block strangeB]
def manyD : PyData := .tuple [.str "many", .int 256]
def restD : PyData := .tuple [.str "restless", .bool true]
theorem shM : SeqAt.shaped manyD = true := by decide +kernel
theorem shL : SeqAt.shaped (.list [manyD, restD, restD]) = true := by decide +kernel
theorem eqM : PyData.eqv manyD manyD = true := by simp [manyD, PyData.eqv, PyData.eqvAll]
theorem eqL : PyData.eqv (.list [manyD, restD, restD]) (.list [manyD, restD, restD]) = true := by simp [manyD, restD, PyData.eqv, PyData.eqvAll]
def strangeSo (so : Str) (rw : Rws) : Str := match rw with
  | .cell _ => so
  | .block _ => "blocks"
theorem strange_ok : ∀ so ∈ ahs, ∀ rw ∈ stranges, (Ru.mk (strangeSo so rw) 2 [] rw).Ok ∧ keepsG ⟨strangeSo so rw, 2, [], rw⟩ = false := by
  have h : ∀ so ∈ ahs, ∀ rw ∈ stranges, (ruB ⟨strangeSo so rw, 2, [], rw⟩ && !keepsG ⟨strangeSo so rw, 2, [], rw⟩) = true := by
    intro so h1 rw h2
    simp only [ahs, stranges, List.mem_cons, List.not_mem_nil, or_false] at h1 h2
    rcases h1 with rfl | rfl <;> rcases h2 with rfl | rfl <;> decide +kernel
  intro so h1 rw h2
  have q := h so h1 rw h2
  rw [Bool.and_eq_true, Bool.not_eq_true'] at q
  exact ⟨ruB_ok q.1, q.2⟩
theorem wide_ok : ∀ so ∈ ahs, ∀ m, 17 ≤ m → m < 20 → (Ru.mk so m [] (.cell [])).Ok ∧ keepsG ⟨so, m, [], .cell []⟩ = true ∧ 256 < (sigs m).length ^ (1 * 2) := by
  have h : ∀ so ∈ ahs, ∀ m, m < 20 → 17 ≤ m → ((ruB ⟨so, m, [], .cell []⟩ && keepsG ⟨so, m, [], .cell []⟩) && decide (256 < (sigs m).length ^ (1 * 2))) = true := by
    intro so h1
    simp only [ahs, List.mem_cons, List.not_mem_nil, or_false] at h1
    rcases h1 with rfl | rfl <;> decide +kernel
  intro so h1 m h2 h3
  have q := h so h1 m h3 h2
  rw [Bool.and_eq_true, Bool.and_eq_true] at q
  exact ⟨ruB_ok q.1.1, q.1.2, of_decide_eq_true q.2⟩
theorem great_big : ∀ y ∈ greats, ∀ m, m = 2 ∨ m = 3 ∨ m = 4 → y.1 ≤ 30 ∧ y.2 ≤ 30 ∧ 256 < (sigs m).length ^ (y.1 * y.2) := by
  intro y hy m hm
  simp only [greats, List.mem_cons, List.not_mem_nil, or_false] at hy
  rcases hm with rfl | rfl | rfl <;> rcases hy with rfl | rfl | rfl | rfl <;> decide +kernel
section
variable {P : Program} {w : World} {K : PySem.W.Frag} {mg : Str → Option Value} {base : Heap}
theorem law_end (c : Ctx w K mg) (ns : List Int) (r : Ru) (hr : Lvl r) {W : Option Addr} {cdv : Value} {A : Around} {outer : List Env} {s : Shared} {H : Hp} {E : XK} {X : Cx} (eX : X = (cxOf CX0 P w K mg base nmL "law" (defScope (top 105)) (He.ga K "law") cdv A outer s H E).nox) (k : Cok P w K mg base 9 X) :
    Srs X K W ((defBody (top 105)).drop 11) (envA W [some (Dt K (.list (ns.map .int))), some .bag, some (.fro (Ru.tup K r)), some (r.ent K), none, none, none, none, none, none, none, none, none, none, none, none, none, none]) noA noA noA (Dt K (.bool true)) := by
  subst eX
  refine srs_set 12 k (ev_pickL greats pairD k (ev_eq (ev_lst (ead_cons (ev_tup (ead_cons ev_int (ead_cons ev_int ead_nil))) (ead_cons (ev_tup (ead_cons ev_int (ead_cons ev_int ead_nil))) (ead_cons (ev_tup (ead_cons ev_int (ead_cons ev_int ead_nil))) (ead_cons (ev_tup (ead_cons ev_int (ead_cons ev_int ead_nil))) ead_nil))))) rfl) (ev_call k (ok_take c 4 (by decide) (by decide)) (ea_cons (ev_var 1) (ea_cons ev_int ea_nil)))) ?_
  refine srs_exD 12 fun gr hgr => ?_
  obtain ⟨big1, big2, big3⟩ := great_big gr hgr r.m hr.2
  refine srs_cons (sr_par 13 14 k (ea_cons (ev_pickL ahs .str k (ev_lst (ead_cons ev_str (ead_cons ev_str ead_nil))) (ev_call k (ok_take c 2 (by decide) (by decide)) (ea_cons (ev_var 1) (ea_cons ev_int ea_nil)))) (ea_cons (ev_toX (q := fun m : Nat => 17 ≤ m ∧ m < 20) (enc2 := fun m => .int (m : Nat)) (ev_addX (pi := fun i => i = 17) (qi := drw 3) (ri := fun i => 17 ≤ i ∧ i < 20) (ev_IX ev_int rfl) (ev_call k (ok_take c 3 (by decide) (by decide)) (ea_cons (ev_var 1) (ea_cons ev_int ea_nil))) (fun i j hi hj => by have h1 := hj.1; have h2 := hj.2; omega)) fun i hi => ⟨i.toNat, ⟨by omega, by omega⟩, by show PyData.int i = .int ((i.toNat : Nat) : Int); congr 1; omega⟩) ea_nil))) ?_
  refine srs_exD 13 fun so hso => ?_
  refine srs_exD 14 fun m hm => ?_
  refine srs_set 15 k (ev_pickL stranges (fun rw => .list rw.D) k (ev_eq (ev_lst (ead_cons (ev_lst (ead_cons (ev_tup (ead_cons ev_str (ead_cons (ev_tup ead_nil) (ead_cons ev_str ead_nil)))) ead_nil)) (ead_cons (ev_lst (ead_cons (ev_tup (ead_cons (ev_tup (ead_cons ev_str (ead_cons ev_str (ead_cons ev_str (ead_cons ev_str ead_nil))))) (ead_cons ev_str ead_nil))) ead_nil)) ead_nil))) rfl) (ev_call k (ok_take c 2 (by decide) (by decide)) (ea_cons (ev_var 1) (ea_cons ev_int ea_nil)))) ?_
  refine srs_exD 15 fun rw hrw => ?_
  obtain ⟨sOk, sG⟩ := strange_ok so hso rw hrw
  have e16 : ∀ {Γ : En} {p1 p2 p3 p4 p5 p6 p7 p8 p9 q1 q2 q3 q4 : Pos} {j1 j2 j3 : Nat}, Γ[13]? = some (some (Dt K (.str so))) → Γ[15]? = some (some (Dt K (.list rw.D))) → Ev (cxOf CX0 P w K mg base nmL "law" (defScope (top 105)) (He.ga K "law") cdv A outer s H E).nox K W Γ (.Subscript (.List [.Name "_law_sort" p1, .Constant (.str "blocks") j1 p2] p3) (.Call (.Name "int" p4) [.Compare (.Call (.Name "len" p5) [.Subscript (.Name "_law_rows" p6) (.Constant (.int 0) j2 p7) p8] [] p9) [.Eq] [.Constant (.int 2) j3 q1] q2] [] q3) q4) (Dt K (.str (strangeSo so rw))) := by
    intro Γ p1 p2 p3 p4 p5 p6 p7 p8 p9 q1 q2 q3 q4 j1 j2 j3 g13 g15
    simp only [stranges, List.mem_cons, List.not_mem_nil, or_false] at hrw
    rcases hrw with rfl | rfl
    · exact ev_ixL (i := 0) (ds := [.str so, .str "blocks"]) k (ev_lst (ead_cons (ev_var 13 (he := g13)) (ead_cons ev_str ead_nil))) (ev_eq (ev_intB (bv := false) k (n_int c) (ea_cons (ev_eq (ev_eqI k (ev_lenT k (n_len c) (ea_cons (ev_ixL (d := crowD ⟨[46], [], 97⟩) k (ev_var 15 (he := g15)) ev_int rfl) ea_nil)) ev_int) rfl) ea_nil)) rfl) rfl
    · exact ev_ixL (i := 1) (ds := [.str so, .str "blocks"]) k (ev_lst (ead_cons (ev_var 13 (he := g13)) (ead_cons ev_str ead_nil))) (ev_eq (ev_intB (bv := true) k (n_int c) (ea_cons (ev_eq (ev_eqI k (ev_lenT k (n_len c) (ea_cons (ev_ixL (d := browD ⟨[[46], [46], [46], [46]], [97, 46, 46, 46]⟩) k (ev_var 15 (he := g15)) ev_int rfl) ea_nil)) ev_int) rfl) ea_nil)) rfl) rfl
  refine srs_set 16 k (ev_make k (ok_Rule c (strangeSo so rw) 2 [] rw sOk) (ea_cons (e16 rfl rfl) (ea_cons ev_int (ea_cons (ev_tupX (ds := []) ead_nil) (ea_cons (ev_var 15) ea_nil))))) ?_
  refine srs_set 17 k (ev_lst (ead_cons (ev_call k (ok_l_refused_many c r hr.1.ok hr.1.keeps gr.1 gr.2 big1 big2 big3) (ea_cons (ev_var 3) (ea_cons (ev_ixT (d := .int (gr.1 : Nat)) k (ev_var 12) ev_int rfl) (ea_cons (ev_ixT (d := .int (gr.2 : Nat)) k (ev_var 12) ev_int rfl) ea_nil)))) ead_nil)) ?_
  refine srs_set 17 k (ev_eq (ev_cat (ds := [manyD]) (es := ([2, 4] : List Nat).map fun _ => restD) c.nk k (ev_var 17) (ev_lcm [("_law_size", 11)] ([2, 4] : List Nat) (fun n => dat K (.int (n : Nat))) (fun _ => restD) k (it_tup ([2, 4] : List Nat) (fun n => .int (n : Nat)) k (ev_tup (ead_cons ev_int (ead_cons ev_int ead_nil)))) (fun y _ s0 H C cl fp => tg_name 11 k.blk) (fun y _ s0 H C cl fp => ev_call k.blk (ok_l_refused_restless c ⟨strangeSo so rw, 2, [], rw⟩ sOk sG y y) (ea_cons (ev_var 16) (ea_cons (ev_var 11) (ea_cons (ev_var 11) ea_nil)))) (by decide)) (Nat.le_of_ble_eq_true rfl)) (show _ = PyData.list [manyD, restD, restD] from rfl)) ?_
  obtain ⟨wOk, wG, wBig⟩ := wide_ok so hso m hm.1 hm.2
  refine srs_no (tst_eq (tst_neD (d1 := manyD) (d2 := manyD) k shM shM (ev_call k (ok_l_refused_many c ⟨so, m, [], .cell []⟩ wOk wG 1 2 (by decide) (by decide) wBig) (ea_cons (ev_make k (ok_Rule c so m [] (.cell []) wOk) (ea_cons (ev_var 13) (ea_cons (ev_var 14) (ea_cons (ev_tupX (ds := []) ead_nil) (ea_cons (ev_lst ead_nil) ea_nil))))) (ea_cons ev_int (ea_cons ev_int ea_nil)))) (ev_tup (ead_cons ev_str (ead_cons ev_int ead_nil)))) (by rw [eqM]; rfl)) ?_
  have big6 : ((r.m : Nat) : Int) = 3 → 256 < (sigs r.m).length ^ (2 * 3) := fun z => by
    have z2 : r.m = 3 := by omega
    rw [z2]; decide +kernel
  refine srs_no (tst_eq (tst_w (tsw_and (c1 := decide (((r.m : Nat) : Int) = 3)) (c2 := false) (tst_eqI k (ev_lr1 k (ev_var 2)) ev_int) fun z => tsw_and1 (tst_eq (tst_neD (d1 := manyD) (d2 := manyD) k shM shM (ev_call k (ok_l_refused_many c r hr.1.ok hr.1.keeps 2 3 (by decide) (by decide) (big6 (of_decide_eq_true z))) (ea_cons (ev_var 3) (ea_cons ev_int (ea_cons ev_int ea_nil)))) (ev_tup (ead_cons ev_str (ead_cons ev_int ead_nil)))) (by rw [eqM]; rfl)))) (Bool.and_false _)) ?_
  exact srs_ret (ev_eq (ev_eqD (d2 := .list [manyD, restD, restD]) k shL shL (ev_var 17) (ev_lst (ead_cons (ev_tup (ead_cons ev_str (ead_cons ev_int ead_nil))) (ead_cons (ev_tup (ead_cons ev_str (ead_cons ev_bl ead_nil))) (ead_cons (ev_tup (ead_cons ev_str (ead_cons ev_bl ead_nil))) ead_nil))))) (congrArg PyData.bool eqL))
end
end Cs

set_option Elab.async false
set_option linter.all false
set_option autoImplicit false
set_option maxRecDepth 100000
set_option maxHeartbeats 4000000
/-! law. -/
namespace Cs
open PySem PySem.Spec PyProof.Rows L2
def capN (a b : Bool) : Nat := if a then (if b then 1 else 2) else 4
theorem cap_ok (a b : Bool) : 0 < capN a b ∧ capN a b ≤ 4 := by cases a <;> cases b <;> decide
def stillD : PyData := .tuple [.tuple [.str "a"], .tuple [.str "still", .int 1, .int 0, .int 0]]
def sizeOf (wd hg : Nat) : Nat × Nat := if wd * hg = 2 then (hg, wd) else (1, 1)
structure SzOk (m : Nat) (y : Nat × Nat) : Prop where
  a0 : 0 < y.1
  a1 : y.1 ≤ 4
  b0 : 0 < y.2
  b1 : y.2 ≤ 4
  few : m ^ (y.1 * y.2) ≤ 256
theorem size_ok {m : Nat} (m4 : m ≤ 4) (m2 : 2 ≤ m) {y : Nat × Nat} (h : SzOk m y) : SzOk m (sizeOf y.1 y.2) := by
  unfold sizeOf
  by_cases e : y.1 * y.2 = 2
  · rw [if_pos e]
    exact ⟨h.b0, h.b1, h.a0, h.a1, by show m ^ (y.2 * y.1) ≤ 256; rw [Nat.mul_comm]; exact h.few⟩
  · rw [if_neg e]
    exact ⟨by decide, by decide, by decide, by decide, by show m ^ (1 * 1) ≤ 256; rw [show 1 * 1 = 1 from rfl, Nat.pow_one]; omega⟩
section
variable {P : Program} {w : World} {K : PySem.W.Frag} {mg : Str → Option Value} {base : Heap}
theorem law_mid (c : Ctx w K mg) (fit : FitAll) (ns : List Int) (r : Ru) (hr : Lvl r) (szs : List (Nat × Nat)) (hl : szs.length = 6) (hs : ∀ y ∈ szs, SzOk r.m y) {W : Option Addr} {cdv : Value} {A : Around} {outer : List Env} {s : Shared} {H : Hp} {E : XK} {X : Cx} (eX : X = (cxOf CX0 P w K mg base nmL "law" (defScope (top 105)) (He.ga K "law") cdv A outer s H E).nox) (k : Cok P w K mg base 9 X) (g0 : X.A.guards = some []) :
    Srs X K W ((defBody (top 105)).drop 7) (envA W [some (Dt K (.list (ns.map .int))), some .bag, some (.fro (Ru.tup K r)), some (r.ent K), some (Dt K (.list (szs.map pairD))), none, none, none, none, none, none, none, none, none, none, none, none, none]) noA noA noA (Dt K (.bool true)) := by
  have eX0 := eX
  subst eX
  have m2 : 2 ≤ r.m := by have := hr.2; omega
  have m4 : r.m ≤ 4 := by have := hr.2; omega
  let Γ0 : Nat × Nat → En := fun y => [some (Dt K (.list (ns.map .int))), some .bag, some (.fro (Ru.tup K r)), some (r.ent K), some (Dt K (.list (szs.map pairD))), some (Dt K (.int (y.1 : Nat))), some (Dt K (.int (y.2 : Nat))), none, none, none, none, none, none, none, none, none, none, none]
  refine srs_unpX (p := fun y => y ∈ szs) (enc := pairD) (Γ' := Γ0) (ev_pickL szs pairD k (ev_var 4) (by rw [hl]; exact ev_call k (ok_take c 6 (by decide) (by decide)) (ea_cons (ev_var 1) (ea_cons ev_int ea_nil)))) (fun y hy => tg_dat [_, _] k (tgs_cons (tg_name 5 k) (tgs_cons (tg_name 6 k) tgs_nil))) (fun y hy => ?_)
  have yo := hs y hy
  obtain ⟨wd, hg⟩ := y
  obtain ⟨w0, w1, h0, h1, few⟩ := yo
  have area : wd * hg ≤ 16 := Nat.mul_le_mul w1 h1
  have eprod : ((wd : Int) * (hg : Int)) = ((wd * hg : Nat) : Int) := by rw [Int.natCast_mul]
  let c1 : Bool := decide (((wd * hg : Nat) : Int) > 2)
  let c2 : Bool := decide (((nearD r.near).length : Int) > 2)
  have cc := cap_ok c1 c2
  have hmul : ∀ {Γ : En} {p1 p2 p3 : Pos}, Γ[5]? = some (some (Dt K (.int (wd : Nat)))) → Γ[6]? = some (some (Dt K (.int (hg : Nat)))) → Ev (cxOf CX0 P w K mg base nmL "law" (defScope (top 105)) (He.ga K "law") cdv A outer s H E).nox K W Γ (.BinOp (.Name "_law_wide" p1) .Mult (.Name "_law_high" p2) p3) (Dt K (.int ((wd * hg : Nat) : Int))) :=
    fun {Γ p1 p2 p3} g5 g6 => ev_eq (ev_mul (ev_var 5 (he := g5)) (ev_var 6 (he := g6)) (by unfold CMul; left; omega)) (congrArg PyData.int eprod)
  refine srs_set 7 k (ev_toX (q := fun n : Nat => 0 < n ∧ n ≤ 4) (enc2 := fun n => .int (n : Nat)) (ev_addX (pi := fun i => i = 1) (qi := drw (capN c1 c2)) (ri := fun i => 1 ≤ i ∧ i ≤ 4) (ev_IX ev_int rfl) (ev_call k (ok_take c (capN c1 c2) cc.1 (Nat.le_trans cc.2 (by decide))) (ea_cons (ev_var 1) (ea_cons
    (ev_ixL (i := (if c1 then 1 else 0) + (if c1 && c2 then 1 else 0)) (ds := [.int 4, .int 2, .int 1]) (d := .int ((capN c1 c2 : Nat) : Int)) k (ev_lst (ead_cons ev_int (ead_cons ev_int (ead_cons ev_int ead_nil)))) (ev_add (ev_intB (bv := c1) k (n_int c) (ea_cons (ev_cmp op_gt rd_gt (hmul rfl rfl) ev_int) ea_nil)) (ev_intB (bv := c1 && c2) k (n_int c) (ea_cons (ev_and (c1 := c1) (c2 := c2) (ev_cmp op_gt rd_gt (hmul rfl rfl) ev_int) fun _ => ev_one (ev_cmp op_gt rd_gt (ev_lenT k (n_len c) (ea_cons (ev_xd (ev_lr2 k (ev_var 2))) ea_nil)) ev_int)) ea_nil))) (by cases c1 <;> cases c2 <;> rfl)) ea_nil))) (fun i j hi hj => by have h1 := hj.1; have h2 := hj.2; omega)) fun i hi => ⟨i.toNat, ⟨by omega, by omega⟩, by show PyData.int i = .int ((i.toNat : Nat) : Int); congr 1; omega⟩) ?_
  refine srs_exD 7 fun most ho => ?_
  have F := fit r wd hg most hr.1 (by omega) w0 h0 (by have : wd ≤ 4 := w1; omega) (by have : hg ≤ 4 := h1; omega) ho.1 (by omega) few
  have F1 := fit r wd hg 1 hr.1 (by omega) w0 h0 (by have : wd ≤ 4 := w1; omega) (by have : hg ≤ 4 := h1; omega) (by decide) (by decide) few
  have so2 : SzOk r.m (sizeOf wd hg) := size_ok m4 m2 (y := (wd, hg)) ⟨w0, w1, h0, h1, few⟩
  have F2 := fit r (sizeOf wd hg).1 (sizeOf wd hg).2 most hr.1 (by omega) so2.a0 so2.b0 (by have := so2.a1; omega) (by have := so2.b1; omega) ho.1 (by omega) so2.few
  let dd := (texts (sigs r.m) (wd * hg)).flatMap (hitL r wd hg most)
  refine srs_set 8 k (ev_stillL (ev_call k (ok_l_due c r wd hg most F.due) (ea_cons (ev_var 2) (ea_cons (ev_var 5) (ea_cons (ev_var 6) (ea_cons (ev_var 7) ea_nil)))))) ?_
  let Γf : En := [some (Dt K (.list (ns.map .int))), some .bag, some (.fro (Ru.tup K r)), some (r.ent K), some (Dt K (.list (szs.map pairD))), some (Dt K (.int (wd : Nat))), some (Dt K (.int (hg : Nat))), some (Dt K (.int (most : Nat))), some (Dt K (.list dd)), none, none, none, none, none, none, none, none, none]
  refine srs_cons (M := envA W Γf) (sr_for (List.range 2) (fun i => dat K (.int (i : Nat))) (fun _ => Γf) (fun _ i => Γf.set 9 (some (Dt K (.int (i : Nat))))) k (it_range1 (n := 2) k (n_range c) (ea_cons ev_int ea_nil)) (Sub.refl _) (fun pre i post _ => tg_name 9 k) (fun pre i post e => ?_) (fun _ _ _ _ z => z)) ?_
  · refine srs_if (cv := decide (((i : Nat) : Int) = 1) && decide (((wd * hg : Nat) : Int) < 3)) (M := envA W (Γf.set 9 (some (Dt K (.int (i : Nat)))))) (tst_w (tsw_and (tst_eqI k (ev_var 9) ev_int) fun _ => tsw_and1 (tst_cmp1 op_lt rd_lt (hmul rfl rfl) ev_int))) (fun _ => ?_) (fun _ => srs_end) ?_
    · refine srs_no (tst_eq (tst_neD k F1.rp.sp F1.rp.sp (ev_stillL (ev_eqO (ev_call k (ok_search c r wd hg 1 F1.sea) (ea_cons (ev_var 3) (ea_cons (ev_var 5) (ea_cons (ev_var 6) (ea_cons ev_int ea_nil))))) F1.same)) (ev_stillL (ev_call k (ok_l_due c r wd hg 1 F1.due) (ea_cons (ev_var 2) (ea_cons (ev_var 5) (ea_cons (ev_var 6) (ea_cons ev_int ea_nil))))))) (by rw [(eqv_pur _ _ F1.rp.pu F1.rp.pu).mpr rfl]; rfl)) srs_end
    refine srs_set 10 k (ev_eqO (ev_call k (ok_search c r wd hg most F.sea) (ea_cons (ev_var 3) (ea_cons (ev_var 5) (ea_cons (ev_var 6) (ea_cons (ev_var 7) ea_nil))))) F.same) ?_
    refine srs_no (tst_borrow 10 rfl (tst_eq (tst_not (tst_val (ev_callG k g0 (ok_l_alike c F.rp) (ea_cons (ev_var 10) (ea_cons (ev_var 8) ea_nil))))) rfl)) ?_
    refine srs_cons (sr_append (ds := dd) 10 k (ev_tup (ead_cons (ev_tup (ead_cons ev_str ead_nil)) (ead_cons (ev_tup (ead_cons ev_str (ead_cons ev_int (ead_cons ev_int (ead_cons ev_int ead_nil))))) ead_nil))) (Nat.lt_of_le_of_lt F.less (by decide))) ?_
    refine srs_cons (sr_reverse 10 k) ?_
    refine srs_set 11 k (ev_ixL (i := if decide (((wd * hg : Nat) : Int) = 2) then 1 else 0) (ds := [pairD (1, 1), pairD (hg, wd)]) (d := pairD (sizeOf wd hg)) k (ev_lst (ead_cons (ev_tup (ead_cons ev_int (ead_cons ev_int ead_nil))) (ead_cons (ev_tup (ead_cons (ev_var 6) (ead_cons (ev_var 5) ead_nil))) ead_nil))) (ev_intB k (n_int c) (ea_cons (ev_eqI k (hmul rfl rfl) ev_int) ea_nil)) ?_) ?_
    · unfold sizeOf
      by_cases e2 : wd * hg = 2
      · rw [if_pos e2, e2]; rfl
      · rw [if_neg e2, show decide (((wd * hg : Nat) : Int) = 2) = false from decide_eq_false (by omega)]; rfl
    refine srs_no (tst_eq (tst_not (tst_val (ev_callG k g0 (ok_l_alike c F2.rp) (ea_cons (ev_stillL (ev_eqO (ev_call k (ok_search c r (sizeOf wd hg).1 (sizeOf wd hg).2 most F2.sea) (ea_cons (ev_var 3) (ea_cons (ev_ixT (d := .int ((sizeOf wd hg).1 : Nat)) k (ev_var 11) ev_int rfl) (ea_cons (ev_ixT (d := .int ((sizeOf wd hg).2 : Nat)) k (ev_var 11) ev_int rfl) (ea_cons (ev_var 7) ea_nil))))) F2.same))
      (ea_cons (ev_stillL (ev_call k (ok_l_due c r (sizeOf wd hg).1 (sizeOf wd hg).2 most F2.due) (ea_cons (ev_var 2) (ea_cons (ev_ixT (d := .int ((sizeOf wd hg).1 : Nat)) k (ev_var 11) ev_int rfl) (ea_cons (ev_ixT (d := .int ((sizeOf wd hg).2 : Nat)) k (ev_var 11) ev_int rfl) (ea_cons (ev_var 7) ea_nil)))))) ea_nil))))) rfl) ?_
    exact srs_nil fun _ _ _ _ z => z.sub ⟨.inr rfl, .inr rfl, .inr rfl, .inr rfl, .inr rfl, .inr rfl, .inr rfl, .inr rfl, .inr rfl, .inl rfl, .inl rfl, .inl rfl, .inr rfl, .inr rfl, .inr rfl, .inr rfl, .inr rfl, .inr rfl, trivial⟩
  · exact srs_pre (law_end c ns r hr eX0 k) fun _ _ _ _ z => z.sub ⟨.inr rfl, .inr rfl, .inr rfl, .inr rfl, .inl rfl, .inl rfl, .inl rfl, .inl rfl, .inl rfl, .inr rfl, .inr rfl, .inr rfl, .inr rfl, .inr rfl, .inr rfl, .inr rfl, .inr rfl, .inr rfl, trivial⟩
theorem abs_nn (ns : List Int) : ∀ n ∈ (ns.take 63).map (fun i => if i < 0 then -i else i), 0 ≤ n := by
  intro n h
  obtain ⟨i, _, rfl⟩ := List.mem_map.mp h
  by_cases e : i < 0
  · rw [if_pos e]; omega
  · rw [if_neg e]; omega
def szs2 : List (Nat × Nat) := [(1, 1), (2, 2), (1, 4), (4, 1), (3, 2), (1, 2)]
def szs3 : List (Nat × Nat) := [(1, 1), (1, 2), (2, 1), (1, 3), (3, 1), (2, 2)]
def szs4 : List (Nat × Nat) := [(1, 1), (1, 2), (2, 1), (1, 1), (1, 3), (3, 1)]
instance (m : Nat) (y : Nat × Nat) : Decidable (SzOk m y) := if h : 0 < y.1 ∧ y.1 ≤ 4 ∧ 0 < y.2 ∧ y.2 ≤ 4 ∧ m ^ (y.1 * y.2) ≤ 256 then .isTrue ⟨h.1, h.2.1, h.2.2.1, h.2.2.2.1, h.2.2.2.2⟩ else .isFalse fun z => h ⟨z.a0, z.a1, z.b0, z.b1, z.few⟩
theorem s2_ok : ∀ y ∈ szs2, SzOk 2 y := by decide +kernel
theorem s3_ok : ∀ y ∈ szs3, SzOk 3 y := by decide +kernel
theorem s4_ok : ∀ y ∈ szs4, SzOk 4 y := by decide +kernel
theorem ok_law (c : Ctx w K mg) (fit : FitAll) (ns : List Int) : DfG P w K mg base "law" 10 false [Dt K (.list (ns.map .int))] (Dt K (.bool true)) := by
  obtain ⟨fd, F0⟩ := d_law c
  refine mk_dg nmL (ps := ["_law_script"]) (N := noA) F0 (g_law c) ⟨rfl, rfl, rfl, by decide +kernel, rfl, by decide +kernel, by decide +kernel⟩ (fun _ _ _ _ _ _ us hl => match us, hl with | [_], _ => rfl) rfl (by simp [noOwns, notOwn]) (fun W X hW k g0 hX => ?_) (fun _ _ _ _ _ z => z.elim)
  obtain ⟨cdv, A, outer, s, H, E, eX⟩ := hX
  have eX0 := eX
  subst eX
  obtain rfl := hW rfl
  refine srs_set 1 k (ev_call k (ok_l_bag c ns) (ea_cons (ev_var 0) ea_nil)) ?_
  refine srs_bagOn 1 (ns := (ns.take 63).map (fun i => if i < 0 then -i else i)) (x := 0) (y := 1234567891) (z := 0) (by decide) (by decide) (by decide) (abs_nn ns) (by show some (some (Ent.own (lstO K (bag0 ns)))) = _; unfold bag0 intsD; rw [List.map_map]; rfl) (fun j e hj he => ?_) fun b => ?_
  · rcases j with _ | _ | j
    · cases he; trivial
    · exact absurd rfl hj
    · have e2 : (List.replicate 16 (none : Option Ent))[j]? = some (some e) := he
      rw [List.getElem?_replicate] at e2
      split at e2 <;> cases e2
  refine srs_ifB (Bv := fun _ => True) (tst_any0 (ev_call k (ok_take c 8 (by decide) (by decide)) (ea_cons (ev_var 1) (ea_cons ev_int ea_nil))) ev_int) (fun _ => srs_ret (ev_callG k g0 (ok_l_full_right c fit) (ea_cons (ev_var 1) ea_nil))) ?_
  refine srs_set 2 k (ev_call k (ok_lively c) (ea_cons (ev_var 1) ea_nil)) ?_
  refine srs_exT 2 fun r hr => ?_
  refine srs_set 3 k (ev_call k (ok_l_made c r.so r.m r.near r.rows hr.1.ok) (ea_cons (ev_var 2) ea_nil)) ?_
  refine srs_set 4 k (ev_eq (ev_lst (ead_cons (ev_tup (ead_cons ev_int (ead_cons ev_int ead_nil))) (ead_cons (ev_tup (ead_cons ev_int (ead_cons ev_int ead_nil))) (ead_cons (ev_tup (ead_cons ev_int (ead_cons ev_int ead_nil))) (ead_cons (ev_tup (ead_cons ev_int (ead_cons ev_int ead_nil))) (ead_cons (ev_tup (ead_cons ev_int (ead_cons ev_int ead_nil))) (ead_cons (ev_tup (ead_cons ev_int (ead_cons ev_int ead_nil))) ead_nil))))))) (show _ = PyData.list (szs3.map pairD) from rfl)) ?_
  let Γz : List (Nat × Nat) → En := fun l => [some (Dt K (.list (ns.map .int))), some .bag, some (.fro (Ru.tup K r)), some (r.ent K), some (Dt K (.list (l.map pairD))), none, none, none, none, none, none, none, none, none, none, none, none, none]
  let z2 := if r.m = 2 then szs2 else szs3
  let z4 := if r.m = 4 then szs4 else z2
  refine srs_if (cv := decide (((r.m : Nat) : Int) = 2)) (M := envA (some b) (Γz z2)) (tst_eqI k (ev_lr1 k (ev_var 2)) ev_int) (fun e => ?_) (fun e => ?_) ?_
  · have e2 : r.m = 2 := by have := of_decide_eq_true e; omega
    have ez : z2 = szs2 := if_pos e2
    rw [ez]
    exact srs_set 4 k (ev_eq (ev_lst (ead_cons (ev_tup (ead_cons ev_int (ead_cons ev_int ead_nil))) (ead_cons (ev_tup (ead_cons ev_int (ead_cons ev_int ead_nil))) (ead_cons (ev_tup (ead_cons ev_int (ead_cons ev_int ead_nil))) (ead_cons (ev_tup (ead_cons ev_int (ead_cons ev_int ead_nil))) (ead_cons (ev_tup (ead_cons ev_int (ead_cons ev_int ead_nil))) (ead_cons (ev_tup (ead_cons ev_int (ead_cons ev_int ead_nil))) ead_nil))))))) (show _ = PyData.list (szs2.map pairD) from rfl)) srs_end
  · have e2 : r.m ≠ 2 := by have := of_decide_eq_false e; omega
    have ez : z2 = szs3 := if_neg e2
    rw [ez]
    exact srs_end
  refine srs_if (cv := decide (((r.m : Nat) : Int) = 4)) (M := envA (some b) (Γz z4)) (tst_eqI k (ev_lr1 k (ev_var 2)) ev_int) (fun e => ?_) (fun e => ?_) ?_
  · have e2 : r.m = 4 := by have := of_decide_eq_true e; omega
    have ez : z4 = szs4 := if_pos e2
    rw [ez]
    exact srs_set 4 k (ev_eq (ev_lst (ead_cons (ev_tup (ead_cons ev_int (ead_cons ev_int ead_nil))) (ead_cons (ev_tup (ead_cons ev_int (ead_cons ev_int ead_nil))) (ead_cons (ev_tup (ead_cons ev_int (ead_cons ev_int ead_nil))) (ead_cons (ev_tup (ead_cons ev_int (ead_cons ev_int ead_nil))) (ead_cons (ev_tup (ead_cons ev_int (ead_cons ev_int ead_nil))) (ead_cons (ev_tup (ead_cons ev_int (ead_cons ev_int ead_nil))) ead_nil))))))) (show _ = PyData.list (szs4.map pairD) from rfl)) srs_end
  · have e2 : r.m ≠ 4 := by have := of_decide_eq_false e; omega
    have ez : z4 = z2 := if_neg e2
    rw [ez]
    exact srs_end
  have hz : z4.length = 6 ∧ ∀ y ∈ z4, SzOk r.m y := by
    rcases hr.2 with e | e | e
    · have : z4 = szs2 := by show (if r.m = 4 then szs4 else if r.m = 2 then szs2 else szs3) = _; rw [e]; rfl
      rw [this, e]; exact ⟨rfl, s2_ok⟩
    · have : z4 = szs3 := by show (if r.m = 4 then szs4 else if r.m = 2 then szs2 else szs3) = _; rw [e]; rfl
      rw [this, e]; exact ⟨rfl, s3_ok⟩
    · have : z4 = szs4 := by show (if r.m = 4 then szs4 else if r.m = 2 then szs2 else szs3) = _; rw [e]; rfl
      rw [this, e]; exact ⟨rfl, s4_ok⟩
  exact law_mid c fit ns r hr z4 hz.1 hz.2 eX0 k g0
end
end Cs

set_option Elab.async false
set_option linter.all false
set_option autoImplicit false
set_option maxRecDepth 100000
set_option maxHeartbeats 4000000
/-! The plain law, part e: the pictures. -/
namespace Cs
open PySem PySem.Spec PyProof.Rows L2
theorem texts_sig {sg : List Nat} : ∀ {n : Nat} {t : List Nat}, t ∈ texts sg n → ∀ s ∈ t, s ∈ sg
  | 0, t, h, s, hs => by
    have : t = [] := by simpa [texts] using h
    rw [this] at hs; cases hs
  | n + 1, t, h, s, hs => by
    obtain ⟨u, hu, h2⟩ := List.mem_flatMap.mp h
    obtain ⟨a, ha, rfl⟩ := List.mem_map.mp h2
    rcases List.mem_append.mp hs with q | q
    · exact texts_sig hu s q
    · rw [List.mem_singleton.mp q]; exact ha
theorem idx_nd {α : Type} (l : List α) : l.zipIdx.Pairwise fun a b => a.2 ≠ b.2 := by
  have h : (l.zipIdx.map (·.2)).Nodup := by rw [List.zipIdx_map_snd]; exact List.nodup_range' _
  exact List.pairwise_map.mp h
theorem cellsR_nd (rows : List (List Nat)) : ((cellsR rows).map spot3).Nodup := by
  refine List.pairwise_map.mpr ?_
  unfold cellsR
  rw [List.pairwise_flatMap]
  refine ⟨fun z _ => ?_, ?_⟩
  · refine List.pairwise_map.mpr (((idx_nd z.1).filter _).imp fun {a b} h e => h ?_)
    have := congrArg Prod.fst e
    exact Int.ofNat.inj this
  · refine (idx_nd rows).imp fun {a b} h x hx y hy e => h ?_
    obtain ⟨u, _, rfl⟩ := List.mem_map.mp hx
    obtain ⟨v, _, rfl⟩ := List.mem_map.mp hy
    exact Int.ofNat.inj (congrArg Prod.snd e)
theorem mem_cellsR {rows : List (List Nat)} {z : Cell3} : z ∈ cellsR rows ↔ ∃ (i j : Nat) (row : List Nat), rows[i]? = some row ∧ row[j]? = some z.2.2 ∧ z.2.2 ≠ 46 ∧ z.1 = (j : Nat) ∧ z.2.1 = (i : Nat) := by
  unfold cellsR
  rw [List.mem_flatMap]
  constructor
  · rintro ⟨⟨row, i⟩, h1, h2⟩
    obtain ⟨⟨s, j⟩, h3, rfl⟩ := List.mem_map.mp h2
    obtain ⟨h4, h5⟩ := List.mem_filter.mp h3
    exact ⟨i, j, row, List.mk_mem_zipIdx_iff_getElem?.mp h1, List.mk_mem_zipIdx_iff_getElem?.mp h4, by simpa using h5, rfl, rfl⟩
  · rintro ⟨i, j, row, h1, h2, h3, h4, h5⟩
    refine ⟨(row, i), List.mk_mem_zipIdx_iff_getElem?.mpr h1, List.mem_map.mpr ⟨(z.2.2, j), List.mem_filter.mpr ⟨List.mk_mem_zipIdx_iff_getElem?.mpr h2, by simpa using h3⟩, ?_⟩⟩
    exact Prod.ext h4.symm (Prod.ext h5.symm rfl)
section
variable {t : List Nat} {wd hg : Nat}
theorem rows_at {i j : Nat} (hi : i < hg) (hj : j < wd) : ∃ row, (rowsOf t wd hg)[i]? = some row ∧ row[j]? = t[i * wd + j]? := by
  refine ⟨(t.drop (i * wd)).take wd, ?_, ?_⟩
  · unfold rowsOf
    rw [List.getElem?_map, List.getElem?_range hi]; rfl
  · rw [List.getElem?_take_of_lt hj, List.getElem?_drop]
theorem mem_pic (h0 : 0 < wd) (hl : t.length = wd * hg) {z : Cell3} : z ∈ cellsR (rowsOf t wd hg) ↔ z ∈ lcells0 t wd hg := by
  rw [mem_cellsR]
  unfold lcells0
  rw [List.mem_map]
  constructor
  · rintro ⟨i, j, row, h1, h2, h3, h4, h5⟩
    have hi : i < hg := by
      have := (List.getElem?_eq_some_iff.mp h1).1
      rw [rows_count] at this; exact this
    have hrow := rows_len hl row (List.mem_of_getElem? h1)
    have hj : j < wd := by
      have := (List.getElem?_eq_some_iff.mp h2).1
      omega
    obtain ⟨row2, e1, e2⟩ := rows_at (t := t) hi hj
    rw [h1] at e1
    cases e1
    rw [h2] at e2
    have lt : i * wd + j < wd * hg := by
      have : i * wd + wd ≤ wd * hg := by rw [← Nat.succ_mul, Nat.mul_comm wd hg]; exact Nat.mul_le_mul_right _ hi
      omega
    have eg : t.getD (i * wd + j) 46 = z.2.2 := by rw [List.getD_eq_getElem?_getD, ← e2]; rfl
    refine ⟨i * wd + j, List.mem_filter.mpr ⟨List.mem_range.mpr lt, by rw [eg]; simpa using h3⟩, ?_⟩
    rw [eg, Nat.mul_comm i wd, Nat.mul_add_mod, Nat.mod_eq_of_lt hj, Nat.mul_add_div h0, Nat.div_eq_of_lt hj, Nat.add_zero]
    exact Prod.ext h4.symm (Prod.ext h5.symm rfl)
  · rintro ⟨k, hk, rfl⟩
    obtain ⟨hk1, hk2⟩ := List.mem_filter.mp hk
    have lt := List.mem_range.mp hk1
    have hj : k % wd < wd := Nat.mod_lt _ h0
    have hi : k / wd < hg := Nat.div_lt_of_lt_mul lt
    obtain ⟨row, e1, e2⟩ := rows_at (t := t) hi hj
    have ek : k / wd * wd + k % wd = k := by rw [Nat.mul_comm]; exact Nat.div_add_mod k wd
    rw [ek] at e2
    refine ⟨k / wd, k % wd, row, e1, ?_, by simpa using hk2, rfl, rfl⟩
    rw [e2, List.getD_eq_getElem?_getD]
    rw [List.getElem?_eq_getElem (by omega)]; rfl
theorem lcells0_nd (h0 : 0 < wd) : ((lcells0 t wd hg).map spot3).Nodup := by
  refine List.pairwise_map.mpr ?_
  unfold lcells0
  refine List.pairwise_map.mpr ((List.nodup_range.filter _).imp fun {a b} h e => h ?_)
  have e1 : a % wd = b % wd := Int.ofNat.inj (congrArg Prod.fst e)
  have e2 : a / wd = b / wd := Int.ofNat.inj (congrArg Prod.snd e)
  rw [← Nat.div_add_mod a wd, ← Nat.div_add_mod b wd, e1, e2]
theorem nd_of_map {α β : Type} {f : α → β} {l : List α} (h : (l.map f).Nodup) : l.Nodup := (List.pairwise_map.mp h).imp fun {a b} z e => z (congrArg f e)
theorem pic_perm (h0 : 0 < wd) (hl : t.length = wd * hg) : (cellsR (rowsOf t wd hg)).Perm (lcells0 t wd hg) :=
  (List.perm_ext_iff_of_nodup (nd_of_map (cellsR_nd _)) (nd_of_map (lcells0_nd h0))).mpr fun z => mem_pic h0 hl
theorem cells_same (h0 : 0 < wd) (hl : t.length = wd * hg) : cells3 t wd hg = lcells t wd hg := srt_eq (pic_perm h0 hl)
theorem pic_nd : ((cells3 t wd hg).map spot3).Nodup := ((srt_perm _).map spot3).nodup_iff.mpr (cellsR_nd _)
theorem pic_mem {z : Cell3} (hl : t.length = wd * hg) (h : z ∈ cells3 t wd hg) : z.2.2 ∈ t ∧ InBox 0 wd hg (spot3 z) := by
  have h2 := (srt_perm _).mem_iff.mp h
  obtain ⟨i, j, row, h1, h2, h3, h4, h5⟩ := mem_cellsR.mp h2
  have hi : i < hg := by
    have := (List.getElem?_eq_some_iff.mp h1).1
    rw [rows_count] at this; exact this
  have hrow := rows_len hl row (List.mem_of_getElem? h1)
  have hj : j < wd := by
    have := (List.getElem?_eq_some_iff.mp h2).1
    omega
  obtain ⟨row2, e1, e2⟩ := rows_at (t := t) hi hj
  rw [h1] at e1
  cases e1
  rw [h2] at e2
  refine ⟨List.mem_of_getElem? e2.symm, ?_⟩
  unfold InBox spot3
  dsimp only
  omega
theorem pic_ne (hb : begB (rowsOf t wd hg) = true) : cells3 t wd hg ≠ [] := by
  unfold begB at hb
  rw [Bool.and_eq_true, List.any_eq_true] at hb
  obtain ⟨⟨s, hs, hne⟩, _⟩ := hb
  cases e : rowsOf t wd hg with
  | nil => rw [e] at hs; cases hs
  | cons row rest =>
    rw [e] at hs
    obtain ⟨j, hj⟩ := List.getElem?_of_mem hs
    have hm : ((j : Int), ((0 : Nat) : Int), s) ∈ cellsR (rowsOf t wd hg) := mem_cellsR.mpr ⟨0, j, row, by rw [e]; rfl, hj, by simpa using hne, rfl, rfl⟩
    intro z
    have := (srt_perm _).mem_iff.mpr hm
    have z2 : srt (cellsR (rowsOf t wd hg)) = [] := z
    rw [z2] at this
    cases this
end
section
variable {r : Ru} {wd hg most : Nat} {t : List Nat}
theorem pic_fit (dr : Drawn r) (h0 : 0 < wd) (w16 : wd ≤ 16) (h16 : hg ≤ 16) (area : wd * hg ≤ 8) (ht : t ∈ texts (sigs r.m) (wd * hg)) (hb : begB (rowsOf t wd hg) = true) : FitC r.m (cellsC (cells3 t wd hg)) := by
  have hl := texts_len ht
  have ne := pic_ne hb
  have nd := pic_nd (t := t) (wd := wd) (hg := hg)
  have box : ∀ z ∈ cellsC (cells3 t wd hg), InBox 0 wd hg z.1 := fun z hz => by
    obtain ⟨u, hu, rfl⟩ := List.mem_map.mp hz
    exact (pic_mem hl hu).2
  have cne : cellsC (cells3 t wd hg) ≠ [] := fun z => ne (List.map_eq_nil_iff.mp z)
  have ndC : ((cellsC (cells3 t wd hg)).map (·.1)).Nodup := by unfold cellsC; rw [List.map_map]; exact nd
  refine ⟨?_, ?_, cne, ?_, ?_⟩
  · have := box_few ndC box
    have e : (wd + 2 * 0) * (hg + 2 * 0) = wd * hg := rfl
    omega
  · intro z hz
    obtain ⟨u, hu, rfl⟩ := List.mem_map.mp hz
    exact texts_sig ht _ (pic_mem hl hu).1
  · have xne : xsOf (cellsC (cells3 t wd hg)) ≠ [] := fun z => cne (List.map_eq_nil_iff.mp z)
    obtain ⟨a, ha, ea⟩ := List.mem_map.mp (mx_mem xne)
    obtain ⟨b, hb2, eb⟩ := List.mem_map.mp (mn_mem xne)
    have ea2 : a.1.1 = mxI (xsOf (cellsC (cells3 t wd hg))) := ea
    have eb2 : b.1.1 = mnI (xsOf (cellsC (cells3 t wd hg))) := eb
    have h1 := box a ha
    have h2 := box b hb2
    unfold InBox at h1 h2
    rw [← ea2, ← eb2]
    omega
  · have yne : ysOf (cellsC (cells3 t wd hg)) ≠ [] := fun z => cne (List.map_eq_nil_iff.mp z)
    obtain ⟨a, ha, ea⟩ := List.mem_map.mp (mx_mem yne)
    obtain ⟨b, hb2, eb⟩ := List.mem_map.mp (mn_mem yne)
    have ea2 : a.1.2 = mxI (ysOf (cellsC (cells3 t wd hg))) := ea
    have eb2 : b.1.2 = mnI (ysOf (cellsC (cells3 t wd hg))) := eb
    have h1 := box a ha
    have h2 := box b hb2
    unfold InBox at h1 h2
    rw [← ea2, ← eb2]
    omega
/-- all that is told of a picture -/
structure PicA (r : Ru) (wd hg most : Nat) (l : List Cell3) : Prop where
  ok : PicOk r l most
  law : PicL r l most
  same : ∀ n, stg3 r l n = lawSt r l n
  box : ∀ n, ∀ z ∈ lawSt r l n, InBox n wd hg (spot3 z)
theorem pic_all (dr : Drawn r) (h0 : 0 < wd) (w16 : wd ≤ 16) (h16 : hg ≤ 16) (area : wd * hg ≤ 8) (o12 : most ≤ 12) (ht : t ∈ texts (sigs r.m) (wd * hg)) (hb : begB (rowsOf t wd hg) = true) : PicA r wd hg most (cells3 t wd hg) := by
  have hl := texts_len ht
  have nd := pic_nd (t := t) (wd := wd) (hg := hg)
  have box : ∀ z ∈ cellsC (cells3 t wd hg), InBox 0 wd hg z.1 := fun z hz => by
    obtain ⟨u, hu, rfl⟩ := List.mem_map.mp hz
    exact (pic_mem hl hu).2
  have sg : SgC r.m (cellsC (cells3 t wd hg)) := (pic_fit dr h0 w16 h16 area ht hb).sub
  have hs : srt (cells3 t wd hg) = cells3 t wd hg := srt_srt _
  have st := stage_eq r (cells3 t wd hg) hs nd
  have same : ∀ n, stg3 r (cells3 t wd hg) n = lawSt r (cells3 t wd hg) n := fun n => (st n).1.symm
  have few : ∀ n, n ≤ most → (stgC r (cells3 t wd hg) n).length ≤ 100000 := fun n hn => by
    have := box_few (st n).2 (stg_box box n)
    have h2 : (wd + 2 * n) * (hg + 2 * n) ≤ 40 * 40 := Nat.mul_le_mul (by omega) (by omega)
    omega
  have sig : ∀ n, SgL (stg3 r (cells3 t wd hg) n) := fun n z hz => by
    have hz2 := (srt_perm _).mem_iff.mp hz
    obtain ⟨u, hu, rfl⟩ := List.mem_map.mp hz2
    exact (sigs_sub r.m).subset (stg_sig dr.ok sg n u hu)
  refine ⟨⟨nd, pic_fit dr h0 w16 h16 area ht hb, few, fun n _ => sig n⟩, ⟨nd, fun i hi => ?_, fun i _ => ?_⟩, same, fun n z hz => ?_⟩
  · rw [← same, stg3_len]; exact few i hi
  · rw [← same]; exact sig i
  · rw [← same] at hz
    have hz2 := (srt_perm _).mem_iff.mp hz
    obtain ⟨u, hu, rfl⟩ := List.mem_map.mp hz2
    exact stg_box box n u hu
theorem hit_eq (dr : Drawn r) (h0 : 0 < wd) (w16 : wd ≤ 16) (h16 : hg ≤ 16) (area : wd * hg ≤ 8) (o12 : most ≤ 12) (ht : t ∈ texts (sigs r.m) (wd * hg)) : hitD r wd hg most t = hitL r wd hg most t := by
  unfold hitD hitL
  by_cases hb : begB (rowsOf t wd hg) = true
  · have A := pic_all dr h0 w16 h16 area o12 ht hb
    rw [if_pos hb, if_pos hb, ← cells_same h0 (texts_len ht), paper_eq A.same (pic_ne hb)]
  · rw [if_neg hb, if_neg hb]
end
end Cs

set_option Elab.async false
set_option linter.all false
set_option autoImplicit false
set_option maxRecDepth 100000
set_option maxHeartbeats 4000000
/-! The plain law, part f: what is found has a repr; all fits. -/
namespace Cs
open PySem PySem.Spec PyProof.Rows L2
structure Gd (n w : Nat) (d : PyData) : Prop where
  sh : ShD n d
  si : d.intsShort 13 = true
  sw : d.showable = true
  wt : d.weight ≤ w
  pu : pur d = true
theorem Gd.up {n w m v : Nat} {d : PyData} (h : Gd n w d) (hn : n ≤ m) (hw : w ≤ v) : Gd m v d := ⟨⟨h.sh.1, Nat.le_trans h.sh.2 hn⟩, h.si, h.sw, Nat.le_trans h.wt hw, h.pu⟩
theorem gd_all {n w : Nat} : ∀ {ds : List PyData}, (∀ d ∈ ds, Gd n w d) → ShA n ds ∧ PyData.intsShortAll 13 ds = true ∧ PyData.showableAll ds = true ∧ PyData.weightAll ds ≤ ds.length * (w + 1) ∧ purs ds = true
  | [], _ => ⟨sh_nil, rfl, rfl, by simp [PyData.weightAll], rfl⟩
  | d :: ds, h => by
    obtain ⟨a1, a2, a3, a4, a5⟩ := gd_all (n := n) (w := w) (ds := ds) fun e he => h e (List.mem_cons_of_mem _ he)
    have g := h d (List.mem_cons_self ..)
    refine ⟨sh_cons g.sh a1, ?_, ?_, ?_, ?_⟩
    · simp only [PyData.intsShortAll, g.si, a2, Bool.and_self]
    · simp only [PyData.showableAll, g.sw, a3, Bool.and_self]
    · simp only [PyData.weightAll, List.length_cons, Nat.succ_mul]
      have := g.wt
      omega
    · rw [purs, g.pu, a5]; rfl
theorem gd_tup {n w v : Nat} {ds : List PyData} (h : ∀ d ∈ ds, Gd n w d) (hv : ds.length * (w + 1) ≤ v) : Gd (n + 1) v (.tuple ds) := by
  obtain ⟨a1, a2, a3, a4, a5⟩ := gd_all h
  exact ⟨sh_tup a1, by simp only [PyData.intsShort]; exact a2, by simp only [PyData.showable]; exact a3, by simp only [PyData.weight]; omega, by rw [pur]; exact a5⟩
theorem gd_lst {n w v : Nat} {ds : List PyData} (h : ∀ d ∈ ds, Gd n w d) (hv : ds.length * (w + 1) ≤ v) : Gd (n + 1) v (.list ds) := by
  obtain ⟨a1, a2, a3, a4, a5⟩ := gd_all h
  exact ⟨sh_lst a1, by simp only [PyData.intsShort]; exact a2, by simp only [PyData.showable]; exact a3, by simp only [PyData.weight]; omega, by rw [pur]; exact a5⟩
theorem gd_int {i : Int} (h : i.natAbs ≤ 1000) : Gd 0 16 (.int i) := by
  have lg : i.natAbs.log2 ≤ 9 := by
    by_cases e : i.natAbs = 0
    · rw [e]; decide
    · have := (Nat.log2_lt e).mpr (show i.natAbs < 2 ^ 10 by omega)
      omega
  refine ⟨sh_int, ?_, ?_, ?_, rfl⟩
  · simp only [PyData.intsShort]
    exact decide_eq_true (PyData.shown_int_le (by omega))
  · simp only [PyData.showable]
    exact decide_eq_true (by omega)
  · simp only [PyData.weight]
    split <;> omega
theorem gd_txt {l : List Nat} {k : Nat} (h : ∀ c ∈ l, c < 1114112) (hk : l.length ≤ k) : Gd 0 k (.str (txt l)) := by
  refine ⟨sh_txt h, rfl, rfl, ?_, rfl⟩
  simp only [PyData.weight]
  have := txt_len l
  unfold Str.length at this
  omega
theorem gd_word {x : List Cell3} {st : List (List Cell3)} {y : Nat} {q : Int × Int} : Gd 0 16 (.str (lawWord x st y q)) := by
  unfold lawWord
  split
  · split
    · exact ⟨sh_str (by decide +kernel), rfl, rfl, by decide +kernel, rfl⟩
    · exact ⟨sh_str (by decide +kernel), rfl, rfl, by decide +kernel, rfl⟩
  · exact ⟨sh_str (by decide +kernel), rfl, rfl, by decide +kernel, rfl⟩
section
variable {r : Ru} {wd hg most : Nat} {t : List Nat}
theorem paper_gd {l : List Cell3} (w16 : wd ≤ 16) (h16 : hg ≤ 16) (o12 : most ≤ 12) (A : PicA r wd hg most l) (hn : isN (lawPaper r.so (lawStages r l most)) = false) : Gd 1 100 (lawPaper r.so (lawStages r l most)) := by
  have eh : (lawStages r l most).headD [] = lawSt r l 0 := by
    unfold lawStages
    rw [List.range_succ_eq_map]; rfl
  have elen : (lawStages r l most).length - 1 = most := by
    unfold lawStages
    rw [List.length_map, List.length_range]; omega
  unfold lawPaper at hn ⊢
  rw [eh] at hn ⊢
  cases hf : lawFind r.so (lawSt r l 0) (lawStages r l most) with
  | none => rw [hf] at hn; cases hn
  | some i =>
    rw [hf] at hn
    dsimp only at hn ⊢
    unfold lawFind at hf
    rw [elen] at hf
    have hm := List.mem_range.mp (List.mem_of_find?_eq_some hf)
    unfold lawAt at hn ⊢
    rw [stages_at (show i + 1 ≤ most by omega)] at hn ⊢
    cases hq : shift (lawSt r l 0) (lawSt r l (i + 1)) with
    | none => rw [hq] at hn; cases hn
    | some q =>
      dsimp only
      obtain ⟨z, a, y, c, e1, e2, _, _, e3⟩ := shift_some hq
      have b1 := A.box 0 z (by rw [e1]; exact List.mem_cons_self ..)
      have b2 := A.box (i + 1) y (by rw [e2]; exact List.mem_cons_self ..)
      unfold InBox spot3 at b1 b2
      dsimp only at b1 b2
      unfold paperD
      refine gd_tup (n := 0) (w := 16) (fun d hd => ?_) (by show 4 * (16 + 1) ≤ 100; decide)
      simp only [List.mem_cons, List.not_mem_nil, or_false] at hd
      rcases hd with rfl | rfl | rfl | rfl
      · exact gd_word
      · exact gd_int (by omega)
      · exact gd_int (by rw [e3]; dsimp only; omega)
      · exact gd_int (by rw [e3]; dsimp only; omega)
theorem hit_gd (dr : Drawn r) (h0 : 0 < wd) (w16 : wd ≤ 16) (h16 : hg ≤ 16) (area : wd * hg ≤ 8) (o12 : most ≤ 12) (ht : t ∈ texts (sigs r.m) (wd * hg)) : ∀ d ∈ hitL r wd hg most t, Gd 3 1000 d := by
  intro d hd
  unfold hitL at hd
  by_cases hb : begB (rowsOf t wd hg) = true
  · rw [if_pos hb] at hd
    have A := pic_all dr h0 w16 h16 area o12 ht hb
    rw [cells_same h0 (texts_len ht)] at A
    by_cases hn : isN (lawPaper r.so (lawStages r (lcells t wd hg) most)) = true
    · rw [if_pos hn] at hd; cases hd
    · rw [if_neg hn] at hd
      rw [List.mem_singleton.mp hd]
      have hn2 : isN (lawPaper r.so (lawStages r (lcells t wd hg) most)) = false := by simpa using hn
      refine gd_tup (n := 2) (w := 400) (fun e he => ?_) (by show 2 * (400 + 1) ≤ 1000; decide)
      simp only [List.mem_cons, List.not_mem_nil, or_false] at he
      rcases he with rfl | rfl
      · unfold rowsD
        refine (gd_tup (n := 0) (w := 16) (v := 400) (fun e he => ?_) (by rw [List.length_map, rows_count]; have : hg * (16 + 1) ≤ 16 * 17 := Nat.mul_le_mul_right _ h16; omega)).up (by decide) (Nat.le_refl _)
        obtain ⟨row, hrow, rfl⟩ := List.mem_map.mp he
        refine gd_txt (fun c hc => ?_) (by rw [rows_len (texts_len ht) row hrow]; exact w16)
        have hct : c ∈ t := by
          unfold rowsOf at hrow
          obtain ⟨i, _, rfl⟩ := List.mem_map.mp hrow
          exact List.mem_of_mem_drop (List.mem_of_mem_take hc)
        exact sig_lt _ ((sigs_sub r.m).subset (texts_sig ht c hct))
      · exact (paper_gd w16 h16 o12 A hn2).up (by decide) (by decide)
  · rw [if_neg hb] at hd; cases hd
theorem hit_one : (hitL r wd hg most t).length ≤ 1 := by
  unfold hitL
  split
  · split
    · exact Nat.zero_le _
    · exact Nat.le_refl _
  · exact Nat.zero_le _
theorem flat_one_le {α β : Type} {f : α → List β} (h : ∀ a, (f a).length ≤ 1) : ∀ l : List α, (l.flatMap f).length ≤ l.length
  | [] => Nat.le_refl _
  | a :: l => by
    rw [List.flatMap_cons, List.length_append, List.length_cons]
    have := flat_one_le h l
    have := h a
    omega
theorem rpd_of {ds : List PyData} (h : ∀ d ∈ ds, Gd 3 1000 d) (hl : ds.length ≤ 256) : Rpd (.list ds) := by
  have g : Gd 4 256256 (.list ds) := gd_lst h (by have : ds.length * (1000 + 1) ≤ 256 * 1001 := Nat.mul_le_mul_right _ hl; omega)
  have h1 := g.sh.1
  refine ⟨g.sw, PyData.hasDict_of_canLay _ h1, Nat.le_trans g.sh.2 (by decide), ?_, g.pu, g.sh.sh⟩
  exact PyData.shown_fits (B := 13) (by decide) (by decide) (PyData.leavesShort_of_canLay0 13 _ h1 g.si) (Nat.le_trans g.wt (by decide))
end
theorem fit_all : FitAll := by
  intro r wd hg most dr m16 w0 h0 w16 h16 o0 o12 few
  have m2 : 2 ≤ r.m := dr.ok.lo
  have sl : (sigs r.m).length = r.m := sigs_len dr.ok.hi
  have area : wd * hg ≤ 8 := by
    have p : 2 ^ (wd * hg) ≤ 2 ^ 8 := Nat.le_trans (Nat.pow_le_pow_left m2 _) few
    exact (Nat.pow_le_pow_iff_right (by decide)).mp p
  have few2 : (sigs r.m).length ^ (wd * hg) ≤ 256 := by rw [sl]; exact few
  have same : (texts (sigs r.m) (wd * hg)).flatMap (hitD r wd hg most) = (texts (sigs r.m) (wd * hg)).flatMap (hitL r wd hg most) := by
    have : ∀ l : List (List Nat), (∀ t ∈ l, hitD r wd hg most t = hitL r wd hg most t) → l.flatMap (hitD r wd hg most) = l.flatMap (hitL r wd hg most) := by
      intro l
      induction l with
      | nil => intro _; rfl
      | cons a l ih => intro h; rw [List.flatMap_cons, List.flatMap_cons, h a (List.mem_cons_self ..), ih fun t ht => h t (List.mem_cons_of_mem _ ht)]
    exact this _ fun t ht => hit_eq dr w0 w16 h16 area o12 ht
  have len : ((texts (sigs r.m) (wd * hg)).flatMap (hitL r wd hg most)).length ≤ 256 := by
    have h1 := flat_one_le (f := hitL r wd hg most) (fun t => hit_one) (texts (sigs r.m) (wd * hg))
    rw [texts_count] at h1
    omega
  refine ⟨⟨dr.ok, dr.keeps, w0, h0, by omega, by omega, by omega, few2, fun t ht hb => (pic_all dr w0 w16 h16 area o12 ht hb).ok⟩, ⟨dr.ok, w0, h0, by omega, by omega, by omega, few2, fun t ht hb => ?_⟩, same, rpd_of (fun d hd => ?_) len, Nat.le_trans len (by decide)⟩
  · rw [← cells_same w0 (texts_len ht)]
    exact (pic_all dr w0 w16 h16 area o12 ht hb).law
  · obtain ⟨t, ht, hd2⟩ := List.mem_flatMap.mp hd
    exact hit_gd dr w0 w16 h16 area o12 ht d hd2
end Cs

set_option Elab.async false
set_option linter.all false
set_option autoImplicit false
set_option maxRecDepth 100000
set_option maxHeartbeats 4000000
/-! The law is called. -/
namespace Cs
open PySem PySem.Spec PyProof.Rows L2
/-- the promise is used: the law is called on a list of ints that lies in the heap behind the top -/
theorem g_call {P : Program} {w : World} {K : PySem.W.Frag} {mg mb : Str → Option Value} {k : Nat} {fa a : Addr} {z : Shared} {vs : List Value} {ns : List Int}
    (inK : K.In z.heap) (nsM : z.heap.Ns mainGlobals mg) (nsB : z.heap.Ns builtinsNs mb) (bo : ∀ x : Str, x ≠ "__name__" → mb x = bootBuiltins x) (noL : z.heap.NoLimit) (noG : z.gens = #[])
    (at_ : z.heap.get? a = some { cls := .type "list", data := .seq vs.toArray }) (hv : IntsAre vs ns) (hz : ns.length ≤ sizeLine) (room : Room k callerA) (gm : mg "law" = some (.ref fa))
    (D : ∀ base : Heap, DfG P w K mg base "law" k false [Dt K (.list (ns.map .int))] (Dt K (.bool true))) :
    codeAny (model P w) callerA (.call (.ref fa) ⟨[.ref a], []⟩) (fun r z' => r = .ok (.ret (.bool true)) ∧ PySem.OldK z.heap z'.heap ∧ z'.os = z.os ∧ AllBare z'.gens) z := by
  have vv := vals_ints hv
  have go : ∀ H : Hp, (∀ b u, H b = some u → b = a ∧ K.lookup a = none ∧ ∃ o xs, u = .frz o (.lst xs)) → SqL K H a (ns.map V.int) → HOk P w H z.heap → codeAny (model P w) callerA (.call (.ref fa) ⟨[.ref a], []⟩) (fun r z' => r = .ok (.ret (.bool true)) ∧ PySem.OldK z.heap z'.heap ∧ z'.os = z.os ∧ AllBare z'.gens) z := by
    intro H only sq ho
    have off : ∀ {b : Addr} {o : Obj}, z.heap.get? b = some o → (b = a → K.lookup a = none → False) → (hidT z.heap H).get? b = some o := fun {b o} e n => hidT_get e (by
      cases q : H b with
      | none => rfl
      | some u => obtain ⟨h1, h2, _⟩ := only b u q; exact (n h1 h2).elim)
    have nss : ∀ {b : Addr} {m : Str → Option Value}, z.heap.Ns b m → (hidT z.heap H).Ns b m := fun {b m} ⟨o, es, ep, e, d, r⟩ => ⟨o, es, ep, off e (fun ea _ => by
      subst ea
      rw [at_] at e
      cases e
      exact nomatch (show Data.seq vs.toArray _ = Data.dict es ep from d)), d, r⟩
    have kb : K.In (hidT z.heap H) := fun b o e => off (inK b o e) fun ea n => by subst ea; rw [n] at e; cases e
    obtain ⟨f, fd, ps, gm2, kf, bi, F⟩ := D (hidT z.heap H)
    rw [gm] at gm2
    cases gm2
    have sp : spF K false [Dt K (.list (ns.map .int))] (Dt K (.bool true)) [.ref a] H (fun v _ => v = .bl true) E0 :=
      ⟨none, H, fun _ => rfl, ⟨fun _ _ e => e, fun b e => nomatch e⟩, ⟨up_dat (.lst sq (ints_dp ns)), trivial⟩, fun v H' G' _ q => dt_bool q⟩
    have one := F.many _ _ _ _ sp
    have b0 := bi z [.ref a] inK one
    obtain ⟨mc, m1, m2⟩ := noL
    refine codeAny_mono (F.goes callerA rfl room [] z H ⟨rfl, ⟨kb, nss nsM, ⟨mb, nss nsB, bo⟩, ⟨mc, nss m1, m2⟩⟩, fun b o e => of_hidT e, Nat.le_of_eq (hidT_size _ _), trivial, fun b hb => (nomatch hb), ho, .of_eq noG⟩ ⟨[.ref a], []⟩ [.ref a] [.ref a] b0 (.cons rfl .nil) (fun v _ => v = .bl true) E0 sp) fun r z' q => ?_
    match r, q with
    | .ok (.ret u), ⟨v, H', os, bare, un, ho', rv, ev⟩ =>
      have ev' : v = .bl true := ev
      subst ev'
      obtain rfl : u = Value.bool true := rv
      refine ⟨rfl, PySem.OldK.of_keep fun b o e => ?_, os, bare⟩
      cases q : H b with
      | none => exact un.keep b o e q (fun y => nomatch y) (fun y => nomatch y)
      | some u =>
        obtain ⟨_, _, ob, xs, rfl⟩ := only b u q
        obtain ⟨e1, _⟩ := ho b _ q
        obtain ⟨e2, _⟩ := ho' b _ (un.frzs b ob _ q)
        rw [e] at e1; cases e1
        exact e2
  cases hk : K.lookup a with
  | some o =>
    have e := inK a o hk
    rw [at_] at e; cases e
    exact go (fun _ => none) (fun b u q => nomatch q) (.inr ⟨_, vs.toArray, _, hk, rfl, rfl, rfl, by rw [List.size_toArray, hv.length]; exact hz, by simpa using vv⟩) (fun b u q => nomatch q)
  | none =>
    have at1 : (upd (fun _ => none) a (.frz { cls := .type "list", data := .seq vs.toArray } (.lst (ns.map V.int))) : Hp) a = some (.frz { cls := .type "list", data := .seq vs.toArray } (.lst (ns.map V.int))) := upd_same
    have inv : ∀ b u, (upd (fun _ => none) a (.frz { cls := .type "list", data := .seq vs.toArray } (.lst (ns.map V.int))) : Hp) b = some u → b = a ∧ u = .frz { cls := .type "list", data := .seq vs.toArray } (.lst (ns.map V.int)) := fun b u q => by
      by_cases e : b = a
      · subst e; rw [upd_same] at q; exact ⟨rfl, (Option.some.inj q).symm⟩
      · rw [upd_ne e] at q; cases q
    refine go _ (fun b u q => ?_) (.inl (.inr ⟨_, at1⟩)) (fun b u q => ?_)
    · obtain ⟨rfl, rfl⟩ := inv b u q
      exact ⟨rfl, hk, _, _, rfl⟩
    · obtain ⟨rfl, rfl⟩ := inv b u q
      exact ⟨at_, by rw [List.length_map]; exact hz, vs, _, vv, at_⟩
end Cs

set_option Elab.async false
set_option linter.all false
set_option autoImplicit false
set_option maxRecDepth 100000
set_option maxHeartbeats 4000000
/-! The head. -/
namespace Cs
open PySem PySem.Spec PyProof.Rows L2
open PySem.W PySem.Calls in
theorem holds_of (fit : FitAll) : PySem.Challenge.rw_cellscript_k68_whole_search_has_all.Holds := by
  w_on; o_law
  refine HandSHeadRun.head_any (r := RowK) (q := view RowK.prog [105]) (H := hkK) (ob := obK) (M := 7000) (loose := loose) (d := HandSHeadRun.topDef RowK.prog 105) (kwd := []) obK_eq
    (by kernel_rfl) (fun s => by kernel_rfl) runK (by kernel_rfl) (by kernel_rfl) (by kernel_rfl) (by rfl) (by first | assumption | decide +kernel) (by decide +kernel) ⟨rfl, rfl, rfl, rfl, rfl, by decide +kernel⟩ ?hw ?hc
  case hw => w_witness2
  case hc =>
    refine Att.attach_call (l := PySem.Challenge.rw_cellscript_k68_whole_search_has_all) (n := 63) rfl (by kernel_rfl) fun w s₀ s₁ mg mb fa o pm cd doc a vs ns G Y ho hd hcd hmg hobj hints hlen hg => ?_
    obtain ⟨K, KX, c⟩ := Y
    have e : (HandSHeadRun.topDef RowK.prog 105).name = ("law" : PySem.Str) := by kernel_rfl
    rw [e] at hmg
    have cx : Ctx w K mg := ⟨c, _, KX, G.T.g⟩
    exact g_call (k := 10) KX G.T.g G.T.b G.T.builtins G.T.nolimit hg hobj hints (Nat.le_trans hlen (by decide)) ⟨rfl, by decide, by decide⟩ hmg fun base => ok_law cx fit ns
end Cs

set_option Elab.async false
theorem PySem.Challenge.cw_cellscript_k68_whole_search_has_all_holds : PySem.Challenge.rw_cellscript_k68_whole_search_has_all.Holds :=
  Cs.holds_of Cs.fit_all

