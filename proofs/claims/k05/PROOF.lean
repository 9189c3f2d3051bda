import PyProof.Rows.All
import Wide.All
import OpenK.AllK
import Wide.FinOn
import HandS.ForMost
import HandS.Wide
import HandS.Deep
import HandS.Style
import HandS.Conv
import HandS.IsInst
import HandS.SortInts
import HandS.Ends
import PyProof.ReprRoads
import HandS.Small
import HandS.More
import HandS.ListItems
import HandS.TupAny
import HandS.Text
import PySem.Challenge.RW_boundterms_k05_terms_exchanged_and_put_i
set_option Elab.async false
set_option linter.all false
set_option maxRecDepth 100000
/-! VL1: the value layer: trees D, what stands for them, steps of evaluation, the core rules. -/
namespace VL
open PySem PySem.Spec PyProof.Rows L2

inductive D where
  | non | bl (b : Bool) | int (i : Int) | str (s : Str) | ref (a : Addr) | ty (n : String)
  | tup (ds : List D) | lst (ds : List D) | ins (C : Addr) (fs : List (Str × D)) | dct (kvs : List (D × D))
  | scr (ns : List Int)

def keyD : L2.Key → D
  | .inl i => .int i
  | .inr s => .str s
abbrev St := List (Option V)
abbrev T := Bool × D
abbrev VSt := List (Option T)

mutual
inductive DRel (K : PySem.W.Frag) (G : Hp) : V → D → Prop
  | non : DRel K G .non .non
  | bl (b : Bool) : DRel K G (.bl b) (.bl b)
  | int (i : Int) : DRel K G (.int i) (.int i)
  | str (s : Str) : DRel K G (.str s) (.str s)
  | ty (n : String) : DRel K G (.ty n) (.ty n)
  | ref (a : Addr) : DRel K G (.ref a) (.ref a)
  | tup {a : Addr} {vs : List V} {ds : List D} : G a = some (.tup vs) → vs.length ≤ sizeLine → DRels K G vs ds → DRel K G (.ref a) (.tup ds)
  | lst {a : Addr} {vs : List V} {ds : List D} : G a = some (.lst vs) → vs.length ≤ sizeLine → DRels K G vs ds → DRel K G (.ref a) (.lst ds)
  | scr {a : Addr} {ns : List Int} : SqL K G a (ns.map V.int) → DRel K G (.ref a) (.scr ns)
  | ins {a C dx : Addr} {fv : List (Str × V)} {fs : List (Str × D)} : G a = some (.ins C dx fv) → DFs K G fv fs → DRel K G (.ref a) (.ins C fs)
  | dct {a : Addr} {kv : List (L2.Key × V)} {ds : List (D × D)} : G a = some (.dK kv) → kv.length ≤ sizeLine → DKs K G kv ds → DRel K G (.ref a) (.dct ds)
inductive DRels (K : PySem.W.Frag) (G : Hp) : List V → List D → Prop
  | nil : DRels K G [] []
  | cons {v : V} {d : D} {vs : List V} {ds : List D} : DRel K G v d → DRels K G vs ds → DRels K G (v :: vs) (d :: ds)
inductive DFs (K : PySem.W.Frag) (G : Hp) : List (Str × V) → List (Str × D) → Prop
  | nil : DFs K G [] []
  | cons {x : Str} {v : V} {d : D} {vs : List (Str × V)} {ds : List (Str × D)} : DRel K G v d → DFs K G vs ds → DFs K G ((x, v) :: vs) ((x, d) :: ds)
inductive DKs (K : PySem.W.Frag) (G : Hp) : List (L2.Key × V) → List (D × D) → Prop
  | nil : DKs K G [] []
  | cons {k : L2.Key} {v : V} {d : D} {vs : List (L2.Key × V)} {ds : List (D × D)} : DRel K G v d → DKs K G vs ds → DKs K G ((k, v) :: vs) ((keyD k, d) :: ds)
end

theorem seqT {K : PySem.W.Frag} {H H' : Hp} {a : Addr} {xs : List V} (e : Same H H') (h : SqT K H a xs) : SqT K H' a xs := by
  rcases h with (h | ⟨o, h⟩) | h
  · exact .inl (.inl (e _ _ h))
  · exact .inl (.inr ⟨o, e _ _ h⟩)
  · exact .inr h

mutual
theorem DRel.mono {K : PySem.W.Frag} {G G' : Hp} (s : Same G G') : ∀ {v : V} {d : D}, DRel K G v d → DRel K G' v d
  | _, _, .non => .non
  | _, _, .bl b => .bl b
  | _, _, .int b => .int b
  | _, _, .str b => .str b
  | _, _, .ty b => .ty b
  | _, _, .ref b => .ref b
  | _, _, .tup h z r => .tup (s _ _ h) z (DRels.mono s r)
  | _, _, .lst h z r => .lst (s _ _ h) z (DRels.mono s r)
  | _, _, .scr h => .scr (s.seq h)
  | _, _, .ins h r => .ins (s _ _ h) (DFs.mono s r)
  | _, _, .dct h z r => .dct (s _ _ h) z (DKs.mono s r)
theorem DRels.mono {K : PySem.W.Frag} {G G' : Hp} (s : Same G G') : ∀ {vs : List V} {ds : List D}, DRels K G vs ds → DRels K G' vs ds
  | _, _, .nil => .nil
  | _, _, .cons h r => .cons (DRel.mono s h) (DRels.mono s r)
theorem DFs.mono {K : PySem.W.Frag} {G G' : Hp} (s : Same G G') : ∀ {vs : List (Str × V)} {ds : List (Str × D)}, DFs K G vs ds → DFs K G' vs ds
  | _, _, .nil => .nil
  | _, _, .cons h r => .cons (DRel.mono s h) (DFs.mono s r)
theorem DKs.mono {K : PySem.W.Frag} {G G' : Hp} (s : Same G G') : ∀ {vs : List (L2.Key × V)} {ds : List (D × D)}, DKs K G vs ds → DKs K G' vs ds
  | _, _, .nil => .nil
  | _, _, .cons h r => .cons (DRel.mono s h) (DKs.mono s r)
end

section
variable {K : PySem.W.Frag} {G G' H H' : Hp}
theorem DRels.length : ∀ {vs : List V} {ds : List D}, DRels K G vs ds → vs.length = ds.length
  | _, _, .nil => rfl
  | _, _, .cons _ r => by simp [DRels.length r]
theorem DRels.get : ∀ {vs : List V} {ds : List D} {i : Nat} {d : D}, DRels K G vs ds → ds[i]? = some d → ∃ v, vs[i]? = some v ∧ DRel K G v d
  | _, _, _, _, .nil, h => by simp at h
  | _, _, 0, _, .cons h _, e => by simp at e; subst e; exact ⟨_, rfl, h⟩
  | _, _, i + 1, _, .cons _ r, e => by
    obtain ⟨v, h1, h2⟩ := DRels.get (i := i) r (by simpa using e)
    exact ⟨v, by simpa using h1, h2⟩
theorem DRels.append : ∀ {vs ws : List V} {ds es : List D}, DRels K G vs ds → DRels K G ws es → DRels K G (vs ++ ws) (ds ++ es)
  | _, _, _, _, .nil, h => h
  | _, _, _, _, .cons h r, q => .cons h (DRels.append r q)
theorem DRels.take : ∀ {vs : List V} {ds : List D} (n : Nat), DRels K G vs ds → DRels K G (vs.take n) (ds.take n)
  | _, _, 0, _ => .nil
  | _, _, _ + 1, .nil => .nil
  | _, _, n + 1, .cons h r => .cons h (DRels.take n r)
theorem DRels.drop : ∀ {vs : List V} {ds : List D} (n : Nat), DRels K G vs ds → DRels K G (vs.drop n) (ds.drop n)
  | _, _, 0, r => r
  | _, _, _ + 1, .nil => .nil
  | _, _, n + 1, .cons h r => DRels.drop n r
theorem DRels.set {v : V} {d : D} (h : DRel K G v d) : ∀ {vs : List V} {ds : List D} (i : Nat), DRels K G vs ds → DRels K G (vs.set i v) (ds.set i d)
  | _, _, _, .nil => .nil
  | _, _, 0, .cons _ r => .cons h r
  | _, _, i + 1, .cons q r => .cons q (DRels.set h i r)
theorem DRels.reverse : ∀ {vs : List V} {ds : List D}, DRels K G vs ds → DRels K G vs.reverse ds.reverse
  | _, _, .nil => .nil
  | _, _, .cons h r => by simp only [List.reverse_cons]; exact (DRels.reverse r).append (.cons h .nil)
theorem DFs.look : ∀ {vs : List (Str × V)} {ds : List (Str × D)} {x : Str} {d : D}, DFs K G vs ds → ds.lookup x = some d → ∃ v, vs.lookup x = some v ∧ DRel K G v d
  | _, _, _, _, .nil, h => by simp at h
  | _, _, x, _, .cons (x := y) h r, e => by
    simp only [List.lookup] at e ⊢
    cases q : x == y with
    | true => simp only [q] at e ⊢; cases e; exact ⟨_, rfl, h⟩
    | false => simp only [q] at e ⊢; exact DFs.look r e
theorem DFs.length : ∀ {vs : List (Str × V)} {ds : List (Str × D)}, DFs K G vs ds → vs.length = ds.length
  | _, _, .nil => rfl
  | _, _, .cons _ r => by simp [DFs.length r]

/-- an owned container at p -/
def Cont (K : PySem.W.Frag) (G H : Hp) (p : Addr) : D → Prop
  | .lst ds => ∃ vs, H p = some (.lst vs) ∧ vs.length ≤ sizeLine ∧ DRels K G vs ds
  | .ins C fs => ∃ dx fv, H p = some (.ins C dx fv) ∧ DFs K G fv fs
  | .dct ds => ∃ kv, H p = some (.dK kv) ∧ kv.length ≤ sizeLine ∧ DKs K G kv ds
  | _ => False
theorem Cont.ex {p : Addr} {d : D} (c : Cont K G H p d) : ∃ o, H p = some o := by
  cases d with
  | lst ds => obtain ⟨vs, h, _⟩ := c; exact ⟨_, h⟩
  | ins C fs => obtain ⟨dx, fv, h, _⟩ := c; exact ⟨_, h⟩
  | dct ds => obtain ⟨kv, h, _⟩ := c; exact ⟨_, h⟩
  | _ => exact c.elim
theorem Cont.mono {p : Addr} {d : D} (c : Cont K G H p d) (s : Same G G') (h : ∀ o, H p = some o → H' p = some o) : Cont K G' H' p d := by
  cases d with
  | lst ds => obtain ⟨vs, e, z, r⟩ := c; exact ⟨vs, h _ e, z, r.mono s⟩
  | ins C fs => obtain ⟨dx, fv, e, r⟩ := c; exact ⟨dx, fv, h _ e, r.mono s⟩
  | dct ds => obtain ⟨kv, e, z, r⟩ := c; exact ⟨kv, h _ e, z, r.mono s⟩
  | _ => exact c.elim
def TRel (K : PySem.W.Frag) (G H : Hp) (v : V) (t : T) : Prop :=
  if t.1 = true then ∃ p, v = .ref p ∧ G p = none ∧ Cont K G H p t.2 else DRel K G v t.2
theorem TRel.sh {v : V} {d : D} (h : DRel K G v d) : TRel K G H v (false, d) := h
theorem TRel.ow {p : Addr} {d : D} (h : G p = none) (c : Cont K G H p d) : TRel K G H (.ref p) (true, d) := ⟨p, rfl, h, c⟩
/-- what may be read as d -/
def RRel (K : PySem.W.Frag) (G H : Hp) (v : V) (d : D) : Prop := DRel K G v d ∨ ∃ p, v = .ref p ∧ Cont K G H p d
theorem TRel.rd {v : V} {t : T} (h : TRel K G H v t) : RRel K G H v t.2 := by
  obtain ⟨b, d⟩ := t
  cases b with
  | false => exact .inl h
  | true => obtain ⟨p, e, _, c⟩ := h; exact .inr ⟨p, e, c⟩

def Own (σ : St) (S : VSt) (p : Addr) : Prop := ∃ (i : Nat) (d : D), S[i]? = some (some (true, d)) ∧ σ[i]? = some (some (V.ref p))
structure StRel (K : PySem.W.Frag) (G H : Hp) (σ : St) (S : VSt) : Prop where
  len : S.length = σ.length
  gh : Same G H
  sl : ∀ (i : Nat) (t : T), S[i]? = some (some t) → ∃ v, σ[i]? = some (some v) ∧ TRel K G H v t
  inj : ∀ (i j : Nat) (d e : D) (v : V), S[i]? = some (some (true, d)) → S[j]? = some (some (true, e)) → σ[i]? = some (some v) → σ[j]? = some (some v) → i = j
structure Ext (B : Addr → Prop) (G H G' H' : Hp) : Prop where
  same : ∀ a o, H a = some o → ¬ B a → H' a = some o
  gg : Same G G'
  gn : ∀ a, G' a ≠ none → G a ≠ none ∨ B a ∨ H a = none
structure Step (K : PySem.W.Frag) (σ : St) (S : VSt) (G H : Hp) (S' : VSt) (G' H' : Hp) : Prop where
  ext : Ext (Own σ S) G H G' H'
  st : StRel K G' H' σ S'
  sow : ∀ (i : Nat) (d : D), S'[i]? = some (some (true, d)) → ∃ e : D, S[i]? = some (some (true, e))
theorem Step.own {K : PySem.W.Frag} {σ : St} {S S' : VSt} {G H G' H' : Hp} (a : Step K σ S G H S' G' H') (p : Addr) (o : Own σ S' p) : Own σ S p := by
  obtain ⟨i, d, h1, h2⟩ := o
  obtain ⟨e, h3⟩ := a.sow i d h1
  exact ⟨i, e, h3, h2⟩
structure Post (K : PySem.W.Frag) (σ : St) (S : VSt) (G H : Hp) (v : V) (t : T) (S' : VSt) (G' H' : Hp) : Prop where
  step : Step K σ S G H S' G' H'
  rel : TRel K G' H' v t
  new : t.1 = true → ∀ p, v = .ref p → ¬ Own σ S' p ∧ (Own σ S p ∨ H p = none)
theorem StRel.own {σ : St} {S : VSt} (r : StRel K G H σ S) {p : Addr} (o : Own σ S p) : G p = none ∧ ∃ u, H p = some u := by
  obtain ⟨i, d, e1, e2⟩ := o
  obtain ⟨v, e3, h⟩ := r.sl i _ e1
  rw [e2] at e3
  cases e3
  obtain ⟨q, e4, h1, h2⟩ := h
  cases e4
  exact ⟨h1, h2.ex⟩
theorem Ext.refl {B : Addr → Prop} : Ext B G H G H := ⟨fun _ _ h _ => h, fun _ _ h => h, fun _ h => .inl h⟩
theorem Ext.trans {B B1 : Addr → Prop} {G1 H1 G2 H2 : Hp} (a : Ext B G H G1 H1) (b : Ext B1 G1 H1 G2 H2) (hb : ∀ p, B1 p → B p ∨ H p = none) : Ext B G H G2 H2 := by
  refine ⟨fun p o h n => b.same p o (a.same p o h n) fun q => ?_, fun p o h => b.gg p o (a.gg p o h), fun p h => ?_⟩
  · rcases hb p q with z | z
    · exact n z
    · rw [h] at z; cases z
  · rcases b.gn p h with z | z | z
    · exact a.gn p z
    · rcases hb p z with y | y
      · exact .inr (.inl y)
      · exact .inr (.inr y)
    · by_cases hp : B p
      · exact .inr (.inl hp)
      · refine .inr (.inr ?_)
        cases e : H p with
        | none => rfl
        | some o => rw [a.same p o e hp] at z; cases z
theorem Ext.imp {B B1 : Addr → Prop} {G1 H1 : Hp} (a : Ext B G H G1 H1) (hb : ∀ p, B p → B1 p) : Ext B1 G H G1 H1 :=
  ⟨fun p o h n => a.same p o h fun z => n (hb p z), a.gg, fun p h => (a.gn p h).imp id fun z => z.imp (hb p) id⟩
theorem Step.refl {σ : St} {S : VSt} (r : StRel K G H σ S) : Step K σ S G H S G H := ⟨.refl, r, fun _ d h => ⟨d, h⟩⟩
theorem Step.trans {σ : St} {S S1 S2 : VSt} {G1 H1 G2 H2 : Hp} (a : Step K σ S G H S1 G1 H1) (b : Step K σ S1 G1 H1 S2 G2 H2) : Step K σ S G H S2 G2 H2 :=
  ⟨a.ext.trans b.ext fun p h => .inl (a.own p h), b.st, fun i d h => let ⟨e, h'⟩ := b.sow i d h; a.sow i e h'⟩
/-- what is held over a step -/
theorem TRel.over {B : Addr → Prop} {v : V} {t : T} (h : TRel K G H v t) (e : Ext B G H G' H') (n : t.1 = true → ∀ p, v = .ref p → ¬ B p) : TRel K G' H' v t := by
  obtain ⟨b, d⟩ := t
  cases b with
  | false => exact DRel.mono e.gg h
  | true =>
    obtain ⟨p, rfl, g, c⟩ := h
    have np := n rfl p rfl
    obtain ⟨o, ho⟩ := c.ex
    refine ⟨p, rfl, ?_, c.mono e.gg fun o h => e.same p o h np⟩
    cases q : G' p with
    | none => rfl
    | some o' =>
      rcases e.gn p (by rw [q]; exact fun z => nomatch z) with z | z | z
      · exact absurd g z
      · exact absurd z np
      · rw [ho] at z; cases z
theorem Post.over {σ : St} {S S1 S2 : VSt} {G1 H1 G2 H2 : Hp} {v : V} {t : T} (a : Post K σ S G H v t S1 G1 H1) (b : Step K σ S1 G1 H1 S2 G2 H2) : Post K σ S G H v t S2 G2 H2 :=
  ⟨a.step.trans b, a.rel.over b.ext fun h p e => (a.new h p e).1, fun h p e => ⟨fun z => (a.new h p e).1 (b.own p z), (a.new h p e).2⟩⟩

/-! ### what an operator by values leaves -/
structure OpPost (K : PySem.W.Frag) (G H : Hp) (v : V) (t : T) (G' H' : Hp) : Prop where
  ext : Ext (fun _ => False) G H G' H'
  gh : Same G' H'
  rel : TRel K G' H' v t
  new : t.1 = true → ∀ p, v = .ref p → H p = none
theorem StRel.over {σ : St} {S : VSt} (r : StRel K G H σ S) (e : Ext (fun _ => False) G H G' H') (gh : Same G' H') : StRel K G' H' σ S :=
  ⟨r.len, gh, fun i t h => by
    obtain ⟨v, h1, h2⟩ := r.sl i t h
    exact ⟨v, h1, h2.over e fun _ _ _ z => z⟩, r.inj⟩
theorem OpPost.post {σ : St} {S : VSt} {v : V} {t : T} (r : StRel K G H σ S) (o : OpPost K G H v t G' H') : Post K σ S G H v t S G' H' :=
  ⟨⟨o.ext.imp fun _ z => z.elim, r.over o.ext o.gh, fun _ d h => ⟨d, h⟩⟩, o.rel, fun h p e => by
    refine ⟨fun z => ?_, .inr (o.new h p e)⟩
    obtain ⟨u, hu⟩ := (r.own z).2
    rw [o.new h p e] at hu
    cases hu⟩
theorem OpPost.pure {v : V} {d : D} (gh : Same G H) (h : DRel K G v d) : OpPost K G H v (false, d) G H := ⟨.refl, gh, h, fun z => nomatch z⟩
/-- a new owned object -/
theorem OpPost.fresh {p : Addr} {o : HO} {d : D} (gh : Same G H) (hp : H p = none) (c : Cont K G (upd H p o) p d) : OpPost K G H (.ref p) (true, d) G (upd H p o) := by
  have gp : G p = none := gh.free hp
  refine ⟨⟨fun a o h _ => ?_, fun _ _ h => h, fun a h => .inl h⟩, fun a u h => ?_, ⟨p, rfl, gp, c⟩, fun _ q e => by cases e; exact hp⟩
  · rw [upd_ne (ne_of_none h hp)]; exact h
  · rw [upd_ne (ne_of_none (gh a u h) hp)]; exact gh a u h
/-- a new shared object -/
theorem OpPost.freshSh {p : Addr} {o : HO} {d : D} (gh : Same G H) (hp : H p = none) (c : DRel K (upd G p o) (.ref p) d) : OpPost K G H (.ref p) (false, d) (upd G p o) (upd H p o) := by
  have gp : G p = none := gh.free hp
  refine ⟨⟨fun a o h _ => ?_, fun a u h => ?_, fun a h => ?_⟩, fun a u h => ?_, c, fun z => nomatch z⟩
  · rw [upd_ne (ne_of_none h hp)]; exact h
  · rw [upd_ne (ne_of_none h gp)]; exact h
  · by_cases e : a = p
    · subst e; exact .inr (.inr hp)
    · rw [upd_ne e] at h; exact .inl h
  · by_cases e : a = p
    · subst e; rw [upd_same] at h ⊢; exact h
    · rw [upd_ne e] at h ⊢; exact gh a u h
end
theorem some_pair {α β : Type} {a c : α} {b d : β} (h : some (a, b) = some (c, d)) : a = c ∧ b = d := by
  cases h; exact ⟨rfl, rfl⟩
abbrev FE := VSt → Option (T × VSt)
def SimE (K : PySem.W.Frag) (te : TE) (f : FE) : Prop := ∀ σ S G H, StRel K G H σ S → ∀ t S', f S = some (t, S') → ∀ Q : VK, (∀ v G' H', Post K σ S G H v t S' G' H' → Q v H') → te σ H Q
structure VE (X : Cx) (e : Expr) (f : FE) : Prop where
  ex : ∃ te, PE X e te ∧ SimE X.K te f
/-- an operand: a value, or the name of a slot (its content is read when the operator runs) -/
abbrev Opd := T ⊕ Nat
abbrev FO := VSt → Option (Opd × VSt)
def OpdRel (K : PySem.W.Frag) (σ : St) (S : VSt) (G H : Hp) (v : V) (o : Opd) (S' : VSt) (G' H' : Hp) : Prop := match o with
  | .inl t => TRel K G' H' v t ∧ (t.1 = true → ∀ p, v = .ref p → ¬ Own σ S' p ∧ (Own σ S p ∨ H p = none))
  | .inr i => σ[i]? = some (some v)
structure PostO (K : PySem.W.Frag) (σ : St) (S : VSt) (G H : Hp) (v : V) (o : Opd) (S' : VSt) (G' H' : Hp) : Prop where
  step : Step K σ S G H S' G' H'
  rel : OpdRel K σ S G H v o S' G' H'
def SimO (K : PySem.W.Frag) (te : TE) (f : FO) : Prop := ∀ σ S G H, StRel K G H σ S → ∀ o S', f S = some (o, S') → ∀ Q : VK, (∀ v G' H', PostO K σ S G H v o S' G' H' → Q v H') → te σ H Q
structure VO (X : Cx) (e : Expr) (f : FO) : Prop where
  ex : ∃ te, PE X e te ∧ SimO X.K te f
def res (S : VSt) : Opd → Option D
  | .inl t => some t.2
  | .inr i => match S[i]? with
    | some (some t) => some t.2
    | _ => none
section
variable {K : PySem.W.Frag} {G G' H H' : Hp} {σ : St} {S S1 S2 : VSt} {G1 H1 G2 H2 : Hp}
theorem PostO.over {v : V} {o : Opd} (a : PostO K σ S G H v o S1 G1 H1) (b : Step K σ S1 G1 H1 S2 G2 H2) : PostO K σ S G H v o S2 G2 H2 := by
  refine ⟨a.step.trans b, ?_⟩
  cases o with
  | inr i => exact a.rel
  | inl t => exact ⟨a.rel.1.over b.ext fun h p e => (a.rel.2 h p e).1, fun h p e => ⟨fun z => (a.rel.2 h p e).1 (b.own p z), (a.rel.2 h p e).2⟩⟩
theorem PostO.rd {v : V} {o : Opd} {d : D} (a : PostO K σ S G H v o S1 G1 H1) (h : res S1 o = some d) : RRel K G1 H1 v d := by
  cases o with
  | inl t => cases h; exact a.rel.1.rd
  | inr i =>
    have e : σ[i]? = some (some v) := a.rel
    cases q : S1[i]? with
    | none => simp only [res, q] at h; cases h
    | some u =>
      cases u with
      | none => simp only [res, q] at h; cases h
      | some t =>
        simp only [res, q] at h
        cases h
        obtain ⟨w, e1, r⟩ := a.step.st.sl i t q
        rw [e] at e1
        cases e1
        exact r.rd
end
def fOpd (f : FE) : FO := fun S => (f S).map fun r => (.inl r.1, r.2)
def fBor (i : Nat) : FO := fun S => match S[i]? with
  | some (some _) => some (.inr i, S)
  | _ => none
section
variable {X : Cx} {e a b : Expr}
theorem vo_of {f : FE} (h : VE X e f) : VO X e (fOpd f) := by
  obtain ⟨te, h1, h2⟩ := h.ex
  refine ⟨te, h1, fun σ S G H r o S' ho Q q => ?_⟩
  unfold fOpd at ho
  cases hf : f S with
  | none => rw [hf] at ho; cases ho
  | some u =>
    rw [hf] at ho
    cases ho
    exact h2 σ S G H r u.1 u.2 (by rw [hf]) Q fun v G' H' p => q v G' H' ⟨p.step, p.rel, p.new⟩
theorem vo_bor (i : Nat) {x : Str} {pos : Pos} (hN : X.N[i]? = some x := by rfl) (hv : Vis X.env.scope x := by first | exact Or.inl rfl | exact Or.inr (Or.inl rfl) | exact Or.inr (Or.inr rfl)) (hd : (x == ("__debug__" : Str)) = false := by decide)
    (hcd : (x == ("__classdict__" : Str)) = false := by decide) : VO X (.Name x pos) (fBor i) := by
  refine ⟨_, pe_var hN hv hd hcd, fun σ S G H r o S' ho Q q => ?_⟩
  unfold fBor at ho
  split at ho
  · rename_i t hS
    cases ho
    obtain ⟨v, e1, e2⟩ := r.sl i t hS
    exact ⟨v, e1, q v G H ⟨.refl r, e1⟩⟩
  · cases ho
/-- a constant -/
def fC (d : D) : FE := fun S => some ((false, d), S)
theorem ve_const {te : TE} {v : V} {d : D} (h : PE X e te) (ht : ∀ σ H Q, te σ H Q = Q v H) (hd : ∀ G, DRel X.K G v d) : VE X e (fC d) := by
  refine ⟨te, h, fun σ S G H r t S' ho Q q => ?_⟩
  cases ho
  rw [ht]
  exact q v G H ⟨.refl r, hd G, fun z => nomatch z⟩
theorem ve_int {i : Int} {j : Nat} {pos : Pos} : VE X (.Constant (.int i) j pos) (fC (.int i)) := ve_const pe_int (fun _ _ _ => rfl) fun _ => .int i
theorem ve_bl {i : Bool} {j : Nat} {pos : Pos} : VE X (.Constant (.bool i) j pos) (fC (.bl i)) := ve_const pe_bl (fun _ _ _ => rfl) fun _ => .bl i
theorem ve_str {i : Str} {j : Nat} {pos : Pos} : VE X (.Constant (.str i) j pos) (fC (.str i)) := ve_const pe_str (fun _ _ _ => rfl) fun _ => .str i
theorem ve_non {j : Nat} {pos : Pos} : VE X (.Constant .none j pos) (fC .non) := ve_const pe_non (fun _ _ _ => rfl) fun _ => .non
end
end VL

set_option Elab.async false
set_option linter.all false
set_option maxRecDepth 100000
/-! VL2: freezing, names, displays, operators. -/
namespace VL
open PySem PySem.Spec PyProof.Rows L2

/-! ### freezing -/
theorem Cont.shared {K : PySem.W.Frag} {G H : Hp} {p : Addr} {d : D} (c : Cont K G H p d) (g : G p = none) : ∃ o, H p = some o ∧ DRel K (upd G p o) (.ref p) d := by
  have sm : ∀ o, Same G (upd G p o) := fun o a u h => by rw [upd_ne (ne_of_none h g)]; exact h
  cases d with
  | lst ds =>
    obtain ⟨vs, e, z, r⟩ := c
    exact ⟨_, e, .lst upd_same z (r.mono (sm _))⟩
  | ins C fs =>
    obtain ⟨dx, fv, e, r⟩ := c
    exact ⟨_, e, .ins upd_same (r.mono (sm _))⟩
  | dct ds =>
    obtain ⟨kv, e, z, r⟩ := c
    exact ⟨_, e, .dct upd_same z (r.mono (sm _))⟩
  | _ => exact c.elim
section
variable {K : PySem.W.Frag} {G G' H H' : Hp} {σ : St} {S S1 S2 : VSt} {G1 H1 G2 H2 : Hp}
theorem same_upd {p : Addr} {o : HO} (g : G p = none) : Same G (upd G p o) := fun a u h => by rw [upd_ne (ne_of_none h g)]; exact h
theorem Step.frz {p : Addr} {o : HO} (a : Step K σ S G H S1 G1 H1) (no : ¬ Own σ S1 p) (nw : Own σ S p ∨ H p = none) (g : G1 p = none) (ho : H1 p = some o) : Step K σ S G H S1 (upd G1 p o) H1 := by
  have sm := same_upd (o := o) g
  refine ⟨⟨a.ext.same, fun q u h => sm q u (a.ext.gg q u h), fun q h => ?_⟩, ⟨a.st.len, fun q u h => ?_, fun i t h => ?_, a.st.inj⟩, a.sow⟩
  · by_cases e : q = p
    · subst e; exact .inr nw
    · rw [upd_ne e] at h; exact a.ext.gn q h
  · by_cases e : q = p
    · subst e; rw [upd_same] at h; cases h; exact ho
    · rw [upd_ne e] at h; exact a.st.gh q u h
  · obtain ⟨v, h1, h2⟩ := a.st.sl i t h
    refine ⟨v, h1, ?_⟩
    obtain ⟨b, d⟩ := t
    cases b with
    | false => exact DRel.mono sm h2
    | true =>
      obtain ⟨q, rfl, g1, c⟩ := h2
      have ne : q ≠ p := fun e => by subst e; exact no ⟨i, d, h, h1⟩
      exact ⟨q, rfl, by rw [upd_ne ne]; exact g1, c.mono sm fun _ h => h⟩
theorem Post.frz {v : V} {t : T} (a : Post K σ S G H v t S1 G1 H1) : ∃ G2, Post K σ S G H v (false, t.2) S1 G2 H1 := by
  obtain ⟨b, d⟩ := t
  cases b with
  | false => exact ⟨G1, a.step, a.rel, fun z => nomatch z⟩
  | true =>
    obtain ⟨p, rfl, g, c⟩ := a.rel
    obtain ⟨n1, n2⟩ := a.new rfl p rfl
    obtain ⟨o, ho, r⟩ := c.shared g
    exact ⟨upd G1 p o, a.step.frz n1 n2 g ho, r, fun z => nomatch z⟩
/-! ### slots given away -/
theorem getElem?_set' {α : Type} {l : List α} {i j : Nat} {a b : α} (h : (l.set i a)[j]? = some b) : (i = j ∧ a = b) ∨ (i ≠ j ∧ l[j]? = some b) := by
  by_cases e : i = j
  · subst e
    by_cases hi : i < l.length
    · rw [List.getElem?_set_self hi] at h; exact .inl ⟨rfl, Option.some.inj h⟩
    · rw [List.getElem?_eq_none (by simpa using hi)] at h; cases h
  · rw [List.getElem?_set_ne e] at h; exact .inr ⟨e, h⟩
theorem StRel.drop (r : StRel K G H σ S) (i : Nat) : StRel K G H σ (S.set i none) := by
  refine ⟨by rw [List.length_set]; exact r.len, r.gh, fun j t h => ?_, fun j k d e v h1 h2 => ?_⟩
  · rcases getElem?_set' h with ⟨_, z⟩ | ⟨_, z⟩
    · cases z
    · exact r.sl j t z
  · rcases getElem?_set' h1 with ⟨_, z⟩ | ⟨_, z1⟩
    · cases z
    · rcases getElem?_set' h2 with ⟨_, z⟩ | ⟨_, z2⟩
      · cases z
      · exact r.inj j k d e v z1 z2
theorem Own.drop {i : Nat} {p : Addr} (o : Own σ (S.set i none) p) : Own σ S p := by
  obtain ⟨j, d, h1, h2⟩ := o
  rcases getElem?_set' h1 with ⟨_, z⟩ | ⟨_, z⟩
  · cases z
  · exact ⟨j, d, z, h2⟩
theorem StRel.take (r : StRel K G H σ S) {i : Nat} {d : D} (h : S[i]? = some (some (true, d))) : ∃ v, σ[i]? = some (some v) ∧ Post K σ S G H v (true, d) (S.set i none) G H := by
  obtain ⟨v, h1, h2⟩ := r.sl i _ h
  refine ⟨v, h1, ⟨.refl, r.drop i, fun j e h => (getElem?_set' h).elim (fun z => nomatch z.2) fun z => ⟨e, z.2⟩⟩, h2, fun _ p e => ?_⟩
  subst e
  refine ⟨fun o => ?_, .inl ⟨i, d, h, h1⟩⟩
  obtain ⟨j, e, k1, k2⟩ := o
  rcases getElem?_set' k1 with ⟨_, z⟩ | ⟨n, z⟩
  · cases z
  · exact n (r.inj i j d e _ h z h1 k2)
/-- a slot gets a value that it has had (a loan given back, a slot frozen) -/
theorem StRel.give {i : Nat} {v : V} {t : T} (r : StRel K G H σ S) (hi : σ[i]? = some (some v)) (h : TRel K G H v t) (n : t.1 = true → ∀ p, v = .ref p → ∀ j d, j ≠ i → S[j]? = some (some (true, d)) → σ[j]? ≠ some (some (V.ref p))) : StRel K G H σ (S.set i (some t)) := by
  refine ⟨by rw [List.length_set]; exact r.len, r.gh, fun j u e => ?_, fun j k d e w h1 h2 k1 k2 => ?_⟩
  · rcases getElem?_set' e with ⟨z1, z2⟩ | ⟨_, z⟩
    · subst z1; cases z2; exact ⟨v, hi, h⟩
    · exact r.sl j u z
  · rcases getElem?_set' h1 with ⟨y1, y2⟩ | ⟨y, y1⟩
    · subst y1
      cases y2
      rcases getElem?_set' h2 with ⟨z1, z2⟩ | ⟨z, z1⟩
      · exact z1
      · rw [hi] at k1
        cases k1
        obtain ⟨p, rfl, _⟩ := h
        exact absurd k2 (n rfl p rfl k e (Ne.symm z) z1)
    · rcases getElem?_set' h2 with ⟨z1, z2⟩ | ⟨z, z1⟩
      · subst z1
        cases z2
        rw [hi] at k2
        cases k2
        obtain ⟨p, rfl, _⟩ := h
        exact absurd k1 (n rfl p rfl j d (Ne.symm y) y1)
      · exact r.inj j k d e w y1 z1 k1 k2
theorem Own.set_sh {i : Nat} {d : D} {p : Addr} (o : Own σ (S.set i (some (false, d))) p) : Own σ S p := by
  obtain ⟨j, e, h1, h2⟩ := o
  rcases getElem?_set' h1 with ⟨_, z⟩ | ⟨_, z⟩
  · cases z
  · exact ⟨j, e, z, h2⟩
theorem set_set {α : Type} (l : List α) (i : Nat) (a b : α) : (l.set i a).set i b = l.set i b := by simp
theorem StRel.freeze (r : StRel K G H σ S) {i : Nat} {d : D} (h : S[i]? = some (some (true, d))) : ∃ v G', σ[i]? = some (some v) ∧ Post K σ S G H v (false, d) (S.set i (some (false, d))) G' H := by
  obtain ⟨v, h1, p⟩ := r.take h
  obtain ⟨G2, q⟩ := p.frz
  refine ⟨v, G2, h1, ⟨q.step.ext, ?_, fun j e h => (getElem?_set' h).elim (fun z => nomatch z.2) fun z => ⟨e, z.2⟩⟩, q.rel, fun z => nomatch z⟩
  have := q.step.st.give (i := i) h1 (t := (false, d)) q.rel fun z => nomatch z
  rwa [set_set] at this
end
def fVar (i : Nat) : FE := fun S => match S[i]? with
  | some (some (false, d)) => some ((false, d), S)
  | some (some (true, d)) => some ((false, d), S.set i (some (false, d)))
  | _ => none
def fTake (i : Nat) : FE := fun S => match S[i]? with
  | some (some (false, d)) => some ((false, d), S)
  | some (some (true, d)) => some ((true, d), S.set i none)
  | _ => none
section
variable {X : Cx} {e a b : Expr}
theorem ve_var (i : Nat) {x : Str} {pos : Pos} (hN : X.N[i]? = some x := by rfl) (hv : Vis X.env.scope x := by first | exact Or.inl rfl | exact Or.inr (Or.inl rfl) | exact Or.inr (Or.inr rfl)) (hd : (x == ("__debug__" : Str)) = false := by decide)
    (hcd : (x == ("__classdict__" : Str)) = false := by decide) : VE X (.Name x pos) (fVar i) := by
  refine ⟨_, pe_var hN hv hd hcd, fun σ S G H r t S' ho Q q => ?_⟩
  unfold fVar at ho
  split at ho
  · rename_i d hS
    cases ho
    obtain ⟨v, e1, e2⟩ := r.sl i _ hS
    exact ⟨v, e1, q v G H ⟨.refl r, e2, fun z => nomatch z⟩⟩
  · rename_i d hS
    cases ho
    obtain ⟨v, G', e1, p⟩ := r.freeze hS
    exact ⟨v, e1, q v G' H p⟩
  · cases ho
theorem ve_take (i : Nat) {x : Str} {pos : Pos} (hN : X.N[i]? = some x := by rfl) (hv : Vis X.env.scope x := by first | exact Or.inl rfl | exact Or.inr (Or.inl rfl) | exact Or.inr (Or.inr rfl)) (hd : (x == ("__debug__" : Str)) = false := by decide)
    (hcd : (x == ("__classdict__" : Str)) = false := by decide) : VE X (.Name x pos) (fTake i) := by
  refine ⟨_, pe_var hN hv hd hcd, fun σ S G H r t S' ho Q q => ?_⟩
  unfold fTake at ho
  split at ho
  · rename_i d hS
    cases ho
    obtain ⟨v, e1, e2⟩ := r.sl i _ hS
    exact ⟨v, e1, q v G H ⟨.refl r, e2, fun z => nomatch z⟩⟩
  · rename_i d hS
    cases ho
    obtain ⟨v, e1, p⟩ := r.take hS
    exact ⟨v, e1, q v G H p⟩
  · cases ho
end

/-! ### lists of frozen values: displays -/
abbrev FL := VSt → Option (List D × VSt)
structure PostL (K : PySem.W.Frag) (σ : St) (S : VSt) (G H : Hp) (vs : List V) (ds : List D) (S' : VSt) (G' H' : Hp) : Prop where
  step : Step K σ S G H S' G' H'
  rel : DRels K G' vs ds
def SimL (K : PySem.W.Frag) (ta : TA) (f : FL) : Prop := ∀ σ S G H, StRel K G H σ S → ∀ ds S', f S = some (ds, S') → ∀ Q : List V → Hp → Prop, (∀ vs G' H', PostL K σ S G H vs ds S' G' H' → Q vs H') → ta σ H Q
structure VL (X : Cx) (es : List Expr) (f : FL) : Prop where
  ex : ∃ ta, PA X es ta ∧ SimL X.K ta f
def fNil : FL := fun S => some ([], S)
def fCons (f : FE) (g : FL) : FL := fun S => match f S with
  | some (t, S1) => match g S1 with
    | some (ds, S2) => some (t.2 :: ds, S2)
    | none => none
  | none => none
abbrev SL : Nat := 16777216
theorem SL_le {n : Nat} (h : n ≤ SL) : n ≤ sizeLine := by rw [sizeLine_eq]; exact h
theorem SL_ge {n : Nat} (h : n ≤ sizeLine) : n ≤ SL := by rw [sizeLine_eq] at h; exact h
def fTup (g : FL) : FE := fun S => match g S with
  | some (ds, S') => if ds.length ≤ SL then some ((false, .tup ds), S') else none
  | none => none
def fLst (g : FL) : FE := fun S => match g S with
  | some (ds, S') => if ds.length ≤ SL then some ((true, .lst ds), S') else none
  | none => none
section
variable {X : Cx} {e a b : Expr} {es : List Expr}
theorem vl_nil : VL X [] fNil := ⟨_, pa_nil, fun σ S G H r ds S' h Q q => by cases h; exact q [] G H ⟨.refl r, .nil⟩⟩
theorem vl_cons {f : FE} {g : FL} (h1 : VE X e f) (h2 : VL X es g) (hs : starEach (e :: es) X.env = (false, eval e X.env) :: starEach es X.env := by rfl) : VL X (e :: es) (fCons f g) := by
  obtain ⟨te, p1, s1⟩ := h1.ex
  obtain ⟨ta, p2, s2⟩ := h2.ex
  refine ⟨_, pa_cons p1 p2 hs, fun σ S G H r ds S' h Q q => ?_⟩
  unfold fCons at h
  split at h
  · rename_i t S1 e1
    split at h
    · rename_i ds2 S2 e2
      obtain ⟨rfl, rfl⟩ := some_pair h
      refine s1 σ S G H r t S1 e1 _ fun v G1 H1 a1 => ?_
      obtain ⟨G1', a1'⟩ := a1.frz
      refine s2 σ S1 G1' H1 a1'.step.st ds2 S2 e2 _ fun vs G2 H2 a2 => ?_
      exact q (v :: vs) G2 H2 ⟨a1'.step.trans a2.step, .cons (DRel.mono a2.step.ext.gg a1'.rel) a2.rel⟩
    · cases h
  · cases h
theorem ve_tup {x1 : Nat} {pos : Pos} {g : FL} (h : VL X es g) : VE X (.Tuple es x1 pos) (fTup g) := by
  obtain ⟨ta, p, s⟩ := h.ex
  refine ⟨_, pe_tup p, fun σ S G H r t S' h Q q => ?_⟩
  unfold fTup at h
  split at h
  · rename_i ds S1 e1
    split at h
    · rename_i hz
      obtain ⟨rfl, rfl⟩ := some_pair h
      refine s σ S G H r ds S1 e1 _ fun vs G1 H1 a1 => ?_
      have hl := a1.rel.length
      refine ⟨by rw [hl]; exact SL_le hz, fun p hp => ?_⟩
      have gp : G1 p = none := a1.step.st.gh.free hp
      have o := OpPost.freshSh (K := X.K) (o := .tup vs) (d := .tup ds) a1.step.st.gh hp (.tup upd_same (by rw [hl]; exact SL_le hz) (a1.rel.mono (same_upd gp)))
      have z := o.post a1.step.st
      exact q _ _ _ ⟨a1.step.trans z.step, z.rel, fun z => nomatch z⟩
    · cases h
  · cases h
theorem ve_lst {pos : Pos} {g : FL} (h : VL X es g) : VE X (.List es pos) (fLst g) := by
  obtain ⟨ta, p, s⟩ := h.ex
  refine ⟨_, pe_lst p, fun σ S G H r t S' h Q q => ?_⟩
  unfold fLst at h
  split at h
  · rename_i ds S1 e1
    split at h
    · rename_i hz
      obtain ⟨rfl, rfl⟩ := some_pair h
      refine s σ S G H r ds S1 e1 _ fun vs G1 H1 a1 => ?_
      have hl := a1.rel.length
      refine ⟨by rw [hl]; exact SL_le hz, fun p hp => ?_⟩
      have o := OpPost.fresh (K := X.K) (o := .lst vs) (d := .lst ds) a1.step.st.gh hp ⟨vs, upd_same, by rw [hl]; exact SL_le hz, a1.rel⟩
      have z := o.post a1.step.st
      refine q _ _ _ ⟨a1.step.trans z.step, z.rel, fun _ p' e => ?_⟩
      cases e
      obtain ⟨n1, n2⟩ := z.new rfl p rfl
      refine ⟨n1, ?_⟩
      by_cases hO : Own σ S p
      · exact .inl hO
      · right
        cases hH : H p with
        | none => rfl
        | some o => rw [a1.step.ext.same p o hH hO] at hp; cases hp
    · cases h
  · cases h
end
/-- behind a step: a new thing is new from the start -/
theorem Step.new {K : PySem.W.Frag} {σ : St} {S S1 : VSt} {G H G1 H1 : Hp} (a : Step K σ S G H S1 G1 H1) {p : Addr} (h : Own σ S1 p ∨ H1 p = none) : Own σ S p ∨ H p = none := by
  rcases h with h | h
  · exact .inl (a.own p h)
  · by_cases hO : Own σ S p
    · exact .inl hO
    · right
      cases hH : H p with
      | none => rfl
      | some o => rw [a.ext.same p o hH hO] at h; cases h
theorem Step.post {K : PySem.W.Frag} {σ : St} {S S1 S2 : VSt} {G H G1 H1 G2 H2 : Hp} {v : V} {t : T} (a : Step K σ S G H S1 G1 H1) (b : Post K σ S1 G1 H1 v t S2 G2 H2) : Post K σ S G H v t S2 G2 H2 :=
  ⟨a.trans b.step, b.rel, fun h p e => ⟨(b.new h p e).1, a.new (b.new h p e).2⟩⟩

/-! ### operators by values -/
def Sim1 (K : PySem.W.Frag) (r : V → Hp → VK → Prop) (g : D → Option T) : Prop := ∀ G H x d t, Same G H → RRel K G H x d → g d = some t → ∀ Q : VK, (∀ v G' H', OpPost K G H v t G' H' → Q v H') → r x H Q
def Sim2 (K : PySem.W.Frag) (r : R2) (g : D → D → Option T) : Prop := ∀ G H x y d e t, Same G H → RRel K G H x d → RRel K G H y e → g d e = some t → ∀ Q : VK, (∀ v G' H', OpPost K G H v t G' H' → Q v H') → r x y H Q
def fOp1 (g : D → Option T) (f : FO) : FE := fun S => match f S with
  | some (o, S1) => match res S1 o with
    | some d => match g d with
      | some t => some (t, S1)
      | none => none
    | none => none
  | none => none
def fOp2 (g : D → D → Option T) (f f' : FO) : FE := fun S => match f S with
  | some (o, S1) => match f' S1 with
    | some (o', S2) => match res S2 o, res S2 o' with
      | some d, some e => match g d e with
        | some t => some (t, S2)
        | none => none
      | _, _ => none
    | none => none
  | none => none
section
variable {X : Cx} {e a b : Expr}
theorem ve_op1 {f : FO} {g : D → Option T} {r : V → Hp → VK → Prop} (he : ∀ ta, PE X a ta → PE X e (tUn r ta)) (ha : VO X a f) (hs : Sim1 X.K r g) : VE X e (fOp1 g f) := by
  obtain ⟨ta, p, s⟩ := ha.ex
  refine ⟨_, he ta p, fun σ S G H r t S' h Q q => ?_⟩
  unfold fOp1 at h
  split at h
  · rename_i o S1 e1
    split at h
    · rename_i d e2
      split at h
      · rename_i t' e3
        obtain ⟨rfl, rfl⟩ := some_pair h
        refine s σ S G H r o S1 e1 _ fun v G1 H1 a1 => ?_
        refine hs G1 H1 v d t' a1.step.st.gh (a1.rd e2) e3 _ fun v2 G2 H2 o2 => ?_
        exact q v2 G2 H2 (a1.step.post (o2.post a1.step.st))
      · cases h
    · cases h
  · cases h
theorem ve_op2 {f f' : FO} {g : D → D → Option T} {r : R2} (he : ∀ ta tb, PE X a ta → PE X b tb → PE X e (tOp r ta tb)) (ha : VO X a f) (hb : VO X b f') (hs : Sim2 X.K r g) : VE X e (fOp2 g f f') := by
  obtain ⟨ta, p, s⟩ := ha.ex
  obtain ⟨tb, p', s'⟩ := hb.ex
  refine ⟨_, he ta tb p p', fun σ S G H r t S' h Q q => ?_⟩
  unfold fOp2 at h
  split at h
  · rename_i o S1 e1
    split at h
    · rename_i o' S2 e2
      split at h
      · rename_i d e e3 e4
        split at h
        · rename_i t' e5
          obtain ⟨rfl, rfl⟩ := some_pair h
          refine s σ S G H r o S1 e1 _ fun v G1 H1 a1 => ?_
          refine s' σ S1 G1 H1 a1.step.st o' S2 e2 _ fun v2 G2 H2 a2 => ?_
          have a3 := a1.over a2.step
          refine hs G2 H2 v v2 d e t' a2.step.st.gh (a3.rd e3) (a2.rd e4) e5 _ fun v3 G3 H3 o3 => ?_
          exact q v3 G3 H3 (a3.step.post (o3.post a2.step.st))
        · cases h
      · cases h
    · cases h
  · cases h
theorem OpR.or {f : Value → Value → Sem Value} {r r' : R2} (h : OpR X f r) (h' : OpR X f r') : OpR X f (fun x y H Q => r x y H Q ∨ r' x y H Q) := by
  intro pins s σ H x y v u Q I rx ry q
  rcases q with q | q
  · exact h pins s σ H x y v u Q I rx ry q
  · exact h' pins s σ H x y v u Q I rx ry q
end

/-! what a value is, by its tree -/
section
variable {K : PySem.W.Frag} {G H : Hp} {v : V}
theorem RRel.int {i : Int} (h : RRel K G H v (.int i)) : v = .int i := by
  rcases h with h | ⟨p, _, c⟩
  · cases h; rfl
  · exact c.elim
theorem RRel.bl {i : Bool} (h : RRel K G H v (.bl i)) : v = .bl i := by
  rcases h with h | ⟨p, _, c⟩
  · cases h; rfl
  · exact c.elim
theorem RRel.str {i : Str} (h : RRel K G H v (.str i)) : v = .str i := by
  rcases h with h | ⟨p, _, c⟩
  · cases h; rfl
  · exact c.elim
theorem RRel.non (h : RRel K G H v .non) : v = .non := by
  rcases h with h | ⟨p, _, c⟩
  · cases h; rfl
  · exact c.elim
theorem RRel.lst {ds : List D} (gh : Same G H) (h : RRel K G H v (.lst ds)) : ∃ a vs, v = .ref a ∧ H a = some (.lst vs) ∧ vs.length ≤ sizeLine ∧ DRels K G vs ds := by
  rcases h with h | ⟨p, e, c⟩
  · cases h with
    | lst h1 h2 h3 => exact ⟨_, _, rfl, gh _ _ h1, h2, h3⟩
  · obtain ⟨vs, h1, h2, h3⟩ := c
    exact ⟨p, vs, e, h1, h2, h3⟩
theorem RRel.tup {ds : List D} (gh : Same G H) (h : RRel K G H v (.tup ds)) : ∃ a vs, v = .ref a ∧ H a = some (.tup vs) ∧ vs.length ≤ sizeLine ∧ DRels K G vs ds := by
  rcases h with h | ⟨p, e, c⟩
  · cases h with
    | tup h1 h2 h3 => exact ⟨_, _, rfl, gh _ _ h1, h2, h3⟩
  · exact c.elim
theorem RRel.scr {ns : List Int} (gh : Same G H) (h : RRel K G H v (.scr ns)) : ∃ a, v = .ref a ∧ SqL K H a (ns.map V.int) := by
  rcases h with h | ⟨p, e, c⟩
  · cases h with
    | scr h => exact ⟨_, rfl, gh.seq h⟩
  · exact c.elim
end
end VL

set_option Elab.async false
set_option linter.all false
set_option maxRecDepth 100000
set_option maxHeartbeats 1000000
/-! VL3: the operators on trees. -/
namespace VL
open PySem PySem.Spec PyProof.Rows L2

mutual
def D.py : D → PyData
  | .bl b => .bool b
  | .int i => .int i
  | .str s => .str s
  | .tup ds => .tuple (pys ds)
  | .lst ds => .list (pys ds)
  | .scr ns => .list (ns.map .int)
  | .non => .none
  | .ref _ => .none
  | .ty _ => .none
  | .ins _ _ => .none
  | .dct _ => .none
def pys : List D → List PyData
  | [] => []
  | d :: ds => d.py :: pys ds
end
mutual
def D.isPy : D → Bool
  | .bl _ => true
  | .int _ => true
  | .str _ => true
  | .tup ds => isPys ds
  | .lst ds => isPys ds
  | .scr _ => true
  | .non => true
  | .ref _ => false
  | .ty _ => false
  | .ins _ _ => false
  | .dct _ => false
def isPys : List D → Bool
  | [] => true
  | d :: ds => d.isPy && isPys ds
end
section
variable {K : PySem.W.Frag} {G H : Hp}
theorem dpInts : ∀ ns : List Int, DpAll K H (ns.map V.int) (ns.map PyData.int)
  | [] => .nil
  | n :: ns => .cons (.int n) (dpInts ns)
mutual
theorem DRel.dp (gh : Same G H) : ∀ {v : V} {d : D}, DRel K G v d → d.isPy = true → Dp K H v d.py
  | _, _, .non, _ => .non
  | _, _, .bl b, _ => .bl b
  | _, _, .int b, _ => .int b
  | _, _, .str b, _ => .str b
  | _, _, .ty b, h => by simp [D.isPy] at h
  | _, _, .ref b, h => by simp [D.isPy] at h
  | _, _, .tup h z r, e => by
    simp only [D.py]
    exact .tup (SqT.of (gh _ _ h)) (DRels.dp gh r (by simpa [D.isPy] using e))
  | _, _, .lst h z r, e => by
    simp only [D.py]
    exact .lst (SqL.of (gh _ _ h)) (DRels.dp gh r (by simpa [D.isPy] using e))
  | _, _, .scr (ns := ns) h, _ => by
    simp only [D.py]
    exact .lst (gh.seq h) (dpInts ns)
  | _, _, .ins h r, e => by simp [D.isPy] at e
  | _, _, .dct h z r, e => by simp [D.isPy] at e
theorem DRels.dp (gh : Same G H) : ∀ {vs : List V} {ds : List D}, DRels K G vs ds → isPys ds = true → DpAll K H vs (pys ds)
  | _, _, .nil, _ => .nil
  | _, _, .cons h r, e => by
    simp only [isPys, Bool.and_eq_true] at e
    exact .cons (DRel.dp gh h e.1) (DRels.dp gh r e.2)
end
theorem RRel.dp {v : V} {d : D} (gh : Same G H) (h : RRel K G H v d) (e : d.isPy = true) : Dp K H v d.py := by
  rcases h with h | ⟨p, rfl, c⟩
  · exact h.dp gh e
  · cases d with
    | lst ds =>
      obtain ⟨vs, h1, h2, h3⟩ := c
      simp only [D.py]
      exact .lst (SqL.of h1) (h3.dp gh (by simpa [D.isPy] using e))
    | ins C fs => simp [D.isPy] at e
    | dct ds => simp [D.isPy] at e
    | _ => exact c.elim
end
/-- data that == goes through -/
def D.okEq (d : D) : Bool := d.isPy && SeqAt.shaped d.py
def eqD (d e : D) : Bool := PyData.eqv d.py e.py
abbrev tS (d : D) : Option T := some (false, d)
abbrev tB (b : Bool) : Option T := some (false, .bl b)
abbrev tI (i : Int) : Option T := some (false, .int i)

def gAdd : D → D → Option T
  | .int i, .int j => tI (i + j)
  | .lst a, .lst b => if a.length + b.length ≤ SL then some (true, .lst (a ++ b)) else none
  | .str a, .str b => if a.length + b.length ≤ SL then tS (.str (a ++ b)) else none
  | _, _ => none
def gSub : D → D → Option T
  | .int i, .int j => tI (i - j)
  | _, _ => none
def gMul : D → D → Option T
  | .int i, .int j => if i.natAbs < 2 ^ 64 ∨ j.natAbs < 2 ^ 64 then tI (i * j) else none
  | .lst a, .int k => if k < 2 ^ 62 ∧ -(2 ^ 62) < k ∧ a.length * k.toNat ≤ SL then some (true, .lst (List.replicate k.toNat a).flatten) else none
  | _, _ => none
def gFdiv : D → D → Option T
  | .int i, .int j => if 0 < j ∧ j.natAbs < 2 ^ 8999 then tI (i / j) else none
  | _, _ => none
def gMod : D → D → Option T
  | .int i, .int j => if 0 < j then tI (i % j) else none
  | _, _ => none
def gPow : D → D → Option T
  | .int i, .int j => if 0 ≤ j ∧ j ≤ 64 ∧ i.natAbs < 2 ^ 1024 then tI (i ^ j.toNat) else none
  | _, _ => none
def gShl : D → D → Option T
  | .int i, .int j => if 0 ≤ j ∧ j ≤ 1000000 ∧ i.natAbs < 2 ^ 64 then tI (i * 2 ^ j.toNat) else none
  | _, _ => none
def gShr : D → D → Option T
  | .int i, .int j => if 0 ≤ j then tI (i / 2 ^ j.toNat) else none
  | _, _ => none
def gAnd : D → D → Option T
  | .int i, .int j => tI (Builtin.bitAnd i j)
  | _, _ => none
def gOr : D → D → Option T
  | .int i, .int j => tI (Builtin.bitOr i j)
  | _, _ => none
def gXor : D → D → Option T
  | .int i, .int j => tI (Builtin.bitXor i j)
  | _, _ => none
def gNeg : D → Option T
  | .int i => tI (-i)
  | _ => none
def gInv : D → Option T
  | .int i => tI (Builtin.bitNot i)
  | _ => none
def gLt : D → D → Option T
  | .int i, .int j => tB (decide (i < j))
  | _, _ => none
def gLe : D → D → Option T
  | .int i, .int j => tB (decide (i ≤ j))
  | _, _ => none
def gGt : D → D → Option T
  | .int i, .int j => tB (decide (j < i))
  | _, _ => none
def gGe : D → D → Option T
  | .int i, .int j => tB (decide (j ≤ i))
  | _, _ => none
def gEq (d e : D) : Option T := if d.okEq && e.okEq then tB (eqD d e) else none
def gNe (d e : D) : Option T := if d.okEq && e.okEq then tB (!eqD d e) else none
def D.isNon : D → Bool
  | .non => true
  | _ => false
def gIs : D → D → Option T
  | d, .non => tB d.isNon
  | _, _ => none
def gIsNot : D → D → Option T
  | d, .non => tB (!d.isNon)
  | _, _ => none
def inD (d : D) : D → Option Bool
  | .lst ds => if d.okEq && (D.lst ds).okEq then some (ds.any fun z => eqD z d) else none
  | .tup ds => if d.okEq && (D.tup ds).okEq then some (ds.any fun z => eqD z d) else none
  | .str y => match d with
    | .str x => some (!(Builtin.Str.occurrences y x 0 y.length 1).isEmpty)
    | _ => none
  | _ => none
def gIn (d e : D) : Option T := match inD d e with
  | some b => tB b
  | none => none
def gNotIn (d e : D) : Option T := match inD d e with
  | some b => tB (!b)
  | none => none
def gIx : D → D → Option T
  | .lst ds, .int i => (atI ds i).map fun d => (false, d)
  | .tup ds, .int i => (atI ds i).map fun d => (false, d)
  | .scr ns, .int i => (atI ns i).map fun n => (false, .int n)
  | .str z, .int i => if z.length ≤ SL then (atI z.cps.toList i).map fun c => (false, .str ⟨#[c]⟩) else none
  | _, _ => none

section
variable {K : PySem.W.Frag} {X : Cx}
theorem sim_I {C : Int → Int → Prop} {g : D → D → Option T} {f : Int → Int → V} (h : ∀ d e t, g d e = some t → ∃ i j d', d = .int i ∧ e = .int j ∧ C i j ∧ t = (false, d') ∧ ∀ G, DRel K G (f i j) d') : Sim2 K (rI C f) g := by
  intro G H x y d e t gh rx ry hg Q q
  obtain ⟨i, j, d', rfl, rfl, c, rfl, r⟩ := h d e t hg
  exact ⟨i, j, rx.int, ry.int, c, q _ _ _ (.pure gh (r G))⟩
theorem sim_I0 {g : D → D → Option T} {f : Int → Int → V} (h : ∀ d e t, g d e = some t → ∃ i j d', d = .int i ∧ e = .int j ∧ t = (false, d') ∧ ∀ G, DRel K G (f i j) d') : Sim2 K (rI0 f) g := by
  intro G H x y d e t gh rx ry hg Q q
  obtain ⟨i, j, d', rfl, rfl, rfl, r⟩ := h d e t hg
  exact ⟨i, j, rx.int, ry.int, q _ _ _ (.pure gh (r G))⟩
def Sim2on (K : PySem.W.Frag) (r : R2) (g : D → D → Option T) (d e : D) : Prop := ∀ G H x y t, Same G H → RRel K G H x d → RRel K G H y e → g d e = some t → ∀ Q : VK, (∀ v G' H', OpPost K G H v t G' H' → Q v H') → r x y H Q

def rStr : R2 := fun x y H Q => ∃ i j, x = .str i ∧ y = .str j ∧ i.length + j.length ≤ sizeLine ∧ Q (.str (i ++ j)) H
abbrev rAddA : R2 := fun x y H Q => rI0 (fun i j => .int (i + j)) x y H Q ∨ rCat x y H Q ∨ rStr x y H Q
theorem op_addA : OpR X (binaryOp .Add) rAddA := OpR.or op_add (OpR.or op_cat op_add_str)
theorem sim_add : Sim2 K rAddA gAdd := by
  intro G H x y d e t gh rx ry hg Q q
  unfold gAdd at hg
  split at hg
  · cases hg
    exact .inl ⟨_, _, rx.int, ry.int, q _ _ _ (.pure gh (.int _))⟩
  · split at hg
    · rename_i a b hz
      cases hg
      obtain ⟨p, vs, rfl, h1, h2, h3⟩ := rx.lst gh
      obtain ⟨p', vs', rfl, h1', h2', h3'⟩ := ry.lst gh
      have hl : vs.length + vs'.length ≤ sizeLine := by rw [h3.length, h3'.length]; exact SL_le hz
      refine .inr (.inl ⟨p, p', vs, vs', rfl, rfl, h1, h1', hl, fun l hl' => q _ _ _ (.fresh gh hl' ⟨_, upd_same, by rw [List.length_append]; exact hl, h3.append h3'⟩)⟩)
    · cases hg
  · split at hg
    · rename_i a b hz
      cases hg
      exact .inr (.inr ⟨_, _, rx.str, ry.str, SL_le hz, q _ _ _ (.pure gh (.str _))⟩)
    · cases hg
  · cases hg
theorem sim_sub : Sim2 K (rI0 fun i j => .int (i - j)) gSub := sim_I0 fun d e t h => by
  unfold gSub at h
  split at h
  · cases h; exact ⟨_, _, _, rfl, rfl, rfl, fun _ => .int _⟩
  · cases h
theorem DRels.rep {G : Hp} {vs : List V} {ds : List D} (h : DRels K G vs ds) : ∀ k : Nat, DRels K G (List.replicate k vs).flatten (List.replicate k ds).flatten
  | 0 => .nil
  | k + 1 => by
    rw [List.replicate_succ, List.replicate_succ, List.flatten_cons, List.flatten_cons]
    exact h.append (DRels.rep h k)
theorem len_rep {α : Type} (l : List α) : ∀ k : Nat, (List.replicate k l).flatten.length = l.length * k
  | 0 => rfl
  | k + 1 => by rw [List.replicate_succ, List.flatten_cons, List.length_append, len_rep l k, Nat.mul_succ, Nat.add_comm]
abbrev rMulA : R2 := fun x y H Q => rI CMul (fun i j => .int (i * j)) x y H Q ∨ rRep x y H Q
theorem op_mulA : OpR X (binaryOp .Mult) rMulA := OpR.or op_mul op_rep
theorem cmul_of {i j : Int} (h : i.natAbs < 2 ^ 64 ∨ j.natAbs < 2 ^ 64) : CMul i j := by
  unfold CMul
  rcases h with h | h
  · left; omega
  · right; omega
theorem sim_mul : Sim2 K rMulA gMul := by
  intro G H x y d e t gh rx ry hg Q q
  unfold gMul at hg
  split at hg
  · split at hg
    · rename_i hc
      cases hg
      exact .inl ⟨_, _, rx.int, ry.int, cmul_of hc, q _ _ _ (.pure gh (.int _))⟩
    · cases hg
  · split at hg
    · rename_i a k hc
      cases hg
      obtain ⟨p, vs, rfl, h1, h2, h3⟩ := rx.lst gh
      obtain ⟨c1, c2, c3⟩ := hc
      have hl : vs.length * k.toNat ≤ sizeLine := by rw [h3.length]; exact SL_le c3
      refine .inr ⟨p, k, vs, rfl, ry.int, h1, by omega, by omega, hl, fun l hl' => q _ _ _ (.fresh gh hl' ⟨_, upd_same, by rw [len_rep]; exact hl, h3.rep _⟩)⟩
    · cases hg
  · cases hg
theorem cdiv_of {i j : Int} (h : 0 < j ∧ j.natAbs < 2 ^ 8999) : CDivW i j := ⟨h.1, Nat.lt_of_lt_of_le (PySem.Flt.log2_lt_of (by decide) h.2) (by decide)⟩
theorem sim_fdiv : Sim2 K (rI CDivW fun i j => .int (i / j)) gFdiv := sim_I fun d e t h => by
  unfold gFdiv at h
  split at h
  · split at h
    · rename_i hc
      cases h; exact ⟨_, _, _, rfl, rfl, cdiv_of hc, rfl, fun _ => .int _⟩
    · cases h
  · cases h
theorem sim_mod : Sim2 K (rI (fun _ j => 0 < j) fun i j => .int (i % j)) gMod := sim_I fun d e t h => by
  unfold gMod at h
  split at h
  · split at h
    · rename_i hc
      cases h; exact ⟨_, _, _, rfl, rfl, hc, rfl, fun _ => .int _⟩
    · cases h
  · cases h
def CPowW (i j : Int) : Prop := 0 ≤ j ∧ j ≤ 64 ∧ i.natAbs < 2 ^ 1024
theorem op_powW : OpR X (binaryOp .Pow) (rI CPowW fun i j => .int (i ^ j.toNat)) := opI fun i j _ _ _ _ _ hc q => by
  obtain ⟨h1, h2, h3⟩ := hc
  have hb : Builtin.Int.intBits i ≤ 1024 := PyProof.Rows.intBits_le h3
  refine PyProof.Rows.pow_int h1 ?_ q
  have : (Builtin.Int.intBits i : Int) * j ≤ 1024 * 64 := Int.mul_le_mul (by omega) h2 h1 (by decide)
  exact Int.le_trans this (by decide)
theorem sim_pow : Sim2 K (rI CPowW fun i j => .int (i ^ j.toNat)) gPow := sim_I fun d e t h => by
  unfold gPow at h
  split at h
  · split at h
    · rename_i hc
      cases h; exact ⟨_, _, _, rfl, rfl, hc, rfl, fun _ => .int _⟩
    · cases h
  · cases h
theorem sim_shl : Sim2 K (rI CPow fun i j => .int (i * 2 ^ j.toNat)) gShl := sim_I fun d e t h => by
  unfold gShl at h
  split at h
  · split at h
    · rename_i hc
      cases h; exact ⟨_, _, _, rfl, rfl, hc, rfl, fun _ => .int _⟩
    · cases h
  · cases h
theorem sim_shr : Sim2 K (rI (fun _ j => 0 ≤ j) fun i j => .int (i / 2 ^ j.toNat)) gShr := sim_I fun d e t h => by
  unfold gShr at h
  split at h
  · split at h
    · rename_i hc
      cases h; exact ⟨_, _, _, rfl, rfl, hc, rfl, fun _ => .int _⟩
    · cases h
  · cases h
theorem sim_and : Sim2 K (rI0 fun i j => .int (Builtin.bitAnd i j)) gAnd := sim_I0 fun d e t h => by
  unfold gAnd at h
  split at h
  · cases h; exact ⟨_, _, _, rfl, rfl, rfl, fun _ => .int _⟩
  · cases h
theorem sim_or : Sim2 K (rI0 fun i j => .int (Builtin.bitOr i j)) gOr := sim_I0 fun d e t h => by
  unfold gOr at h
  split at h
  · cases h; exact ⟨_, _, _, rfl, rfl, rfl, fun _ => .int _⟩
  · cases h
theorem sim_xor : Sim2 K (rI0 fun i j => .int (Builtin.bitXor i j)) gXor := sim_I0 fun d e t h => by
  unfold gXor at h
  split at h
  · cases h; exact ⟨_, _, _, rfl, rfl, rfl, fun _ => .int _⟩
  · cases h
theorem sim_lt : Sim2 K (rI0 fun i j => .bl (decide (i < j))) gLt := sim_I0 fun d e t h => by
  unfold gLt at h
  split at h
  · cases h; exact ⟨_, _, _, rfl, rfl, rfl, fun _ => .bl _⟩
  · cases h
theorem sim_le : Sim2 K (rI0 fun i j => .bl (decide (i ≤ j))) gLe := sim_I0 fun d e t h => by
  unfold gLe at h
  split at h
  · cases h; exact ⟨_, _, _, rfl, rfl, rfl, fun _ => .bl _⟩
  · cases h
theorem sim_gt : Sim2 K (rI0 fun i j => .bl (decide (j < i))) gGt := sim_I0 fun d e t h => by
  unfold gGt at h
  split at h
  · cases h; exact ⟨_, _, _, rfl, rfl, rfl, fun _ => .bl _⟩
  · cases h
theorem sim_ge : Sim2 K (rI0 fun i j => .bl (decide (j ≤ i))) gGe := sim_I0 fun d e t h => by
  unfold gGe at h
  split at h
  · cases h; exact ⟨_, _, _, rfl, rfl, rfl, fun _ => .bl _⟩
  · cases h
theorem sim_neg : Sim1 K (rU fun i => .int (-i)) gNeg := by
  intro G H x d t gh rx hg Q q
  unfold gNeg at hg
  split at hg
  · cases hg; exact ⟨_, rx.int, q _ _ _ (.pure gh (.int _))⟩
  · cases hg
theorem sim_inv : Sim1 K (rU fun i => .int (Builtin.bitNot i)) gInv := by
  intro G H x d t gh rx hg Q q
  unfold gInv at hg
  split at hg
  · cases hg; exact ⟨_, rx.int, q _ _ _ (.pure gh (.int _))⟩
  · cases hg
theorem okEq_of {d : D} (h : d.okEq = true) : d.isPy = true ∧ SeqAt.shaped d.py = true := by
  unfold D.okEq at h
  simpa using h
theorem sim_eq : Sim2 K (rEqD K) gEq := by
  intro G H x y d e t gh rx ry hg Q q
  unfold gEq at hg
  split at hg
  · rename_i hc
    rw [Bool.and_eq_true] at hc
    obtain ⟨p1, p2⟩ := okEq_of hc.1
    obtain ⟨p3, p4⟩ := okEq_of hc.2
    cases hg
    exact ⟨_, _, rx.dp gh p1, ry.dp gh p3, p2, p4, q _ _ _ (.pure gh (.bl _))⟩
  · cases hg
theorem sim_ne : Sim2 K (rNeD K) gNe := by
  intro G H x y d e t gh rx ry hg Q q
  unfold gNe at hg
  split at hg
  · rename_i hc
    rw [Bool.and_eq_true] at hc
    obtain ⟨p1, p2⟩ := okEq_of hc.1
    obtain ⟨p3, p4⟩ := okEq_of hc.2
    cases hg
    exact ⟨_, _, rx.dp gh p1, ry.dp gh p3, p2, p4, q _ _ _ (.pure gh (.bl _))⟩
  · cases hg
theorem RRel.isNon {G H : Hp} {v : V} {d : D} (h : RRel K G H v d) : decide (v = .non) = d.isNon := by
  rcases h with h | ⟨p, rfl, c⟩
  · cases h <;> rfl
  · cases d <;> first | rfl | exact c.elim
theorem sim_is : Sim2 K (fun x y H Q => y = .non ∧ Q (.bl (decide (x = .non))) H) gIs := by
  intro G H x y d e t gh rx ry hg Q q
  unfold gIs at hg
  split at hg
  · cases hg; exact ⟨ry.non, by rw [rx.isNon]; exact q _ _ _ (.pure gh (.bl _))⟩
  · cases hg
theorem sim_isNot : Sim2 K (fun x y H Q => y = .non ∧ Q (.bl (!decide (x = .non))) H) gIsNot := by
  intro G H x y d e t gh rx ry hg Q q
  unfold gIsNot at hg
  split at hg
  · cases hg; exact ⟨ry.non, by rw [rx.isNon]; exact q _ _ _ (.pure gh (.bl _))⟩
  · cases hg
/-- in: a list, a tuple of data, a text -/
def rInT (K : PySem.W.Frag) (neg : Bool) : R2 := fun x y H Q => ∃ d ds, Dp K H x d ∧ Dp K H y (.tuple ds) ∧ SeqAt.shaped d = true ∧ SeqAt.shaped (.tuple ds) = true ∧ Q (.bl (if neg then !ds.any fun z => PyData.eqv z d else ds.any fun z => PyData.eqv z d)) H
theorem room_in_shapedT {A : Around} {d : PyData} {ds : List PyData} (sd : SeqAt.shaped d = true) (hu : A.units + 65 < cLine) : A.units + 1 + min (PyData.depthAll ds) d.depth < cLine := room_in_shaped sd hu
theorem op_inT (hu : X.A.units + 65 < cLine) : OpR X (compareOp .In) (rInT X.K false) := by
  intro pins s σ H x y v u Q I rx ry h
  obtain ⟨d, ds, hd, he, sd, se, q⟩ := h
  obtain ⟨as, r1⟩ := Dp.reads I d x v hd rx
  obtain ⟨bs, r2⟩ := Dp.reads I (.tuple ds) y u he ry
  exact SeqAt.in_tuple_reads r2 r1 (SeqAt.canLay_of_shaped se) (SeqAt.canLay_of_shaped sd) (room_in_shapedT sd hu) ⟨.bl _, H, I, rfl, q⟩
theorem op_notInT (hu : X.A.units + 65 < cLine) : OpR X (compareOp .NotIn) (rInT X.K true) := by
  intro pins s σ H x y v u Q I rx ry h
  obtain ⟨d, ds, hd, he, sd, se, q⟩ := h
  obtain ⟨as, r1⟩ := Dp.reads I d x v hd rx
  obtain ⟨bs, r2⟩ := Dp.reads I (.tuple ds) y u he ry
  exact SeqAt.notIn_tuple_reads r2 r1 (SeqAt.canLay_of_shaped se) (SeqAt.canLay_of_shaped sd) (room_in_shapedT sd hu) ⟨.bl _, H, I, rfl, q⟩
abbrev rInA (K : PySem.W.Frag) : R2 := fun x y H Q => rInD K x y H Q ∨ rInT K false x y H Q ∨ (∃ i j, x = .str i ∧ y = .str j ∧ Q (.bl (!(Builtin.Str.occurrences j i 0 j.length 1).isEmpty)) H)
abbrev rNotInA (K : PySem.W.Frag) : R2 := fun x y H Q => rNotInD K x y H Q ∨ rInT K true x y H Q ∨ (∃ i j, x = .str i ∧ y = .str j ∧ Q (.bl (!(!(Builtin.Str.occurrences j i 0 j.length 1).isEmpty))) H)
theorem op_inA (hu : X.A.units + 65 < cLine) : OpR X (compareOp .In) (rInA X.K) := OpR.or (op_inD hu) (OpR.or (op_inT hu) op_in_str)
theorem op_notInA (hu : X.A.units + 65 < cLine) : OpR X (compareOp .NotIn) (rNotInA X.K) := OpR.or (op_notInD hu) (OpR.or (op_notInT hu) op_notin_str)
theorem any_py (d : D) : ∀ ds : List D, (pys ds).any (fun z => PyData.eqv z d.py) = ds.any fun z => eqD z d
  | [] => rfl
  | e :: ds => by simp only [pys, List.any_cons, any_py d ds]; rfl
theorem sim_in : Sim2 K (rInA K) gIn := by
  intro G H x y d e t gh rx ry hg Q q
  unfold gIn inD at hg
  cases e with
  | lst ds =>
    by_cases hc : (d.okEq && (D.lst ds).okEq) = true
    · simp only [hc, if_true] at hg
      rw [Bool.and_eq_true] at hc
      obtain ⟨p1, p2⟩ := okEq_of hc.1
      obtain ⟨p3, p4⟩ := okEq_of hc.2
      cases hg
      refine .inl ⟨_, _, rx.dp gh p1, (by have := ry.dp gh p3; rwa [D.py] at this), p2, (by rwa [D.py] at p4), ?_⟩
      rw [any_py]
      exact q _ _ _ (.pure gh (.bl _))
    · simp only [hc, if_false] at hg; cases hg
  | tup ds =>
    by_cases hc : (d.okEq && (D.tup ds).okEq) = true
    · simp only [hc, if_true] at hg
      rw [Bool.and_eq_true] at hc
      obtain ⟨p1, p2⟩ := okEq_of hc.1
      obtain ⟨p3, p4⟩ := okEq_of hc.2
      cases hg
      refine .inr (.inl ⟨_, _, rx.dp gh p1, (by have := ry.dp gh p3; rwa [D.py] at this), p2, (by rwa [D.py] at p4), ?_⟩)
      rw [any_py]
      exact q _ _ _ (.pure gh (.bl _))
    · simp only [hc, if_false] at hg; cases hg
  | str z =>
    cases d with
    | str w => cases hg; exact .inr (.inr ⟨_, _, rx.str, ry.str, q _ _ _ (.pure gh (.bl _))⟩)
    | _ => cases hg
  | _ => cases hg
theorem sim_notIn : Sim2 K (rNotInA K) gNotIn := by
  intro G H x y d e t gh rx ry hg Q q
  unfold gNotIn inD at hg
  cases e with
  | lst ds =>
    by_cases hc : (d.okEq && (D.lst ds).okEq) = true
    · simp only [hc, if_true] at hg
      rw [Bool.and_eq_true] at hc
      obtain ⟨p1, p2⟩ := okEq_of hc.1
      obtain ⟨p3, p4⟩ := okEq_of hc.2
      cases hg
      refine .inl ⟨_, _, rx.dp gh p1, (by have := ry.dp gh p3; rwa [D.py] at this), p2, (by rwa [D.py] at p4), ?_⟩
      rw [any_py]
      exact q _ _ _ (.pure gh (.bl _))
    · simp only [hc, if_false] at hg; cases hg
  | tup ds =>
    by_cases hc : (d.okEq && (D.tup ds).okEq) = true
    · simp only [hc, if_true] at hg
      rw [Bool.and_eq_true] at hc
      obtain ⟨p1, p2⟩ := okEq_of hc.1
      obtain ⟨p3, p4⟩ := okEq_of hc.2
      cases hg
      refine .inr (.inl ⟨_, _, rx.dp gh p1, (by have := ry.dp gh p3; rwa [D.py] at this), p2, (by rwa [D.py] at p4), ?_⟩)
      rw [any_py]
      exact q _ _ _ (.pure gh (.bl _))
    · simp only [hc, if_false] at hg; cases hg
  | str z =>
    cases d with
    | str w => cases hg; exact .inr (.inr ⟨_, _, rx.str, ry.str, q _ _ _ (.pure gh (.bl _))⟩)
    | _ => cases hg
  | _ => cases hg
/-! subscripts -/
theorem DRels.at_ {G : Hp} {vs : List V} {ds : List D} {i : Int} {d : D} (h : DRels K G vs ds) (e : atI ds i = some d) : ∃ v, atI vs i = some v ∧ DRel K G v d := by
  unfold atI at e ⊢
  rw [h.length]
  cases q : ixN ds.length i with
  | none => rw [q] at e; cases e
  | some j =>
    rw [q] at e
    obtain ⟨v, h1, h2⟩ := h.get (i := j) e
    exact ⟨v, h1, h2⟩
theorem atI_map {α β : Type} (f : α → β) (l : List α) (i : Int) : atI (l.map f) i = (atI l i).map f := by
  unfold atI
  rw [List.length_map]
  cases ixN l.length i with
  | none => rfl
  | some j => simp
theorem sim_ix : Sim2 K (rIx K) gIx := by
  intro G H x y d e t gh rx ry hg Q q
  unfold gIx at hg
  split at hg
  · rename_i ds i
    obtain ⟨p, vs, rfl, h1, h2, h3⟩ := rx.lst gh
    cases e1 : atI ds i with
    | none => rw [e1] at hg; cases hg
    | some d' =>
      rw [e1] at hg
      cases hg
      obtain ⟨v, h4, h5⟩ := h3.at_ e1
      exact .inl ⟨p, vs, i, v, rfl, ry.int, SqL.of h1, h4, q _ _ _ (.pure gh h5)⟩
  · rename_i ds i
    obtain ⟨p, vs, rfl, h1, h2, h3⟩ := rx.tup gh
    cases e1 : atI ds i with
    | none => rw [e1] at hg; cases hg
    | some d' =>
      rw [e1] at hg
      cases hg
      obtain ⟨v, h4, h5⟩ := h3.at_ e1
      exact .inr (.inl ⟨p, vs, i, v, rfl, ry.int, SqT.of h1, h4, q _ _ _ (.pure gh h5)⟩)
  · rename_i ns i
    obtain ⟨p, rfl, h1⟩ := rx.scr gh
    cases e1 : atI ns i with
    | none => rw [e1] at hg; cases hg
    | some n =>
      rw [e1] at hg
      cases hg
      exact .inl ⟨p, _, i, .int n, rfl, ry.int, h1, by rw [atI_map, e1]; rfl, q _ _ _ (.pure gh (.int _))⟩
  · rename_i z i
    split at hg
    · rename_i hz
      cases e1 : atI z.cps.toList i with
      | none => rw [e1] at hg; cases hg
      | some c =>
        rw [e1] at hg
        cases hg
        exact .inr (.inr ⟨z, i, c, rx.str, ry.int, SL_le hz, e1, q _ _ _ (.pure gh (.str _))⟩)
    · cases hg
  · cases hg
end
end VL

set_option Elab.async false
set_option linter.all false
set_option maxRecDepth 100000
set_option maxHeartbeats 1000000
/-! VL4: tests, and, or, not, if-else; calls of built-ins. -/
namespace VL
open PySem PySem.Spec PyProof.Rows L2

abbrev FT := VSt → Option (Bool × VSt)
def SimT (K : PySem.W.Frag) (tt : TT) (f : FT) : Prop := ∀ σ S G H, StRel K G H σ S → ∀ b S', f S = some (b, S') → ∀ Q : Bool → Hp → Prop, (∀ G' H', Step K σ S G H S' G' H' → Q b H') → tt σ H Q
structure VT (X : Cx) (e : Expr) (f : FT) : Prop where
  ex : ∃ tt, PT X e tt ∧ SimT X.K tt f
structure VW (X : Cx) (e : Expr) (f : FT) : Prop where
  ex : ∃ tt, PW X e tt ∧ SimT X.K tt f
def fTest (f : FE) : FT := fun S => match f S with
  | some ((_, .bl b), S') => some (b, S')
  | _ => none
theorem simT_of {K : PySem.W.Frag} {te : TE} {f : FE} (h : SimE K te f) : SimT K (tTest te) (fTest f) := by
  intro σ S G H r b S' ho Q q
  unfold fTest at ho
  split at ho
  · rename_i o b' S1 e
    obtain ⟨rfl, rfl⟩ := some_pair ho
    refine h σ S G H r _ _ e _ fun v G' H' p => ?_
    have hv : v = .bl b' := by
      have := p.rel.rd.bl
      exact this
    exact ⟨b', hv, q G' H' p.step⟩
  · cases ho
def fAnd (f g : FT) : FT := fun S => match f S with
  | some (true, S1) => g S1
  | some (false, S1) => some (false, S1)
  | none => none
def fOr (f g : FT) : FT := fun S => match f S with
  | some (false, S1) => g S1
  | some (true, S1) => some (true, S1)
  | none => none
def fNot (f : FT) : FT := fun S => match f S with
  | some (b, S1) => some (!b, S1)
  | none => none
def fIfE (c : FT) (f g : FE) : FE := fun S => match c S with
  | some (true, S1) => f S1
  | some (false, S1) => g S1
  | none => none
def fAndV (f g : FE) : FE := fun S => match f S with
  | some ((_, .bl true), S1) => g S1
  | some ((_, .bl false), S1) => some ((false, .bl false), S1)
  | _ => none
def fOrV (f g : FE) : FE := fun S => match f S with
  | some ((_, .bl false), S1) => g S1
  | some ((_, .bl true), S1) => some ((false, .bl true), S1)
  | _ => none
def fNotV (f : FE) : FE := fun S => match f S with
  | some ((_, .bl b), S1) => some ((false, .bl (!b)), S1)
  | _ => none
section
variable {X : Cx} {e a b c : Expr} {rest : List Expr} {pos : Pos}
theorem vt_cmp {op : CmpOp} {r : R2} {g : D → D → Option T} {f f' : FO} (ho : OpR X (compareOp op) r) (hs : Sim2 X.K r g) (ha : VO X a f) (hb : VO X b f') (hm : behindInMarks op b = false := by first | exact nomark _ | rfl | with_unfolding_all rfl) : VT X (.Compare a [op] [b] pos) (fTest (fOp2 g f f')) := by
  obtain ⟨ta, p, s⟩ := ha.ex
  obtain ⟨tb, p', s'⟩ := hb.ex
  have V : ∀ te, SimE X.K te (fOp2 g f f') → SimT X.K (tTest te) (fTest (fOp2 g f f')) := fun te => simT_of
  refine ⟨_, pt_cmpR ho p p' hm, V _ ?_⟩
  intro σ S G H r t S' h Q q
  unfold fOp2 at h
  split at h
  · rename_i o S1 e1
    split at h
    · rename_i o' S2 e2
      split at h
      · rename_i d e e3 e4
        split at h
        · rename_i t' e5
          obtain ⟨rfl, rfl⟩ := some_pair h
          refine s σ S G H r o S1 e1 _ fun v G1 H1 a1 => ?_
          refine s' σ S1 G1 H1 a1.step.st o' S2 e2 _ fun v2 G2 H2 a2 => ?_
          have a3 := a1.over a2.step
          refine hs G2 H2 v v2 d e t' a2.step.st.gh (a3.rd e3) (a2.rd e4) e5 _ fun v3 G3 H3 o3 => ?_
          exact q v3 G3 H3 (a3.step.post (o3.post a2.step.st))
        · cases h
      · cases h
    · cases h
  · cases h
theorem vt_not {f : FT} (h : VT X a f) : VT X (.UnaryOp .Not a pos) (fNot f) := by
  obtain ⟨tt, p, s⟩ := h.ex
  refine ⟨_, pt_not p, fun σ S G H r b S' ho Q q => ?_⟩
  unfold fNot at ho
  split at ho
  · rename_i b' S1 e1
    obtain ⟨rfl, rfl⟩ := some_pair ho
    exact s σ S G H r b' S1 e1 _ fun G' H' p => q G' H' p
  · cases ho
theorem vw_and1 {f : FT} (h : VT X a f) : VW X (.BoolOp .And [a] pos) f := let ⟨tt, p, s⟩ := h.ex; ⟨tt, pw_and1 p, s⟩
theorem vw_or1 {f : FT} (h : VT X a f) : VW X (.BoolOp .Or [a] pos) f := let ⟨tt, p, s⟩ := h.ex; ⟨tt, pw_or1 p, s⟩
theorem vt_w {f : FT} (h : VW X e f) : VT X e f := let ⟨tt, p, s⟩ := h.ex; ⟨tt, p.pt, s⟩
theorem vw_and {f g : FT} (h : VT X a f) (h' : VW X (.BoolOp .And (b :: rest) pos) g) : VW X (.BoolOp .And (a :: b :: rest) pos) (fAnd f g) := by
  obtain ⟨tt, p, s⟩ := h.ex
  obtain ⟨tt', p', s'⟩ := h'.ex
  refine ⟨_, pw_and p p', fun σ S G H r b S' ho Q q => ?_⟩
  unfold fAnd at ho
  split at ho
  · rename_i S1 e1
    refine s σ S G H r true S1 e1 _ fun G1 H1 a1 => ?_
    rw [if_pos rfl]
    exact s' σ S1 G1 H1 a1.st b S' ho _ fun G2 H2 a2 => q G2 H2 (a1.trans a2)
  · rename_i S1 e1
    obtain ⟨rfl, rfl⟩ := some_pair ho
    refine s σ S G H r false S1 e1 _ fun G1 H1 a1 => ?_
    exact iteF (q G1 H1 a1)
  · cases ho
theorem vw_or {f g : FT} (h : VT X a f) (h' : VW X (.BoolOp .Or (b :: rest) pos) g) : VW X (.BoolOp .Or (a :: b :: rest) pos) (fOr f g) := by
  obtain ⟨tt, p, s⟩ := h.ex
  obtain ⟨tt', p', s'⟩ := h'.ex
  refine ⟨_, pw_or p p', fun σ S G H r b S' ho Q q => ?_⟩
  unfold fOr at ho
  split at ho
  · rename_i S1 e1
    refine s σ S G H r false S1 e1 _ fun G1 H1 a1 => ?_
    exact iteF (s' σ S1 G1 H1 a1.st b S' ho _ fun G2 H2 a2 => q G2 H2 (a1.trans a2))
  · rename_i S1 e1
    obtain ⟨rfl, rfl⟩ := some_pair ho
    refine s σ S G H r true S1 e1 _ fun G1 H1 a1 => ?_
    exact iteT (q G1 H1 a1)
  · cases ho
/-- an expression that gives a bool, as a test -/
theorem vt_val {f : FE} (h : VE X e f) (he : ∀ whole, isTrue e X.env whole = (do let v ← whole; standAt e.pos; holding [v] (truthy v)) := by intro _; rfl) : VT X e (fTest f) := by
  obtain ⟨te, p, s⟩ := h.ex
  exact ⟨_, pt_val p he, simT_of s⟩
theorem ve_ifE {ct : FT} {f g : FE} (hc : VT X c ct) (ha : VE X a f) (hb : VE X b g) : VE X (.IfExp c a b pos) (fIfE ct f g) := by
  obtain ⟨tt, p, s⟩ := hc.ex
  obtain ⟨ta, pa, sa⟩ := ha.ex
  obtain ⟨tb, pb, sb⟩ := hb.ex
  refine ⟨_, pe_ifExp p pa pb, fun σ S G H r t S' ho Q q => ?_⟩
  unfold fIfE at ho
  split at ho
  · rename_i S1 e1
    refine s σ S G H r true S1 e1 _ fun G1 H1 a1 => iteT ?_
    exact sa σ S1 G1 H1 a1.st t S' ho _ fun v G2 H2 a2 => q v G2 H2 (a1.post a2)
  · rename_i S1 e1
    refine s σ S G H r false S1 e1 _ fun G1 H1 a1 => iteF ?_
    exact sb σ S1 G1 H1 a1.st t S' ho _ fun v G2 H2 a2 => q v G2 H2 (a1.post a2)
  · cases ho
theorem TRel.blv {K : PySem.W.Frag} {G H : Hp} {v : V} {o b : Bool} (h : TRel K G H v (o, .bl b)) : v = .bl b := h.rd.bl
theorem ve_and {f g : FE} (ha : VE X a f) (hb : VE X (.BoolOp .And (b :: rest) pos) g) : VE X (.BoolOp .And (a :: b :: rest) pos) (fAndV f g) := by
  obtain ⟨ta, pa, sa⟩ := ha.ex
  obtain ⟨tb, pb, sb⟩ := hb.ex
  refine ⟨_, pe_and pa pb, fun σ S G H r t S' ho Q q => ?_⟩
  unfold fAndV at ho
  split at ho
  · rename_i o S1 e1
    refine sa σ S G H r _ S1 e1 _ fun v G1 H1 a1 => ⟨true, a1.rel.blv, iteT ?_⟩
    exact sb σ S1 G1 H1 a1.step.st t S' ho _ fun v G2 H2 a2 => q v G2 H2 (a1.step.post a2)
  · rename_i o S1 e1
    obtain ⟨rfl, rfl⟩ := some_pair ho
    refine sa σ S G H r _ S1 e1 _ fun v G1 H1 a1 => ⟨false, a1.rel.blv, iteF ?_⟩
    exact q _ G1 H1 ⟨a1.step, .bl false, fun z => nomatch z⟩
  · cases ho
theorem ve_or {f g : FE} (ha : VE X a f) (hb : VE X (.BoolOp .Or (b :: rest) pos) g) : VE X (.BoolOp .Or (a :: b :: rest) pos) (fOrV f g) := by
  obtain ⟨ta, pa, sa⟩ := ha.ex
  obtain ⟨tb, pb, sb⟩ := hb.ex
  refine ⟨_, pe_or pa pb, fun σ S G H r t S' ho Q q => ?_⟩
  unfold fOrV at ho
  split at ho
  · rename_i o S1 e1
    refine sa σ S G H r _ S1 e1 _ fun v G1 H1 a1 => ⟨false, a1.rel.blv, iteF ?_⟩
    exact sb σ S1 G1 H1 a1.step.st t S' ho _ fun v G2 H2 a2 => q v G2 H2 (a1.step.post a2)
  · rename_i o S1 e1
    obtain ⟨rfl, rfl⟩ := some_pair ho
    refine sa σ S G H r _ S1 e1 _ fun v G1 H1 a1 => ⟨true, a1.rel.blv, iteT ?_⟩
    exact q _ G1 H1 ⟨a1.step, .bl true, fun z => nomatch z⟩
  · cases ho
theorem ve_one {op : BoolOp} {f : FE} (h : VE X a f) : VE X (.BoolOp op [a] pos) f := let ⟨te, p, s⟩ := h.ex; ⟨te, pe_one p, s⟩
theorem ve_not {f : FE} (h : VE X a f) : VE X (.UnaryOp .Not a pos) (fNotV f) := by
  obtain ⟨te, p, s⟩ := h.ex
  refine ⟨_, pe_not p, fun σ S G H r t S' ho Q q => ?_⟩
  unfold fNotV at ho
  split at ho
  · rename_i o b S1 e1
    obtain ⟨rfl, rfl⟩ := some_pair ho
    refine s σ S G H r _ S1 e1 _ fun v G1 H1 a1 => ⟨b, a1.rel.blv, ?_⟩
    exact q _ G1 H1 ⟨a1.step, .bl _, fun z => nomatch z⟩
  · cases ho
/-! operators by their syntax -/
theorem ve_bin {op : Operator} {r : R2} {g : D → D → Option T} {f f' : FO} (ho : OpR X (binaryOp op) r) (hs : Sim2 X.K r g) (ha : VO X a f) (hb : VO X b f') : VE X (.BinOp a op b pos) (fOp2 g f f') :=
  ve_op2 (fun _ _ pa pb => pe_op ho pa pb) ha hb hs
theorem ve_un {op : UnaryOp} {r : V → Hp → VK → Prop} {g : D → Option T} {f : FO} (ho : UnR X (unaryOp op) r) (hs : Sim1 X.K r g) (ha : VO X a f) : VE X (.UnaryOp op a pos) (fOp1 g f) :=
  ve_op1 (fun _ pa => pe_un ho pa) ha hs
theorem ve_cmp {op : CmpOp} {r : R2} {g : D → D → Option T} {f f' : FO} (ho : OpR X (compareOp op) r) (hs : Sim2 X.K r g) (ha : VO X a f) (hb : VO X b f') (hm : behindInMarks op b = false := by first | exact nomark _ | rfl | with_unfolding_all rfl) : VE X (.Compare a [op] [b] pos) (fOp2 g f f') :=
  ve_op2 (fun _ _ pa pb => pe_cmpR ho pa pb hm) ha hb hs
theorem ve_ix {f f' : FO} (ha : VO X a f) (hb : VO X b f') (hp : PlainIx b := by exact fun _ _ => rfl) : VE X (.Subscript a b pos) (fOp2 gIx f f') :=
  ve_op2 (fun _ _ pa pb => pe_ix ix_seq pa pb hp) ha hb sim_ix
/-! a chain of two comparisons of ints -/
def fChain (g g' : D → D → Option T) (f f' f'' : FO) : FE := fun S => match f S with
  | some (o, S1) => match f' S1 with
    | some (o', S2) => match res S2 o, res S2 o' with
      | some d, some e => match g d e with
        | some (_, .bl true) => match f'' S2 with
          | some (o'', S3) => match res S3 o', res S3 o'' with
            | some e', some z => match g' e' z with
              | some t => some (t, S3)
              | none => none
            | _, _ => none
          | none => none
        | some (_, .bl false) => some ((false, .bl false), S2)
        | _ => none
      | _, _ => none
    | none => none
  | none => none
end

/-! ### several operands; calls of built-ins -/
abbrev FOs := VSt → Option (List Opd × VSt)
inductive OpdRels (K : PySem.W.Frag) (σ : St) (S : VSt) (G H : Hp) (S' : VSt) (G' H' : Hp) : List V → List Opd → Prop
  | nil : OpdRels K σ S G H S' G' H' [] []
  | cons {v : V} {o : Opd} {vs : List V} {os : List Opd} : OpdRel K σ S G H v o S' G' H' → OpdRels K σ S G H S' G' H' vs os → OpdRels K σ S G H S' G' H' (v :: vs) (o :: os)
structure PostOs (K : PySem.W.Frag) (σ : St) (S : VSt) (G H : Hp) (vs : List V) (os : List Opd) (S' : VSt) (G' H' : Hp) : Prop where
  step : Step K σ S G H S' G' H'
  rel : OpdRels K σ S G H S' G' H' vs os
def SimOs (K : PySem.W.Frag) (ta : TA) (f : FOs) : Prop := ∀ σ S G H, StRel K G H σ S → ∀ os S', f S = some (os, S') → ∀ Q : List V → Hp → Prop, (∀ vs G' H', PostOs K σ S G H vs os S' G' H' → Q vs H') → ta σ H Q
structure VOs (X : Cx) (es : List Expr) (f : FOs) : Prop where
  ex : ∃ ta, PA X es ta ∧ SimOs X.K ta f
def foNil : FOs := fun S => some ([], S)
def foCons (f : FO) (g : FOs) : FOs := fun S => match f S with
  | some (o, S1) => match g S1 with
    | some (os, S2) => some (o :: os, S2)
    | none => none
  | none => none
def ress (S : VSt) : List Opd → Option (List D)
  | [] => some []
  | o :: os => match res S o, ress S os with
    | some d, some ds => some (d :: ds)
    | _, _ => none
inductive RRels (K : PySem.W.Frag) (G H : Hp) : List V → List D → Prop
  | nil : RRels K G H [] []
  | cons {v : V} {d : D} {vs : List V} {ds : List D} : RRel K G H v d → RRels K G H vs ds → RRels K G H (v :: vs) (d :: ds)
section
variable {K : PySem.W.Frag} {σ : St} {S S1 S2 : VSt} {G H G1 H1 G2 H2 : Hp}
theorem OpdRel.mk {v : V} {o : Opd} (st : Step K σ S G H S1 G1 H1) (r : OpdRel K σ S G H v o S1 G1 H1) : PostO K σ S G H v o S1 G1 H1 := ⟨st, r⟩
/-- the operands of a later step, seen from the start -/
theorem OpdRels.back {G0 H0 : Hp} {S0 : VSt} (st0 : Step K σ S0 G0 H0 S G H) {vs : List V} {os : List Opd} (r : OpdRels K σ S G H S1 G1 H1 vs os) : OpdRels K σ S0 G0 H0 S1 G1 H1 vs os := by
  induction r with
  | nil => exact .nil
  | @cons v o vs os h _ ih =>
    refine .cons ?_ ih
    cases o with
    | inr i => exact h
    | inl t => exact ⟨h.1, fun b p e => ⟨(h.2 b p e).1, st0.new (h.2 b p e).2⟩⟩
theorem OpdRels.rd {vs : List V} {os : List Opd} (st : Step K σ S G H S1 G1 H1) (r : OpdRels K σ S G H S1 G1 H1 vs os) : ∀ {ds : List D}, ress S1 os = some ds → RRels K G1 H1 vs ds := by
  induction r with
  | nil => intro ds h; cases h; exact .nil
  | cons h _ ih =>
    intro ds e
    unfold ress at e
    split at e
    · rename_i d ds' e1 e2
      cases e
      exact .cons ((OpdRel.mk st h).rd e1) (ih e2)
    · cases e
end
section
variable {X : Cx} {e : Expr} {es : List Expr}
theorem vos_nil : VOs X [] foNil := ⟨_, pa_nil, fun σ S G H r ds S' h Q q => by cases h; exact q [] G H ⟨.refl r, .nil⟩⟩
theorem vos_cons {f : FO} {g : FOs} (h1 : VO X e f) (h2 : VOs X es g) (hs : starEach (e :: es) X.env = (false, eval e X.env) :: starEach es X.env := by rfl) : VOs X (e :: es) (foCons f g) := by
  obtain ⟨te, p1, s1⟩ := h1.ex
  obtain ⟨ta, p2, s2⟩ := h2.ex
  refine ⟨_, pa_cons p1 p2 hs, fun σ S G H r ds S' h Q q => ?_⟩
  unfold foCons at h
  split at h
  · rename_i o S1 e1
    split at h
    · rename_i os S2 e2
      obtain ⟨rfl, rfl⟩ := some_pair h
      refine s1 σ S G H r o S1 e1 _ fun v G1 H1 a1 => ?_
      refine s2 σ S1 G1 H1 a1.step.st os S2 e2 _ fun vs G2 H2 a2 => ?_
      exact q (v :: vs) G2 H2 ⟨a1.step.trans a2.step, .cons (a1.over a2.step).rel (a2.rel.back a1.step)⟩
    · cases h
  · cases h
def SimC (K : PySem.W.Frag) (r : List V → Hp → VK → Prop) (g : List D → Option T) : Prop := ∀ G H vs ds t, Same G H → RRels K G H vs ds → g ds = some t → ∀ Q : VK, (∀ v G' H', OpPost K G H v t G' H' → Q v H') → r vs H Q
def fBC (g : List D → Option T) (f : FOs) : FE := fun S => match f S with
  | some (os, S1) => match ress S1 os with
    | some ds => match g ds with
      | some t => some (t, S1)
      | none => none
    | none => none
  | none => none
theorem ve_bc {g : List D → Option T} {f : FOs} {r : List V → Hp → VK → Prop} {e : Expr} (he : ∀ ta, PA X es ta → PE X e (tCB r ta)) (ha : VOs X es f) (hs : SimC X.K r g) : VE X e (fBC g f) := by
  obtain ⟨ta, p, s⟩ := ha.ex
  refine ⟨_, he ta p, fun σ S G H r t S' h Q q => ?_⟩
  unfold fBC at h
  split at h
  · rename_i os S1 e1
    split at h
    · rename_i ds e2
      split at h
      · rename_i t' e3
        obtain ⟨rfl, rfl⟩ := some_pair h
        refine s σ S G H r os S1 e1 _ fun vs G1 H1 a1 => ?_
        refine hs G1 H1 vs ds t' a1.step.st.gh (a1.rel.rd a1.step e2) e3 _ fun v G2 H2 o2 => ?_
        exact q v G2 H2 (a1.step.post (o2.post a1.step.st))
      · cases h
    · cases h
  · cases h
variable {x : Str} {p pos : Pos} {id T : String} {r : List V → Hp → VK → Prop} {g : List D → Option VL.T} {f : FOs}
theorem ve_callB (hc : CallR X (.builtin id) r) (hs : SimC X.K r g) (hm : X.mg x = none) (hv : bootBuiltins x = some (.builtin id)) (ha : VOs X (e :: es) f) (hg : Gl X x := by rfl) (hn : x ≠ "__name__" := by decide) (hdb : (x == ("__debug__" : Str)) = false := by decide)
    (he : starEach (e :: es) X.env = (false, eval e X.env) :: starEach es X.env := by rfl) (hpl : (backTo pos (starEach es X.env)).any (·.1) = false := by rfl) : VE X (.Call (.Name x p) (e :: es) [] pos) (fBC g f) :=
  ve_bc (fun ta p => pe_callB hc hg hm hv p hn hdb he hpl) ha hs
theorem ve_callTy (hc : CallR X (.type T) r) (hs : SimC X.K r g) (hm : X.mg x = none) (hv : bootBuiltins x = some (.type T)) (ha : VOs X (e :: es) f) (hg : Gl X x := by rfl) (hn : x ≠ "__name__" := by decide) (hdb : (x == ("__debug__" : Str)) = false := by decide)
    (he : starEach (e :: es) X.env = (false, eval e X.env) :: starEach es X.env := by rfl) (hpl : (backTo pos (starEach es X.env)).any (·.1) = false := by rfl) : VE X (.Call (.Name x p) (e :: es) [] pos) (fBC g f) :=
  ve_bc (fun ta p => pe_callTy hc hg hm hv p hn hdb he hpl) ha hs
end
end VL

set_option Elab.async false
set_option linter.all false
set_option maxRecDepth 100000
set_option maxHeartbeats 1000000
/-! VL5: statements. -/
namespace VL
open PySem PySem.Spec PyProof.Rows L2

inductive Out where
  | nx (S : VSt) | ret (t : T) (S : VSt) | brk (S : VSt) | cnt (S : VSt)
abbrev FS := VSt → Option Out
abbrev Kp := Nat → Bool
structure StepS (kp : Kp) (K : PySem.W.Frag) (σ : St) (S : VSt) (G H : Hp) (σ' : St) (S' : VSt) (G' H' : Hp) : Prop where
  ext : Ext (Own σ S) G H G' H'
  st : StRel K G' H' σ' S'
  own : ∀ p, Own σ' S' p → Own σ S p ∨ H p = none
  keep : ∀ i, kp i = true → σ'[i]? = σ[i]?
  len : σ'.length = σ.length
  kow : ∀ (i : Nat) (d : D), kp i = true → S'[i]? = some (some (true, d)) → ∃ e : D, S[i]? = some (some (true, e))
structure PostS (kp : Kp) (K : PySem.W.Frag) (σ : St) (S : VSt) (G H : Hp) (v : V) (t : T) (σ' : St) (S' : VSt) (G' H' : Hp) : Prop where
  step : StepS kp K σ S G H σ' S' G' H'
  rel : TRel K G' H' v t
  new : t.1 = true → ∀ p, v = .ref p → ¬ Own σ' S' p ∧ (Own σ S p ∨ H p = none)
def OutOk (kp : Kp) (K : PySem.W.Frag) (σ : St) (S : VSt) (G H : Hp) (D : Ends) : Out → Prop
  | .nx S' => ∀ σ' G' H', StepS kp K σ S G H σ' S' G' H' → D.nx σ' H'
  | .ret t S' => ∀ v σ' G' H', PostS kp K σ S G H v t σ' S' G' H' → D.rt v H'
  | .brk S' => ∀ σ' G' H', StepS kp K σ S G H σ' S' G' H' → D.bk σ' H'
  | .cnt S' => ∀ σ' G' H', StepS kp K σ S G H σ' S' G' H' → D.ct σ' H'
def SimS (kp : Kp) (K : PySem.W.Frag) (ts : TS) (f : FS) : Prop := ∀ σ S G H, StRel K G H σ S → ∀ o, f S = some o → ∀ D : Ends, OutOk kp K σ S G H D o → ts D σ H
structure VS (kp : Kp) (X : Cx) (st : Stmt) (f : FS) : Prop where
  ex : ∃ ts, PS X st ts ∧ SimS kp X.K ts f
structure VSs (kp : Kp) (X : Cx) (st : List Stmt) (f : FS) : Prop where
  ex : ∃ ts, PSs X st ts ∧ SimS kp X.K ts f
section
variable {kp : Kp} {K : PySem.W.Frag} {σ σ1 σ2 : St} {S S1 S2 : VSt} {G H G1 H1 G2 H2 : Hp}
theorem StepS.refl (r : StRel K G H σ S) : StepS kp K σ S G H σ S G H := ⟨.refl, r, fun _ h => .inl h, fun _ _ => rfl, rfl, fun _ d _ h => ⟨d, h⟩⟩
theorem StepS.back (a : StepS kp K σ S G H σ1 S1 G1 H1) {p : Addr} (h : Own σ1 S1 p ∨ H1 p = none) : Own σ S p ∨ H p = none := by
  rcases h with h | h
  · exact a.own p h
  · by_cases hO : Own σ S p
    · exact .inl hO
    · right
      cases hH : H p with
      | none => rfl
      | some o => rw [a.ext.same p o hH hO] at h; cases h
theorem StepS.trans (a : StepS kp K σ S G H σ1 S1 G1 H1) (b : StepS kp K σ1 S1 G1 H1 σ2 S2 G2 H2) : StepS kp K σ S G H σ2 S2 G2 H2 :=
  ⟨a.ext.trans b.ext a.own, b.st, fun p h => a.back (b.own p h), fun i h => (b.keep i h).trans (a.keep i h), b.len.trans a.len, fun i d k h => let ⟨e, h'⟩ := b.kow i d k h; a.kow i e k h'⟩
theorem Step.toS (a : Step K σ S G H S1 G1 H1) : StepS kp K σ S G H σ S1 G1 H1 := ⟨a.ext, a.st, fun p h => .inl (a.own p h), fun _ _ => rfl, rfl, fun i d _ h => a.sow i d h⟩
theorem StepS.post {v : V} {t : T} (a : StepS kp K σ S G H σ1 S1 G1 H1) (b : PostS kp K σ1 S1 G1 H1 v t σ2 S2 G2 H2) : PostS kp K σ S G H v t σ2 S2 G2 H2 :=
  ⟨a.trans b.step, b.rel, fun h p e => ⟨(b.new h p e).1, a.back (b.new h p e).2⟩⟩
theorem Post.toS {v : V} {t : T} (a : Post K σ S G H v t S1 G1 H1) : PostS kp K σ S G H v t σ S1 G1 H1 := ⟨a.step.toS, a.rel, a.new⟩
theorem OutOk.after {D : Ends} {o : Out} (a : StepS kp K σ S G H σ1 S1 G1 H1) (h : OutOk kp K σ S G H D o) : OutOk kp K σ1 S1 G1 H1 D o := by
  cases o with
  | nx S' => exact fun σ' G' H' s => h σ' G' H' (a.trans s)
  | ret t S' => exact fun v σ' G' H' s => h v σ' G' H' (a.post s)
  | brk S' => exact fun σ' G' H' s => h σ' G' H' (a.trans s)
  | cnt S' => exact fun σ' G' H' s => h σ' G' H' (a.trans s)
/-- a value is stored in a slot -/
theorem Post.store {v : V} {t : T} {i : Nat} (a : Post K σ S G H v t S1 G1 H1) (hi : i < σ.length) (hk : kp i = false) : StepS kp K σ S G H (σ.set i (some v)) (S1.set i (some t)) G1 H1 := by
  have r1 := a.step.st
  have hl : S1.length = σ.length := r1.len
  have own' : ∀ p j d, j ≠ i → S1[j]? = some (some (true, d)) → (σ.set i (some v))[j]? = some (some (V.ref p)) → Own σ S1 p := fun p j d hj h1 h2 => by
    rw [List.getElem?_set_ne (Ne.symm hj)] at h2
    exact ⟨j, d, h1, h2⟩
  refine ⟨a.step.ext, ⟨by simp [hl], r1.gh, fun j u e => ?_, fun j k d e w h1 h2 k1 k2 => ?_⟩, fun p o => ?_, fun j hj => ?_, by simp, fun j d hj h => (getElem?_set' h).elim (fun z => by rw [← z.1, hk] at hj; cases hj) fun z => a.step.sow j d z.2⟩
  · rcases getElem?_set' e with ⟨z1, z2⟩ | ⟨z1, z⟩
    · subst z1; cases z2; exact ⟨v, List.getElem?_set_self hi, a.rel⟩
    · obtain ⟨w, h1, h2⟩ := r1.sl j u z
      exact ⟨w, by rw [List.getElem?_set_ne z1]; exact h1, h2⟩
  · have key : ∀ d e w j, S1[j]? = some (some (true, e)) → j ≠ i → t = (true, d) → v = w → (σ.set i (some v))[j]? = some (some w) → False := fun d e w j hA hj ht hv hB => by
      have tr := a.rel
      have tn := a.new
      rw [ht] at tr tn
      obtain ⟨p, ep, _⟩ := tr
      refine (tn rfl p ep).1 (own' p j e hj hA ?_)
      rw [hB, ← hv, ep]
    have vi : ∀ w, (σ.set i (some v))[i]? = some (some w) → v = w := fun w h => by
      rw [List.getElem?_set_self hi] at h
      exact Option.some.inj (Option.some.inj h)
    rcases getElem?_set' h1 with ⟨y1, y2⟩ | ⟨y, y1⟩
    · subst y1
      rcases getElem?_set' h2 with ⟨z1, z2⟩ | ⟨z, z1⟩
      · exact z1
      · exact (key d e w k z1 (Ne.symm z) (Option.some.inj y2) (vi w k1) k2).elim
    · rcases getElem?_set' h2 with ⟨z1, z2⟩ | ⟨z, z1⟩
      · subst z1
        exact (key e d w j y1 (Ne.symm y) (Option.some.inj z2) (vi w k2) k1).elim
      · rw [List.getElem?_set_ne y] at k1
        rw [List.getElem?_set_ne z] at k2
        exact r1.inj j k d e w y1 z1 k1 k2
  · obtain ⟨j, d, h1, h2⟩ := o
    rcases getElem?_set' h1 with ⟨y1, y2⟩ | ⟨y, y1⟩
    · subst y1
      have e : v = .ref p := by
        rw [List.getElem?_set_self hi] at h2
        exact Option.some.inj (Option.some.inj h2)
      have z := Option.some.inj y2
      exact (a.new (by rw [z]) p e).2
    · exact .inl (a.step.own p (own' p j d (Ne.symm y) y1 h2))
  · have : j ≠ i := fun e => by subst e; rw [hk] at hj; cases hj
    rw [List.getElem?_set_ne (Ne.symm this)]
/-- an owned slot's container is changed -/
theorem Step.change {i : Nat} {d d' : D} {p : Addr} {o : HO} (a : Step K σ S G H S1 G1 H1) (h : S1[i]? = some (some (true, d))) (hp : σ[i]? = some (some (V.ref p))) (c : Cont K G1 (upd H1 p o) p d') : Step K σ S G H (S1.set i (some (true, d'))) G1 (upd H1 p o) := by
  have r1 := a.st
  have ow : Own σ S1 p := ⟨i, d, h, hp⟩
  have gp := (r1.own ow).1
  have iff : ∀ q, Own σ (S1.set i (some (true, d'))) q → Own σ S1 q := fun q z => by
    obtain ⟨j, e, h1, h2⟩ := z
    rcases getElem?_set' h1 with ⟨y1, _⟩ | ⟨_, y⟩
    · subst y1; exact ⟨i, d, h, h2⟩
    · exact ⟨j, e, y, h2⟩
  refine ⟨⟨fun q u e n => ?_, a.ext.gg, a.ext.gn⟩, ⟨by rw [List.length_set]; exact r1.len, fun q u e => ?_, fun j t e => ?_, fun j k e1 e2 w h1 h2 k1 k2 => ?_⟩, fun j e z => (getElem?_set' z).elim (fun y => a.sow j d (y.1 ▸ h)) fun y => a.sow j e y.2⟩
  · have ne : q ≠ p := fun z => by subst z; exact n (a.own _ ow)
    rw [upd_ne ne]
    exact a.ext.same q u e n
  · have ne : q ≠ p := fun z => by subst z; rw [gp] at e; cases e
    rw [upd_ne ne]
    exact r1.gh q u e
  · rcases getElem?_set' e with ⟨y1, y2⟩ | ⟨y0, y⟩
    · subst y1
      cases y2
      exact ⟨.ref p, hp, p, rfl, gp, c⟩
    · obtain ⟨v, h1, h2⟩ := r1.sl j t y
      refine ⟨v, h1, ?_⟩
      obtain ⟨b, e3⟩ := t
      cases b with
      | false => exact h2
      | true =>
        obtain ⟨q, rfl, g1, c1⟩ := h2
        have ne : q ≠ p := fun z => by subst z; exact y0 (r1.inj i j d e3 _ h y hp h1)
        exact ⟨q, rfl, g1, c1.mono (fun _ _ z => z) fun u z => by rw [upd_ne ne]; exact z⟩
  · have g : ∀ j e, (S1.set i (some (true, d')))[j]? = some (some (true, e)) → ∃ e', S1[j]? = some (some (true, e')) := fun j e z => by
      rcases getElem?_set' z with ⟨y1, _⟩ | ⟨_, y⟩
      · subst y1; exact ⟨d, h⟩
      · exact ⟨e, y⟩
    obtain ⟨e1', q1⟩ := g j e1 h1
    obtain ⟨e2', q2⟩ := g k e2 h2
    exact r1.inj j k e1' e2' w q1 q2 k1 k2
end

/-! ### blocks, return, if, assignment -/
def fSkip : FS := fun S => some (.nx S)
def fSeq (f g : FS) : FS := fun S => match f S with
  | some (.nx S1) => g S1
  | o => o
def fRet (f : FE) : FS := fun S => match f S with
  | some (t, S1) => some (.ret t S1)
  | none => none
def fRetN : FS := fun S => some (.ret (false, .non) S)
def fDrop (f : FE) : FS := fun S => match f S with
  | some (_, S1) => some (.nx S1)
  | none => none
def fSet (i : Nat) (f : FE) : FS := fun S => match f S with
  | some (t, S1) => if i < S1.length then some (.nx (S1.set i (some t))) else none
  | none => none
def fIf (c : FT) (f g : FS) : FS := fun S => match c S with
  | some (true, S1) => f S1
  | some (false, S1) => g S1
  | none => none
def fNever : FS := fun _ => none
section
variable {kp : Kp} {X : Cx} {st : Stmt} {rest : List Stmt} {e c : Expr} {pos : Pos}
theorem vss_nil : VSs kp X [] fSkip := ⟨_, pss_nil, fun σ S G H r o h D q => by cases h; exact q σ G H (.refl r)⟩
theorem vss_cons {f g : FS} (h1 : VS kp X st f) (h2 : VSs kp X rest g) : VSs kp X (st :: rest) (fSeq f g) := by
  obtain ⟨ts, p, s⟩ := h1.ex
  obtain ⟨us, p', s'⟩ := h2.ex
  refine ⟨_, pss_cons p p', fun σ S G H r o h D q => ?_⟩
  unfold fSeq at h
  split at h
  · rename_i S1 e1
    refine s σ S G H r _ e1 { D with nx := us D } fun σ1 G1 H1 a1 => ?_
    exact s' σ1 S1 G1 H1 a1.st o h D (q.after a1)
  · rename_i hn
    refine s σ S G H r _ h { D with nx := us D } ?_
    cases o with
    | nx S' => exact absurd h (hn S')
    | ret t S' => exact q
    | brk S' => exact q
    | cnt S' => exact q
theorem vss_one {f : FS} (h1 : VS kp X st f) : VSs kp X [st] f := let ⟨ts, p, s⟩ := h1.ex; ⟨ts, pss_one p, s⟩
theorem vs_pass : VS kp X (.Pass pos) fSkip := ⟨_, ps_pass, fun σ S G H r o h D q => by cases h; exact q σ G H (.refl r)⟩
theorem vs_break : VS kp X (.Break pos) (fun S => some (.brk S)) := ⟨_, ps_break, fun σ S G H r o h D q => by cases h; exact q σ G H (.refl r)⟩
theorem vs_continue : VS kp X (.Continue pos) (fun S => some (.cnt S)) := ⟨_, ps_continue, fun σ S G H r o h D q => by cases h; exact q σ G H (.refl r)⟩
theorem vs_doc {x j pos pos'} : VS kp X (.Expr (.Constant (.str x) j pos) pos') fSkip := ⟨_, ps_doc, fun σ S G H r o h D q => by cases h; exact q σ G H (.refl r)⟩
theorem vs_never : VS kp X st fNever := ⟨_, ps_never, fun σ S G H r o h D q => nomatch h⟩
theorem vs_ret {f : FE} (h : VE X e f) : VS kp X (.Return (some e) pos) (fRet f) := by
  obtain ⟨te, p, s⟩ := h.ex
  refine ⟨_, ps_ret p, fun σ S G H r o h D q => ?_⟩
  unfold fRet at h
  split at h
  · rename_i t S1 e1
    cases h
    exact s σ S G H r t S1 e1 _ fun v G1 H1 a1 => q v σ G1 H1 a1.toS
  · cases h
theorem vs_retN : VS kp X (.Return none pos) fRetN := ⟨_, ps_retN, fun σ S G H r o h D q => by cases h; exact q .non σ G H ⟨.refl r, .non, fun z => nomatch z⟩⟩
theorem vs_expr {f : FE} (h : VE X e f) (hs : swapsWith e none pos.line X.env = pure false := by rfl) : VS kp X (.Expr e pos) (fDrop f) := by
  obtain ⟨te, p, s⟩ := h.ex
  refine ⟨_, ps_expr p hs, fun σ S G H r o h D q => ?_⟩
  unfold fDrop at h
  split at h
  · rename_i t S1 e1
    cases h
    exact s σ S G H r t S1 e1 _ fun v G1 H1 a1 => q σ G1 H1 a1.step.toS
  · cases h
theorem vs_set (i : Nat) {x : Str} {pos' : Pos} {f : FE} (hN : X.N.Nodup) (h : VE X e f) (hk : kp i = false := by rfl) (hi : X.N[i]? = some x := by rfl) (hx : Loc X.env.scope x := by first | exact Or.inl rfl | exact Or.inr rfl)
    (hs : swapsWith e (some (.Name x pos')) pos.line X.env = pure false := by rfl) (hf : X.fn x = true ∨ X.env.scope.names.lookup x = some .local := by first | exact .inl rfl | exact .inr rfl | assumption) :
    VS kp X (.Assign [.Name x pos'] e pos) (fSet i f) := by
  obtain ⟨te, p, s⟩ := h.ex
  refine ⟨_, ps_set (i := i) hN hi hx p hs hf, fun σ S G H r o h D q => ?_⟩
  unfold fSet at h
  split at h
  · rename_i t S1 e1
    split at h
    · rename_i hl
      cases h
      refine s σ S G H r t S1 e1 _ fun v G1 H1 a1 => ?_
      exact q _ G1 H1 (a1.store (by rw [← a1.step.st.len]; exact hl) hk)
    · cases h
  · cases h
theorem vs_if {a b : List Stmt} {ct : FT} {f g : FS} (hc : VT X c ct) (ha : VSs kp X a f) (hb : VSs kp X b g) : VS kp X (.If c a b pos) (fIf ct f g) := by
  obtain ⟨tt, p, s⟩ := hc.ex
  obtain ⟨ta, pa, sa⟩ := ha.ex
  obtain ⟨tb, pb, sb⟩ := hb.ex
  refine ⟨_, ps_if p pa pb, fun σ S G H r o h D q => ?_⟩
  unfold fIf at h
  split at h
  · rename_i S1 e1
    refine s σ S G H r true S1 e1 _ fun G1 H1 a1 => iteT ?_
    exact sa σ S1 G1 H1 a1.st o h D (q.after a1.toS)
  · rename_i S1 e1
    refine s σ S G H r false S1 e1 _ fun G1 H1 a1 => iteF ?_
    exact sb σ S1 G1 H1 a1.st o h D (q.after a1.toS)
  · cases h
/-! ### targets -/
abbrev FG := D → VSt → Option VSt
def SimG (kp : Kp) (K : PySem.W.Frag) (g : TG) (f : FG) : Prop := ∀ σ S G H v d, StRel K G H σ S → DRel K G v d → ∀ S', f d S = some S' → ∀ Q : St → Hp → Prop, (∀ σ' G' H', StepS kp K σ S G H σ' S' G' H' → Q σ' H') → g v σ H Q
def SimGs (kp : Kp) (K : PySem.W.Frag) (g : TGs) (f : List D → VSt → Option VSt) : Prop := ∀ σ S G H vs ds, StRel K G H σ S → DRels K G vs ds → ∀ S', f ds S = some S' → ∀ Q : St → Hp → Prop, (∀ σ' G' H', StepS kp K σ S G H σ' S' G' H' → Q σ' H') → g vs σ H Q
structure VG (kp : Kp) (X : Cx) (tg : Expr) (f : FG) : Prop where
  ex : ∃ g, PG X tg g ∧ SimG kp X.K g f
structure VGs (kp : Kp) (X : Cx) (tg : List Expr) (f : List D → VSt → Option VSt) : Prop where
  ex : ∃ g, PGs X tg g ∧ SimGs kp X.K g f
def gfName (i : Nat) : FG := fun d S => if i < S.length then some (S.set i (some (false, d))) else none
def gfNil : List D → VSt → Option VSt := fun ds S => match ds with
  | [] => some S
  | _ => none
def gfCons (f : FG) (g : List D → VSt → Option VSt) : List D → VSt → Option VSt := fun ds S => match ds with
  | [] => none
  | d :: ds => match f d S with
    | some S1 => g ds S1
    | none => none
def gfTup (n : Nat) (g : List D → VSt → Option VSt) : FG := fun d S => match d with
  | .tup ds => if ds.length = n then g ds S else none
  | _ => none
theorem vg_name (i : Nat) {x : Str} (hN : X.N.Nodup) (hk : kp i = false := by rfl) (hi : X.N[i]? = some x := by rfl) (hx : Loc X.env.scope x := by first | exact Or.inl rfl | exact Or.inr rfl) (hf : X.fn x = true ∨ X.env.scope.names.lookup x = some .local := by first | exact .inl rfl | exact .inr rfl | assumption) : VG kp X (.Name x pos) (gfName i) := by
  refine ⟨_, pg_name (i := i) hN hi hx hf, fun σ S G H v d r h S' e Q q => ?_⟩
  unfold gfName at e
  split at e
  · rename_i hl
    cases e
    have a1 : Post X.K σ S G H v (false, d) S G H := ⟨.refl r, h, fun z => nomatch z⟩
    exact q _ G H (a1.store (by rw [← r.len]; exact hl) hk)
  · cases e
theorem vgs_nil : VGs kp X [] gfNil := ⟨_, pgs_nil, fun σ S G H vs ds r h S' e Q q => by
  cases h with
  | nil => cases e; exact ⟨rfl, q σ G H (.refl r)⟩
  | cons _ _ => cases e⟩
theorem vgs_cons {es : List Expr} {f : FG} {g : List D → VSt → Option VSt} (h1 : VG kp X e f) (h2 : VGs kp X es g) (hs : (assignEach (e :: es) X.env).map (·.2) = assign e X.env :: (assignEach es X.env).map (·.2) := by rfl) : VGs kp X (e :: es) (gfCons f g) := by
  obtain ⟨t, p, s⟩ := h1.ex
  obtain ⟨u, p', s'⟩ := h2.ex
  refine ⟨_, pgs_cons p p' hs, fun σ S G H vs ds r h S' e Q q => ?_⟩
  cases h with
  | nil => cases e
  | cons hd tl =>
    unfold gfCons at e
    simp only at e
    split at e
    · rename_i S1 e1
      refine ⟨_, _, rfl, s σ S G H _ _ r hd S1 e1 _ fun σ1 G1 H1 a1 => ?_⟩
      exact s' σ1 S1 G1 H1 _ _ a1.st (tl.mono a1.ext.gg) S' e Q fun σ2 G2 H2 a2 => q σ2 G2 H2 (a1.trans a2)
    · cases e
theorem vg_tup {es : List Expr} {k n : Nat} {g : List D → VSt → Option VSt} (hc : X.calm = true) (h : VGs kp X es g) (hn : (assignEach es X.env).length = n := by rfl) (hst : (assignEach es X.env).findIdx? (·.1) = none := by rfl) : VG kp X (.Tuple es k pos) (gfTup n g) := by
  obtain ⟨t, p, s⟩ := h.ex
  refine ⟨_, pg_tup hc p hn hst, fun σ S G H v d r h S' e Q q => ?_⟩
  unfold gfTup at e
  split at e
  · rename_i ds
    split at e
    · rename_i hl
      cases h with
      | tup h1 h2 h3 =>
        exact ⟨_, _, rfl, SqT.of (r.gh _ _ h1), by rw [h3.length]; exact hl, s σ S G H _ _ r h3 S' e Q q⟩
    · cases e
  · cases e
/-- targets = value (not one name alone) -/
def fAsgT (f : FE) (g : FG) : FS := fun S => match f S with
  | some (t, S1) => match g t.2 S1 with
    | some S2 => some (.nx S2)
    | none => none
  | none => none
theorem vs_asg {tg : Expr} {f : FE} {g : FG} (h : VE X e f) (hg : VG kp X tg g) (hs : swapsWithSole [tg] e pos.line X.env = pure false := by rfl) (hw : swappedStores [tg] e X.env = pure none := by rfl)
    (h1 : (assignEach [tg] X.env).map (·.2) = [assign tg X.env] := by rfl) : VS kp X (.Assign [tg] e pos) (fAsgT f g) := by
  obtain ⟨te, p, s⟩ := h.ex
  obtain ⟨t, p', s'⟩ := hg.ex
  refine ⟨_, ps_asg p p' hs hw h1, fun σ S G H r o h D q => ?_⟩
  unfold fAsgT at h
  split at h
  · rename_i u S1 e1
    split at h
    · rename_i S2 e2
      cases h
      refine s σ S G H r u S1 e1 _ fun v G1 H1 a1 => ?_
      obtain ⟨G1', a1'⟩ := a1.frz
      exact s' σ S1 G1' H1 v _ a1'.step.st a1'.rel S2 e2 _ fun σ2 G2 H2 a2 => q σ2 G2 H2 (a1'.step.toS.trans a2)
    · cases h
  · cases h
end
end VL

set_option Elab.async false
set_option linter.all false
set_option maxRecDepth 100000
set_option maxHeartbeats 1000000
/-! VL6: canonical readings, loops, comprehensions. -/
namespace VL
open PySem PySem.Spec PyProof.Rows L2

/-! ### canonical readings -/
def cE (K : PySem.W.Frag) (f : FE) : TE := fun σ H Q => ∃ S G t S', StRel K G H σ S ∧ f S = some (t, S') ∧ ∀ v G' H', Post K σ S G H v t S' G' H' → Q v H'
def cT (K : PySem.W.Frag) (f : FT) : TT := fun σ H Q => ∃ S G b S', StRel K G H σ S ∧ f S = some (b, S') ∧ ∀ G' H', Step K σ S G H S' G' H' → Q b H'
def cG (kp : Kp) (K : PySem.W.Frag) (f : FG) : TG := fun v σ H Q => ∃ S G d S', StRel K G H σ S ∧ DRel K G v d ∧ f d S = some S' ∧ ∀ σ' G' H', StepS kp K σ S G H σ' S' G' H' → Q σ' H'
theorem VE.pe {X : Cx} {e : Expr} {f : FE} (h : VE X e f) : PE X e (cE X.K f) := by
  obtain ⟨te, p, s⟩ := h.ex
  refine ⟨fun pins s0 σ H Q I hq => ?_⟩
  obtain ⟨S, G, t, S', r, e1, q⟩ := hq
  exact p.run pins s0 σ H Q I (s σ S G H r t S' e1 Q q)
theorem VT.pt {X : Cx} {e : Expr} {f : FT} (h : VT X e f) : PT X e (cT X.K f) := by
  obtain ⟨te, p, s⟩ := h.ex
  refine ⟨fun pins s0 σ H Q I hq => ?_⟩
  obtain ⟨S, G, t, S', r, e1, q⟩ := hq
  exact p.run pins s0 σ H Q I (s σ S G H r t S' e1 Q q)
theorem VG.pg {kp : Kp} {X : Cx} {e : Expr} {f : FG} (h : VG kp X e f) : PG X e (cG kp X.K f) := by
  obtain ⟨te, p, s⟩ := h.ex
  refine ⟨fun pins s0 σ H v u Q I rv hq => ?_⟩
  obtain ⟨S, G, d, S', r, rd, e1, q⟩ := hq
  exact p.run pins s0 σ H v u Q I rv (s σ S G H v d r rd S' e1 Q q)

/-! ### what is walked -/
structure ItOk (K : PySem.W.Frag) (J : It) (ds : List D) (G : Hp) : Prop where
  go : ∀ G1 H1 i, Same G G1 → Same G1 H1 → i < ds.length → J.go i H1
  yl : ∀ G1 H1 i x H2, Same G G1 → Same G1 H1 → J.yld i H1 x H2 → ∀ d, ds[i]? = some d → ∃ G2, Ext (fun _ => False) G1 H1 G2 H2 ∧ Same G2 H2 ∧ DRel K G2 x d
  st : ∀ G1 H1, Same G G1 → Same G1 H1 → J.stop ds.length H1
abbrev FI := VSt → Option (List D × VSt)
def SimI (K : PySem.W.Frag) (wi : TI) (f : FI) : Prop := ∀ σ S G H, StRel K G H σ S → ∀ ds S', f S = some (ds, S') → ∀ R : It → Hp → Prop, (∀ J G' H', Step K σ S G H S' G' H' → ItOk K J ds G' → R J H') → wi σ H R
structure VI (X : Cx) (tg iter : Expr) (f : FI) : Prop where
  ex : ∃ wi, PI X tg iter wi ∧ SimI X.K wi f
def seqOf : D → Option (List D)
  | .lst ds => some ds
  | .tup ds => some ds
  | .scr ns => some (ns.map .int)
  | _ => none
def fiSeq (f : FE) : FI := fun S => match f S with
  | some (t, S1) => match seqOf t.2 with
    | some ds => some (ds, S1)
    | none => none
  | none => none
def iSeq (K : PySem.W.Frag) (tl : TE) : TI := fun σ H R => tl σ H fun x H1 => (∃ a, x = .ref a ∧ (∃ xs, SqL K H1 a xs) ∧ R (Itl K a) H1) ∨ (∃ a, x = .ref a ∧ (∃ xs, SqT K H1 a xs) ∧ R (Itt K a) H1)
theorem pi_seq {X : Cx} {tg l : Expr} {tl : TE} (hl : PE X l tl) : PI X tg l (iSeq X.K tl) := by
  refine ⟨fun pins s σ H R I h => ?_⟩
  refine thn (hl.run pins s σ H _ I h) fun v s1 ⟨x, H1, I1, r1, q1⟩ => ?_
  rcases q1 with ⟨a, e, ⟨xs, hq⟩, q⟩ | ⟨a, e, ⟨xs, hq⟩, q⟩
  · subst e
    cases r1
    obtain ⟨its, rv, p, hz⟩ := I1.list hq
    refine wpAny_pyIter_list p.isList ?_
    refine ⟨s1.heap.objs.size, [s1.heap.objs.size], _, _, H1, rfl, I1.kept (t' := s1.toks) fun b o e => Heap.get?_push_of_some _ e, turn_list a _, ⟨_, Heap.get?_push_size _ rfl, rfl, rfl⟩, fun b hb => ?_, q⟩
    have e : b = s1.heap.objs.size := by simpa using hb
    subst e
    exact I1.fpOk (Nat.le_refl _) (I1.hok.fresh (Nat.le_refl _))
  · subst e
    cases r1
    obtain ⟨its, rv, p, hz⟩ := I1.tuple hq
    refine wpAny_pyIter_tuple (show s1.heap.IsTuple a its.toArray from p) ?_
    refine ⟨s1.heap.objs.size, [s1.heap.objs.size], _, _, H1, rfl, I1.kept (t' := s1.toks) fun b o e => Heap.get?_push_of_some _ e, turn_tuple a _, ⟨_, Heap.get?_push_size _ rfl, rfl, rfl⟩, fun b hb => ?_, q⟩
    have e : b = s1.heap.objs.size := by simpa using hb
    subst e
    exact I1.fpOk (Nat.le_refl _) (I1.hok.fresh (Nat.le_refl _))
theorem Same.to {A B C : Hp} (a : Same A B) (b : Same B C) : Same A C := fun p o h => b p o (a p o h)
section
variable {K : PySem.W.Frag} {G : Hp}
theorem itOk_lst {a : Addr} {vs : List V} {ds : List D} (h : G a = some (.lst vs)) (r : DRels K G vs ds) : ItOk K (Itl K a) ds G := by
  refine ⟨fun G1 H1 i s1 s2 hi => ?_, fun G1 H1 i x H2 s1 s2 y d hd => ?_, fun G1 H1 s1 s2 => ?_⟩
  · have hq : SqL K H1 a vs := SqL.of (s2 _ _ (s1 _ _ h))
    have hl : i < vs.length := by rw [r.length]; exact hi
    exact ⟨vs, vs[i], hq, List.getElem?_eq_getElem hl⟩
  · have hq : SqL K H1 a vs := SqL.of (s2 _ _ (s1 _ _ h))
    obtain ⟨e, y⟩ := y
    subst e
    obtain ⟨v, h1, h2⟩ := r.get hd
    have := y vs hq
    rw [h1] at this
    cases this
    exact ⟨G1, .refl, s2, h2.mono s1⟩
  · exact ⟨vs, SqL.of (s2 _ _ (s1 _ _ h)), by rw [r.length]; exact Nat.le_refl _⟩
theorem itOk_tup {a : Addr} {vs : List V} {ds : List D} (h : G a = some (.tup vs)) (r : DRels K G vs ds) : ItOk K (Itt K a) ds G := by
  refine ⟨fun G1 H1 i s1 s2 hi => ?_, fun G1 H1 i x H2 s1 s2 y d hd => ?_, fun G1 H1 s1 s2 => ?_⟩
  · have hq : SqT K H1 a vs := SqT.of (s2 _ _ (s1 _ _ h))
    have hl : i < vs.length := by rw [r.length]; exact hi
    exact ⟨vs, vs[i], hq, List.getElem?_eq_getElem hl⟩
  · have hq : SqT K H1 a vs := SqT.of (s2 _ _ (s1 _ _ h))
    obtain ⟨e, y⟩ := y
    subst e
    obtain ⟨v, h1, h2⟩ := r.get hd
    have := y vs hq
    rw [h1] at this
    cases this
    exact ⟨G1, .refl, s2, h2.mono s1⟩
  · exact ⟨vs, SqT.of (s2 _ _ (s1 _ _ h)), by rw [r.length]; exact Nat.le_refl _⟩
theorem itOk_scr {a : Addr} {ns : List Int} (h : SqL K G a (ns.map V.int)) : ItOk K (Itl K a) (ns.map .int) G := by
  refine ⟨fun G1 H1 i s1 s2 hi => ?_, fun G1 H1 i x H2 s1 s2 y d hd => ?_, fun G1 H1 s1 s2 => ?_⟩
  · have hq : SqL K H1 a (ns.map V.int) := s2.seq (s1.seq h)
    have hl : i < (ns.map V.int).length := by simpa using hi
    exact ⟨_, _, hq, List.getElem?_eq_getElem hl⟩
  · have hq : SqL K H1 a (ns.map V.int) := s2.seq (s1.seq h)
    obtain ⟨e, y⟩ := y
    subst e
    have hx := y _ hq
    rw [List.getElem?_map] at hx hd
    cases e1 : ns[i]? with
    | none => rw [e1] at hx; cases hx
    | some n => rw [e1] at hx hd; cases hx; cases hd; exact ⟨G1, .refl, s2, .int n⟩
  · exact ⟨_, s2.seq (s1.seq h), by simp⟩
theorem itOk_range {lo : Int} {n : Nat} : ItOk K (Itr lo n) ((List.range n).map fun i => D.int (lo + (i : Nat))) G := by
  refine ⟨fun G1 H1 i s1 s2 hi => (show i < n from by simpa using hi), fun G1 H1 i x H2 s1 s2 y d hd => ?_, fun G1 H1 s1 s2 => by simp [Itr]⟩
  obtain ⟨e, y⟩ := y
  subst e y
  rw [List.getElem?_map] at hd
  cases e1 : (List.range n)[i]? with
  | none => rw [e1] at hd; cases hd
  | some j =>
    rw [e1] at hd
    cases hd
    have : j = i := by
      obtain ⟨h1, h2⟩ := List.getElem?_eq_some_iff.mp e1
      simpa using h2.symm
    subst this
    exact ⟨G1, .refl, s2, .int _⟩
def enumD (ds : List D) : List D := ds.zipIdx.map fun p => D.tup [.int (p.2 : Nat), p.1]
theorem enumD_get {ds : List D} {i : Nat} {d : D} (h : (enumD ds)[i]? = some d) : ∃ e, ds[i]? = some e ∧ d = .tup [.int (i : Nat), e] := by
  unfold enumD at h
  rw [List.getElem?_map, List.getElem?_zipIdx] at h
  cases e1 : ds[i]? with
  | none => rw [e1] at h; cases h
  | some e => rw [e1] at h; simp at h; exact ⟨e, rfl, h.symm⟩
theorem ext_newTup {G1 H1 : Hp} {Tp : Addr} {o : HO} (s2 : Same G1 H1) (hT : H1 Tp = none) : Ext (fun _ => False) G1 H1 (upd G1 Tp o) (upd H1 Tp o) ∧ Same (upd G1 Tp o) (upd H1 Tp o) := by
  have gT := s2.free hT
  refine ⟨⟨fun a u h _ => ?_, fun a u h => ?_, fun a h => ?_⟩, fun a u h => ?_⟩
  · rw [upd_ne (ne_of_none h hT)]; exact h
  · rw [upd_ne (ne_of_none h gT)]; exact h
  · by_cases e : a = Tp
    · subst e; exact .inr (.inr hT)
    · rw [upd_ne e] at h; exact .inl h
  · by_cases e : a = Tp
    · subst e; rw [upd_same] at h ⊢; exact h
    · rw [upd_ne e] at h ⊢; exact s2 a u h
theorem itOk_enum {a : Addr} {vs : List V} {ds : List D} (h : G a = some (.lst vs)) (r : DRels K G vs ds) : ItOk K (Ite K a) (enumD ds) G := by
  have len : (enumD ds).length = ds.length := by simp [enumD]
  refine ⟨fun G1 H1 i s1 s2 hi => ?_, fun G1 H1 i x H2 s1 s2 y d hd => ?_, fun G1 H1 s1 s2 => ?_⟩
  · have hq : SqL K H1 a vs := SqL.of (s2 _ _ (s1 _ _ h))
    have hl : i < vs.length := by rw [r.length, ← len]; exact hi
    exact ⟨vs, vs[i], hq, List.getElem?_eq_getElem hl⟩
  · have hq : SqL K H1 a vs := SqL.of (s2 _ _ (s1 _ _ h))
    obtain ⟨Tp, z, rfl, hT, rfl, y⟩ := y
    obtain ⟨e, he, rfl⟩ := enumD_get hd
    obtain ⟨v, h1, h2⟩ := r.get he
    have := y vs hq
    rw [h1] at this
    cases this
    obtain ⟨x1, x2⟩ := ext_newTup (o := .tup [.int (i : Nat), z]) s2 hT
    refine ⟨_, x1, x2, .tup upd_same (by rw [sizeLine_eq]; exact (by decide : 2 ≤ 16777216)) (.cons (.int _) (.cons (h2.mono (Same.to s1 (same_upd (s2.free hT)))) .nil))⟩
  · exact ⟨vs, SqL.of (s2 _ _ (s1 _ _ h)), by rw [r.length, len]; exact Nat.le_refl _⟩
def zipD (ds es : List D) : List D := (ds.zip es).map fun p => D.tup [p.1, p.2]
theorem itOk_zip {a b : Addr} {vs ws : List V} {ds es : List D} (h : G a = some (.lst vs)) (r : DRels K G vs ds) (h' : G b = some (.lst ws)) (r' : DRels K G ws es) : ItOk K (Itz K a b) (zipD ds es) G := by
  have len : (zipD ds es).length = min ds.length es.length := by simp [zipD]
  refine ⟨fun G1 H1 i s1 s2 hi => ?_, fun G1 H1 i x H2 s1 s2 y d hd => ?_, fun G1 H1 s1 s2 => ?_⟩
  · have hq : SqL K H1 a vs := SqL.of (s2 _ _ (s1 _ _ h))
    have hq' : SqL K H1 b ws := SqL.of (s2 _ _ (s1 _ _ h'))
    have l1 := r.length
    have l2 := r'.length
    have hl : i < vs.length := by omega
    have hl' : i < ws.length := by omega
    exact ⟨vs, ws, vs[i], ws[i], hq, hq', List.getElem?_eq_getElem hl, List.getElem?_eq_getElem hl'⟩
  · have hq : SqL K H1 a vs := SqL.of (s2 _ _ (s1 _ _ h))
    have hq' : SqL K H1 b ws := SqL.of (s2 _ _ (s1 _ _ h'))
    obtain ⟨Tp, z, z', rfl, hT, rfl, y, y'⟩ := y
    unfold zipD at hd
    rw [List.getElem?_map] at hd
    cases e1 : (ds.zip es)[i]? with
    | none => rw [e1] at hd; cases hd
    | some p =>
      rw [e1] at hd
      cases hd
      obtain ⟨p1, p2⟩ := List.getElem?_zip_eq_some.mp e1
      obtain ⟨v, h1, h2⟩ := r.get p1
      obtain ⟨v', h1', h2'⟩ := r'.get p2
      have t1 := y vs hq
      rw [h1] at t1
      cases t1
      have t2 := y' ws hq'
      rw [h1'] at t2
      cases t2
      obtain ⟨x1, x2⟩ := ext_newTup (o := .tup [z, z']) s2 hT
      have sm := Same.to s1 (same_upd (o := .tup [z, z']) (s2.free hT))
      refine ⟨_, x1, x2, .tup upd_same (by rw [sizeLine_eq]; exact (by decide : 2 ≤ 16777216)) (.cons (h2.mono sm) (.cons (h2'.mono sm) .nil))⟩
  · have l1 := r.length
    have l2 := r'.length
    refine ⟨vs, ws, SqL.of (s2 _ _ (s1 _ _ h)), SqL.of (s2 _ _ (s1 _ _ h')), ?_⟩
    rw [len]
    omega
end
section
variable {X : Cx} {tg l e e2 : Expr}
theorem vi_seq {f : FE} (h : VE X l f) : VI X tg l (fiSeq f) := by
  obtain ⟨te, p, s⟩ := h.ex
  refine ⟨_, pi_seq p, fun σ S G H r ds S' ho R q => ?_⟩
  unfold fiSeq at ho
  split at ho
  · rename_i t S1 e1
    split at ho
    · rename_i ds' e2
      obtain ⟨rfl, rfl⟩ := some_pair ho
      refine s σ S G H r t S1 e1 _ fun v G1 H1 a1 => ?_
      obtain ⟨G2, a2⟩ := a1.frz
      have rd := a2.rel
      obtain ⟨b, d⟩ := t
      unfold seqOf at e2
      simp only at e2
      split at e2
      · cases e2
        cases rd with
        | lst h1 h2 h3 => exact .inl ⟨_, rfl, ⟨_, SqL.of (a2.step.st.gh _ _ h1)⟩, q _ G2 H1 a2.step (itOk_lst h1 h3)⟩
      · cases e2
        cases rd with
        | tup h1 h2 h3 => exact .inr ⟨_, rfl, ⟨_, SqT.of (a2.step.st.gh _ _ h1)⟩, q _ G2 H1 a2.step (itOk_tup h1 h3)⟩
      · cases e2
        cases rd with
        | scr h1 => exact .inl ⟨_, rfl, ⟨_, a2.step.st.gh.seq h1⟩, q _ G2 H1 a2.step (itOk_scr h1)⟩
      · cases e2
    · cases ho
  · cases ho
def okRg (i : Int) : Bool := decide (-(2 ^ 62) ≤ i) && decide (i < 2 ^ 62)
def fiRng1 (f : FO) : FI := fun S => match f S with
  | some (o, S1) => match res S1 o with
    | some (.int n) => if okRg n then some ((List.range n.toNat).map fun i => D.int (0 + (i : Nat)), S1) else none
    | _ => none
  | none => none
def fiRng2 (f g : FO) : FI := fun S => match f S with
  | some (o, S1) => match g S1 with
    | some (o', S2) => match res S2 o, res S2 o' with
      | some (.int a), some (.int b) => if okRg a && okRg b then some ((List.range (b - a).toNat).map fun i => D.int (a + (i : Nat)), S2) else none
      | _, _ => none
    | none => none
  | none => none
theorem vi_range1 {f : FO} {p pos : Pos} (hm : X.mg "range" = none) (h : VO X e f) (hg : Gl X "range" := by rfl) (hs : starEach [e] X.env = [(false, eval e X.env)] := by rfl) : VI X tg (.Call (.Name "range" p) [e] [] pos) (fiRng1 f) := by
  obtain ⟨te, p, s⟩ := h.ex
  refine ⟨_, pi_range1 hg hm (pa_cons p pa_nil (by rw [hs]; rfl)) hs, fun σ S G H r ds S' ho R q => ?_⟩
  unfold fiRng1 at ho
  split at ho
  · rename_i o S1 e1
    split at ho
    · rename_i n e2
      split at ho
      · rename_i hc
        obtain ⟨rfl, rfl⟩ := some_pair ho
        simp only [okRg, Bool.and_eq_true, decide_eq_true_eq] at hc
        refine s σ S G H r o S1 e1 _ fun v G1 H1 a1 => ?_
        exact ⟨n, by rw [(a1.rd e2).int], hc.1, hc.2, q _ G1 H1 a1.step itOk_range⟩
      · cases ho
    · cases ho
  · cases ho
theorem vi_range2 {f g : FO} {p pos : Pos} (hm : X.mg "range" = none) (h : VO X e f) (h' : VO X e2 g) (hg : Gl X "range" := by rfl) (hs : starEach [e, e2] X.env = [(false, eval e X.env), (false, eval e2 X.env)] := by rfl) (hs2 : starEach [e2] X.env = [(false, eval e2 X.env)] := by rfl) :
    VI X tg (.Call (.Name "range" p) [e, e2] [] pos) (fiRng2 f g) := by
  obtain ⟨te, p, s⟩ := h.ex
  obtain ⟨te', p', s'⟩ := h'.ex
  refine ⟨_, pi_range2 hg hm (pa_cons p (pa_cons p' pa_nil (by rw [hs2]; rfl)) (by rw [hs, hs2])) hs hs2, fun σ S G H r ds S' ho R q => ?_⟩
  unfold fiRng2 at ho
  split at ho
  · rename_i o S1 e1
    split at ho
    · rename_i o' S2 e2
      split at ho
      · rename_i a b e3 e4
        split at ho
        · rename_i hc
          obtain ⟨rfl, rfl⟩ := some_pair ho
          simp only [okRg, Bool.and_eq_true, decide_eq_true_eq] at hc
          refine s σ S G H r o S1 e1 _ fun v G1 H1 a1 => ?_
          refine s' σ S1 G1 H1 a1.step.st o' S2 e2 _ fun v2 G2 H2 a2 => ?_
          have a3 := a1.over a2.step
          exact ⟨a, b, by rw [(a3.rd e3).int, (a2.rd e4).int], ⟨hc.1.1, hc.1.2, hc.2.1, hc.2.2⟩, q _ G2 H2 a3.step itOk_range⟩
        · cases ho
      · cases ho
    · cases ho
  · cases ho
def fiEnum (f : FE) : FI := fun S => match f S with
  | some ((_, .lst ds), S1) => some (enumD ds, S1)
  | _ => none
def fiZip (f g : FE) : FI := fun S => match f S with
  | some ((_, .lst ds), S1) => match g S1 with
    | some ((_, .lst es), S2) => some (zipD ds es, S2)
    | _ => none
  | _ => none
theorem vi_enum {f : FE} {p pos tpos : Pos} {elts : List Expr} {kk : Nat} (hm : X.mg "enumerate" = none) (h : VE X e f) (hg : Gl X "enumerate" := by rfl) (hs : starEach [e] X.env = [(false, eval e X.env)] := by rfl) :
    VI X (.Tuple elts kk tpos) (.Call (.Name "enumerate" p) [e] [] pos) (fiEnum f) := by
  obtain ⟨te, p, s⟩ := h.ex
  refine ⟨_, pi_enum hg hm (pa_cons p pa_nil (by rw [hs]; rfl)) hs, fun σ S G H r ds S' ho R q => ?_⟩
  unfold fiEnum at ho
  split at ho
  · rename_i b ds' S1 e1
    obtain ⟨rfl, rfl⟩ := some_pair ho
    refine s σ S G H r _ S1 e1 _ fun v G1 H1 a1 => ?_
    obtain ⟨G2, a2⟩ := a1.frz
    cases a2.rel with
    | lst h1 h2 h3 => exact ⟨_, _, rfl, SqL.of (a2.step.st.gh _ _ h1), q _ G2 H1 a2.step (itOk_enum h1 h3)⟩
  · cases ho
theorem vi_zip {f g : FE} {p pos tpos : Pos} {elts : List Expr} {kk : Nat} (hm : X.mg "zip" = none) (h : VE X e f) (h' : VE X e2 g) (hg : Gl X "zip" := by rfl) (hs : starEach [e, e2] X.env = (false, eval e X.env) :: starEach [e2] X.env := by rfl) (hs2 : starEach [e2] X.env = [(false, eval e2 X.env)] := by rfl)
    (hpl : (backTo pos (starEach [e2] X.env)).any (·.1) = false := by rfl) : VI X (.Tuple elts kk tpos) (.Call (.Name "zip" p) [e, e2] [] pos) (fiZip f g) := by
  obtain ⟨te, p, s⟩ := h.ex
  obtain ⟨te', p', s'⟩ := h'.ex
  refine ⟨_, pi_zip hg hm (pa_cons p (pa_cons p' pa_nil (by rw [hs2]; rfl)) hs) hs hpl, fun σ S G H r ds S' ho R q => ?_⟩
  unfold fiZip at ho
  split at ho
  · rename_i b ds1 S1 e1
    split at ho
    · rename_i b2 ds2 S2 e2
      obtain ⟨rfl, rfl⟩ := some_pair ho
      refine s σ S G H r _ S1 e1 _ fun v G1 H1 a1 => ?_
      obtain ⟨G1', a1'⟩ := a1.frz
      refine s' σ S1 G1' H1 a1'.step.st _ S2 e2 _ fun v2 G2 H2 a2 => ?_
      obtain ⟨G2', a2'⟩ := a2.frz
      have r1 : DRel X.K G2' v (.lst ds1) := DRel.mono a2'.step.ext.gg a1'.rel
      have r2 : DRel X.K G2' v2 (.lst ds2) := a2'.rel
      cases r1 with
      | lst h1 h2 h3 =>
        cases r2 with
        | lst k1 k2 k3 => exact ⟨_, _, _, _, rfl, SqL.of (a2'.step.st.gh _ _ h1), SqL.of (a2'.step.st.gh _ _ k1), q _ G2' H2 (a1'.step.trans a2'.step) (itOk_zip h1 h3 k1 k3)⟩
    · cases ho
  · cases ho
end

/-! ### for -/
def fLoop (g : FG) (body : FS) : List D → VSt → Option Out
  | [], S => some (.nx S)
  | d :: ds, S => match g d S with
    | none => none
    | some S1 => match body S1 with
      | some (.nx S2) => fLoop g body ds S2
      | some (.cnt S2) => fLoop g body ds S2
      | some (.brk S2) => some (.nx S2)
      | some (.ret t S2) => some (.ret t S2)
      | none => none
def fFor (src : FI) (g : FG) (body : FS) : FS := fun S => match src S with
  | some (ds, S1) => fLoop g body ds S1
  | none => none
theorem loop_ok {kp : Kp} {K : PySem.W.Frag} {g : TG} {gf : FG} {tb : TS} {bf : FS} (sg : SimG kp K g gf) (sb : SimS kp K tb bf) {J : It} {ds : List D} {G0 : Hp} (it : ItOk K J ds G0) {σ0 : St} {S0 : VSt} {H0 : Hp} (r : StRel K G0 H0 σ0 S0) {o : Out} (h : fLoop gf bf ds S0 = some o) {D : Ends} (q : OutOk kp K σ0 S0 G0 H0 D o) :
    ∃ W : Nat → Nat → St → Hp → Prop, (∃ m, W 0 m σ0 H0) ∧ ∀ i m σ H, W i m σ H →
      (J.stop i H ∧ D.nx σ H) ∨ (J.go i H ∧ ∃ N : St → Hp → Prop, (∀ σ' H', N σ' H' → ∃ m', m' < m ∧ W (i + 1) m' σ' H') ∧ ∀ x H', J.yld i H x H' → g x σ H' fun σ2 H2 => tb { D with nx := N, ct := N, bk := D.nx } σ2 H2) := by
  refine ⟨fun i m σ H => m = ds.length - i ∧ i ≤ ds.length ∧ ∃ G S, StepS kp K σ0 S0 G0 H0 σ S G H ∧ fLoop gf bf (ds.drop i) S = some o, ⟨ds.length, by simp, Nat.zero_le _, G0, S0, .refl r, by simpa using h⟩, ?_⟩
  rintro i m σ H ⟨rfl, hi, G, S, a, e⟩
  have s1 : Same G0 G := a.ext.gg
  have s2 : Same G H := a.st.gh
  by_cases hlt : i < ds.length
  · refine .inr ⟨it.go G H i s1 s2 hlt, fun σ' H' => ∃ G' S', StepS kp K σ0 S0 G0 H0 σ' S' G' H' ∧ fLoop gf bf (ds.drop (i + 1)) S' = some o, fun σ' H' ⟨G', S', a', e'⟩ => ⟨ds.length - (i + 1), by omega, rfl, hlt, G', S', a', e'⟩, fun x H' y => ?_⟩
    have hd : ds[i]? = some ds[i] := List.getElem?_eq_getElem hlt
    obtain ⟨G2, x1, x2, x3⟩ := it.yl G H i x H' s1 s2 y ds[i] hd
    rw [List.drop_eq_getElem_cons hlt] at e
    have st2 : StRel K G2 H' σ S := a.st.over x1 x2
    have a2 : StepS kp K σ0 S0 G0 H0 σ S G2 H' := a.trans ⟨x1.imp fun _ z => z.elim, st2, fun p h => .inl h, fun _ _ => rfl, rfl, fun _ d _ h => ⟨d, h⟩⟩
    unfold fLoop at e
    split at e
    · cases e
    · rename_i S3 e3
      refine sg σ S G2 H' x ds[i] st2 x3 S3 e3 _ fun σ3 G3 H3 a3 => ?_
      have a4 := a2.trans a3
      split at e
      · rename_i S4 e4
        exact sb σ3 S3 G3 H3 a3.st _ e4 _ fun σ5 G5 H5 a5 => ⟨G5, S4, a4.trans a5, e⟩
      · rename_i S4 e4
        exact sb σ3 S3 G3 H3 a3.st _ e4 _ fun σ5 G5 H5 a5 => ⟨G5, S4, a4.trans a5, e⟩
      · rename_i S4 e4
        cases e
        exact sb σ3 S3 G3 H3 a3.st _ e4 _ fun σ5 G5 H5 a5 => q σ5 G5 H5 (a4.trans a5)
      · rename_i t S4 e4
        cases e
        exact sb σ3 S3 G3 H3 a3.st _ e4 _ fun v σ5 G5 H5 a5 => q v σ5 G5 H5 (a4.post a5)
      · cases e
  · have e2 : i = ds.length := by omega
    subst e2
    rw [List.drop_length] at e
    cases e
    exact .inl ⟨it.st G H s1 s2, q σ G H a⟩
theorem vs_for {kp : Kp} {X : Cx} {tg iter : Expr} {body : List Stmt} {src : FI} {g : FG} {bf : FS} {pos : Pos} (hp : PassesOwn (model X.prog X.w) X.A X.env X.xe) (hc : X.calm = true) (hi : VI X tg iter src) (hg : VG kp X tg g) (hb : VSs kp X body bf)
    (hs : ∀ x, foldedSetIterable iter X.env x = pure x := by intro _; rfl) : VS kp X (.For tg iter body [] pos) (fFor src g bf) := by
  obtain ⟨wi, pi, si⟩ := hi.ex
  obtain ⟨tgt, pg, sg⟩ := hg.ex
  obtain ⟨tb, pb, sb⟩ := hb.ex
  refine ⟨_, ps_for hp hc pi pg pb hs, fun σ S G H r o h D q => ?_⟩
  unfold fFor at h
  split at h
  · rename_i ds S1 e1
    refine si σ S G H r ds S1 e1 _ fun J G1 H1 a1 it => ?_
    exact loop_ok sg sb it a1.st h (q.after a1.toS)
  · cases h
/-! ### while -/
def fWhile (c : FT) (body : FS) : Nat → FS
  | 0, _ => none
  | n + 1, S => match c S with
    | some (false, S1) => some (.nx S1)
    | some (true, S1) => match body S1 with
      | some (.nx S2) => fWhile c body n S2
      | some (.cnt S2) => fWhile c body n S2
      | some (.brk S2) => some (.nx S2)
      | some (.ret t S2) => some (.ret t S2)
      | none => none
    | none => none
theorem vs_while (n : Nat) {kp : Kp} {X : Cx} {c : Expr} {body : List Stmt} {cf : FT} {bf : FS} {pos : Pos} (hp : PassesOwn (model X.prog X.w) X.A X.env X.xe) (hc : VT X c cf) (hb : VSs kp X body bf) : VS kp X (.While c body [] pos) (fWhile cf bf n) := by
  obtain ⟨tc, pc, sc⟩ := hc.ex
  obtain ⟨tb, pb, sb⟩ := hb.ex
  refine ⟨_, ps_while hp pc pb, fun σ S G H r o h D q => ?_⟩
  refine ⟨fun m σ' H' => ∃ G' S', StepS kp X.K σ S G H σ' S' G' H' ∧ fWhile cf bf m S' = some o, ⟨n, G, S, .refl r, h⟩, ?_⟩
  rintro m σ1 H1 ⟨G1, S1, a, e⟩
  cases m with
  | zero => cases e
  | succ m =>
    unfold fWhile at e
    split at e
    · rename_i S2 e2
      cases e
      exact sc σ1 S1 G1 H1 a.st _ _ e2 _ fun G2 H2 a2 => iteF (q σ1 G2 H2 (a.trans a2.toS))
    · rename_i S2 e2
      refine sc σ1 S1 G1 H1 a.st _ _ e2 _ fun G2 H2 a2 => iteT ?_
      have a3 := a.trans (a2.toS (kp := kp))
      refine ⟨fun σ' H' => ∃ G' S', StepS kp X.K σ S G H σ' S' G' H' ∧ fWhile cf bf m S' = some o, fun σ' H' w => ⟨m, Nat.lt_succ_self _, w⟩, ?_⟩
      split at e
      · rename_i S4 e4
        exact sb σ1 S2 G2 H2 a2.st _ e4 _ fun σ5 G5 H5 a5 => ⟨G5, S4, a3.trans a5, e⟩
      · rename_i S4 e4
        exact sb σ1 S2 G2 H2 a2.st _ e4 _ fun σ5 G5 H5 a5 => ⟨G5, S4, a3.trans a5, e⟩
      · rename_i S4 e4
        cases e
        exact sb σ1 S2 G2 H2 a2.st _ e4 _ fun σ5 G5 H5 a5 => q σ5 G5 H5 (a3.trans a5)
      · rename_i t S4 e4
        cases e
        exact sb σ1 S2 G2 H2 a2.st _ e4 _ fun v σ5 G5 H5 a5 => q v σ5 G5 H5 (a3.post a5)
      · cases e
    · cases e
end VL

set_option Elab.async false
set_option linter.all false
set_option maxRecDepth 100000
set_option maxHeartbeats 1000000
/-! VL7: comprehensions, changes of a slot's list, calls of defs. -/
namespace VL
open PySem PySem.Spec PyProof.Rows L2

theorem simE_c {K : PySem.W.Frag} {f : FE} : SimE K (cE K f) f := fun σ S G H r t S' h Q q => ⟨S, G, t, S', r, h, q⟩
theorem simT_c {K : PySem.W.Frag} {f : FT} : SimT K (cT K f) f := fun σ S G H r t S' h Q q => ⟨S, G, t, S', r, h, q⟩
theorem simG_c {kp : Kp} {K : PySem.W.Frag} {f : FG} : SimG kp K (cG kp K f) f := fun σ S G H v d r rd S' h Q q => ⟨S, G, d, S', r, rd, h, q⟩
/-! ### comprehensions -/
def wipeV (S : VSt) : List Nat → VSt
  | [] => S
  | v :: vs => (wipeV S vs).set v none
def fYes : FT := fun S => some (true, S)
def fCompL (vs : List Nat) (gf : FG) (tt : FT) (f : FE) : List D → VSt → Option (List D × VSt)
  | [], S => some ([], S)
  | d :: ds, S => match gf d (wipeV S vs) with
    | none => none
    | some S1 => match tt S1 with
      | some (true, S2) => match f S2 with
        | some (t, S3) => match fCompL vs gf tt f ds (wipeV S3 vs) with
          | some (r, S4) => some (t.2 :: r, S4)
          | none => none
        | none => none
      | some (false, S2) => fCompL vs gf tt f ds (wipeV S2 vs)
      | none => none
def fComp (src : FI) (vs : List Nat) (gf : FG) (tt : FT) (f : FE) : FE := fun S => match src S with
  | some (ds, S1) => if ds.length ≤ SL then match fCompL vs gf tt f ds S1 with
    | some (r, S2) => some ((true, .lst r), S2)
    | none => none
    else none
  | none => none
def VTs (X : Cx) (ifs : List Expr) (f : FT) : Prop := PTs X ifs (cT X.K f)
theorem vts_nil {X : Cx} : VTs X [] fYes := ⟨fun pins s σ H Q I h => by
  obtain ⟨S, G, b, S', r, e, q⟩ := h
  cases e
  exact pts_nil.run pins s σ H Q I (q G H (.refl r))⟩
theorem vts_one {X : Cx} {c : Expr} {f : FT} (h : VT X c f) : VTs X [c] f := pts_one h.pt
section
variable {K : PySem.W.Frag} {σ σ2 : St} {S S1 S2 S3 : VSt} {G H G1 H1 G2 H2 G3 H3 : Hp} {vs : List Nat}
theorem wipeV_len (S : VSt) : ∀ vs : List Nat, (wipeV S vs).length = S.length
  | [] => rfl
  | v :: vs => by unfold wipeV; rw [List.length_set, wipeV_len S vs]
theorem wipeV_some {i : Nat} {t : T} : ∀ {vs : List Nat}, (wipeV S vs)[i]? = some (some t) → S[i]? = some (some t) ∧ i ∉ vs
  | [], h => ⟨h, by simp⟩
  | v :: vs, h => by
    unfold wipeV at h
    rcases getElem?_set' h with ⟨_, z⟩ | ⟨n, z⟩
    · cases z
    · obtain ⟨h1, h2⟩ := wipeV_some z
      exact ⟨h1, by simp only [List.mem_cons, not_or]; exact ⟨fun e => n e.symm, h2⟩⟩
theorem StRel.wipe (r : StRel K G H σ S) (vs : List Nat) : StRel K G H (wipe σ vs) (wipeV S vs) := by
  refine ⟨by rw [wipeV_len, wipe_length]; exact r.len, r.gh, fun i t h => ?_, fun i j d e v h1 h2 k1 k2 => ?_⟩
  · obtain ⟨h1, h2⟩ := wipeV_some h
    obtain ⟨v, e1, e2⟩ := r.sl i t h1
    exact ⟨v, by rw [wipe_out h2]; exact e1, e2⟩
  · obtain ⟨x1, y1⟩ := wipeV_some h1
    obtain ⟨x2, y2⟩ := wipeV_some h2
    rw [wipe_out y1] at k1
    rw [wipe_out y2] at k2
    exact r.inj i j d e v x1 x2 k1 k2
theorem Own.wipe {p : Addr} (o : Own (wipe σ vs) (wipeV S vs) p) : Own σ S p := by
  obtain ⟨i, d, h1, h2⟩ := o
  obtain ⟨x1, y1⟩ := wipeV_some h1
  rw [wipe_out y1] at h2
  exact ⟨i, d, x1, h2⟩
abbrev kpB (vs : List Nat) : Kp := fun i => !vs.contains i
theorem wipe_same (h : ∀ i, kpB vs i = true → σ2[i]? = (wipe σ vs)[i]?) (hl : σ2.length = σ.length) : wipe σ2 vs = wipe σ vs := by
  apply List.ext_getElem?
  intro i
  by_cases hi : i ∈ vs
  · have out : ∀ {τ : St}, ∀ {ws : List Nat}, i ∈ ws → (L2.wipe τ ws)[i]? = if i < τ.length then some none else none := fun {τ} {ws} => by
      induction ws with
      | nil => intro h; simp at h
      | cons w ws ih =>
        intro h
        unfold L2.wipe
        by_cases e : w = i
        · subst e
          by_cases hl : w < τ.length
          · rw [if_pos hl, List.getElem?_set_self (by rw [wipe_length]; exact hl)]
          · rw [if_neg hl, List.getElem?_eq_none (by rw [List.length_set, wipe_length]; omega)]
        · rw [List.getElem?_set_ne e]
          rcases List.mem_cons.mp h with z | z
          · exact absurd z.symm e
          · exact ih z
    rw [out hi, out hi, hl]
  · have := h i (by simpa [kpB] using hi)
    rw [wipe_out hi]
    exact this
theorem Step.held {D : Addr} {o : HO} (a : Step K σ S G H S1 G1 H1) (h : H D = some o) (n : ¬ Own σ S D) (g : G D = none) : H1 D = some o ∧ ¬ Own σ S1 D ∧ G1 D = none := by
  refine ⟨a.ext.same D o h n, fun z => n (a.own D z), ?_⟩
  cases q : G1 D with
  | none => rfl
  | some u =>
    rcases a.ext.gn D (by rw [q]; exact fun z => nomatch z) with z | z | z
    · exact absurd g z
    · exact absurd z n
    · rw [h] at z; cases z
theorem StepS.held {kp : Kp} {D : Addr} {o : HO} (a : StepS kp K σ S G H σ2 S1 G1 H1) (h : H D = some o) (n : ¬ Own σ S D) (g : G D = none) : H1 D = some o ∧ ¬ Own σ2 S1 D ∧ G1 D = none := by
  refine ⟨a.ext.same D o h n, fun z => ?_, ?_⟩
  · rcases a.own D z with z | z
    · exact n z
    · rw [h] at z; cases z
  · cases q : G1 D with
    | none => rfl
    | some u =>
      rcases a.ext.gn D (by rw [q]; exact fun z => nomatch z) with z | z | z
      · exact absurd g z
      · exact absurd z n
      · rw [h] at z; cases z
/-- a block's turn, seen from outside -/
theorem Step.turn (a : Step K σ S G H S1 G1 H1) (x : Ext (fun _ => False) G1 H1 G2 H2) (b : StepS (kpB vs) K (wipe σ vs) (wipeV S1 vs) G2 H2 σ2 S3 G3 H3) : Step K σ S G H (wipeV S3 vs) G3 H3 := by
  have own1 : ∀ p, Own (wipe σ vs) (wipeV S1 vs) p → Own σ S p := fun p z => a.own p z.wipe
  have sl : ∀ i, i ∉ vs → σ2[i]? = σ[i]? := fun i hi => by
    have := b.keep i (by simpa [kpB] using hi)
    rw [wipe_out hi] at this
    exact this
  have own3 : ∀ p, Own σ (wipeV S3 vs) p → Own σ2 S3 p := fun p z => by
    obtain ⟨i, d, h1, h2⟩ := z
    obtain ⟨x1, y1⟩ := wipeV_some h1
    exact ⟨i, d, x1, by rw [sl i y1]; exact h2⟩
  refine ⟨(a.ext.trans (x.imp fun _ z => z.elim) fun _ z => .inl z).trans b.ext fun p z => .inl (own1 p z), ⟨?_, b.st.gh, fun i t h => ?_, fun i j d e v h1 h2 k1 k2 => ?_⟩, fun i d z => ?_⟩
  · rw [wipeV_len, b.st.len, b.len, wipe_length]
  · obtain ⟨x1, y1⟩ := wipeV_some h
    obtain ⟨v, e1, e2⟩ := b.st.sl i t x1
    exact ⟨v, by rw [← sl i y1]; exact e1, e2⟩
  · obtain ⟨x1, y1⟩ := wipeV_some h1
    obtain ⟨x2, y2⟩ := wipeV_some h2
    exact b.st.inj i j d e v x1 x2 (by rw [sl i y1]; exact k1) (by rw [sl j y2]; exact k2)
  · obtain ⟨x1, y1⟩ := wipeV_some z
    obtain ⟨e, h2⟩ := b.kow i d (by simpa [kpB] using y1) x1
    exact a.sow i e (wipeV_some h2).1
end
/-- a list that no slot owns is changed -/
theorem Step.grow {K : PySem.W.Frag} {σ : St} {S S1 : VSt} {G H G1 H1 : Hp} {D : Addr} {o : HO} (a : Step K σ S G H S1 G1 H1) (n : ¬ Own σ S1 D) (g : G1 D = none) (hD : H D = none) : Step K σ S G H S1 G1 (upd H1 D o) := by
  refine ⟨⟨fun q u e no => ?_, a.ext.gg, a.ext.gn⟩, ⟨a.st.len, fun q u e => ?_, fun i t h => ?_, a.st.inj⟩, a.sow⟩
  · rw [upd_ne (ne_of_none e hD)]; exact a.ext.same q u e no
  · rw [upd_ne (ne_of_none e g)]; exact a.st.gh q u e
  · obtain ⟨v, h1, h2⟩ := a.st.sl i t h
    refine ⟨v, h1, ?_⟩
    obtain ⟨b, d⟩ := t
    cases b with
    | false => exact h2
    | true =>
      obtain ⟨q, rfl, g1, c⟩ := h2
      have ne : q ≠ D := fun e => by subst e; exact n ⟨i, d, h, h1⟩
      exact ⟨q, rfl, g1, c.mono (fun _ _ z => z) fun u z => by rw [upd_ne ne]; exact z⟩
section
variable {X : Cx} {tg iter elt : Expr} {ifs : List Expr} {scope : Scope} {own : List (Str × Nat)} {pos : Pos} {src : FI} {gf : FG} {tt : FT} {f : FE}
theorem comp_sim {K : PySem.W.Frag} {wi : TI} (si : SimI K wi src) (vs : List Nat) : SimE K (tLc wi (cG (kpB vs) K gf) (cT K tt) (cE K f) vs) (fComp src vs gf tt f) := by
  intro σ S G H r t S' ho Q q
  unfold fComp at ho
  split at ho
  · rename_i ds S1 e1
    split at ho
    · rename_i hsz
      split at ho
      · rename_i full S2 e2
        obtain ⟨rfl, rfl⟩ := some_pair ho
        refine si σ S G H r ds S1 e1 _ fun J G1 H1 a1 it Dl hD => ?_
        have g1 : G1 Dl = none := a1.st.gh.free hD
        have n1 : ¬ Own σ S1 Dl := fun z => by
          obtain ⟨u, hu⟩ := (a1.st.own z).2
          rw [hD] at hu; cases hu
        have s0 : Step K σ S1 G1 H1 S1 G1 (upd H1 Dl (.lst [])) := (Step.refl a1.st).grow n1 g1 hD
        refine ⟨fun i m H' => m = ds.length - i ∧ i ≤ ds.length ∧ ∃ G' Si acc dn rest, Step K σ S1 G1 H1 Si G' H' ∧ H' Dl = some (.lst acc) ∧ acc.length ≤ i ∧ DRels K G' acc dn ∧ G' Dl = none ∧ ¬ Own σ Si Dl ∧ fCompL vs gf tt f (ds.drop i) Si = some (rest, S2) ∧ full = dn ++ rest,
          ⟨ds.length, by simp, Nat.zero_le _, G1, S1, [], [], full, s0, upd_same, Nat.le_refl _, .nil, g1, n1, by simpa using e2, rfl⟩, ?_⟩
        rintro i m H2 ⟨rfl, hi, G2, Si, acc, dn, rest, a2, hl, hacc, racc, g2, n2, ec, ef⟩
        have ss1 : Same G1 G2 := a2.ext.gg
        have ss2 : Same G2 H2 := a2.st.gh
        by_cases hlt : i < ds.length
        · refine .inr ⟨it.go G2 H2 i ss1 ss2 hlt, fun H' => ∃ G' Si acc dn rest, Step K σ S1 G1 H1 Si G' H' ∧ H' Dl = some (.lst acc) ∧ acc.length ≤ i + 1 ∧ DRels K G' acc dn ∧ G' Dl = none ∧ ¬ Own σ Si Dl ∧ fCompL vs gf tt f (ds.drop (i + 1)) Si = some (rest, S2) ∧ full = dn ++ rest,
            fun H' w => ⟨ds.length - (i + 1), by omega, rfl, hlt, w⟩, fun x H3 y => ?_⟩
          have hd : ds[i]? = some ds[i] := List.getElem?_eq_getElem hlt
          obtain ⟨G3, x1, x2, x3⟩ := it.yl G2 H2 i x H3 ss1 ss2 y ds[i] hd
          rw [List.drop_eq_getElem_cons hlt] at ec
          have st3 : StRel K G3 H3 σ Si := a2.st.over x1 x2
          have a3 : Step K σ S1 G1 H1 Si G3 H3 := a2.trans ⟨x1.imp fun _ z => z.elim, st3, fun _ d h => ⟨d, h⟩⟩
          have s3 : Step K σ Si G2 H2 Si G3 H3 := ⟨x1.imp fun _ z => z.elim, st3, fun _ d h => ⟨d, h⟩⟩
          obtain ⟨hl3, n3, g3⟩ := s3.held hl n2 g2
          have stw := st3.wipe vs
          have nw : ¬ Own (wipe σ vs) (wipeV Si vs) Dl := fun z => n3 z.wipe
          unfold fCompL at ec
          split at ec
          · cases ec
          · rename_i S4 e4
            refine simG_c (wipe σ vs) (wipeV Si vs) G3 H3 x ds[i] stw x3 S4 e4 _ fun σ4 G4 H4 a4 => ?_
            refine ⟨wipe_same a4.keep (by rw [a4.len, wipe_length]), ?_⟩
            obtain ⟨hl4, n4, g4⟩ := a4.held hl3 nw g3
            split at ec
            · rename_i S5 e5
              refine simT_c σ4 S4 G4 H4 a4.st true S5 e5 _ fun G5 H5 a5 => iteT ?_
              obtain ⟨hl5, n5, g5⟩ := a5.held hl4 n4 g4
              split at ec
              · rename_i tv S6 e6
                split at ec
                · rename_i rest' S7 e7
                  obtain ⟨rfl, rfl⟩ := some_pair ec
                  refine simE_c σ4 S5 G5 H5 a5.st tv S6 e6 _ fun v G6 H6 a6 => ?_
                  obtain ⟨G6', a6'⟩ := a6.frz
                  obtain ⟨hl6, n6, g6⟩ := a6'.step.held hl5 n5 g5
                  have b := a4.trans ((a5.trans a6'.step).toS (kp := kpB vs))
                  have all := a2.turn x1 b
                  have n7 : ¬ Own σ (wipeV S6 vs) Dl := fun z => by
                    have := (s3.trans (Step.turn (Step.refl st3) .refl b)).own Dl z
                    exact n2 this
                  refine ⟨acc, hl6, Nat.lt_of_le_of_lt hacc (Nat.lt_of_lt_of_le hlt (SL_le hsz)), G6', wipeV S6 vs, acc ++ [v], dn ++ [tv.2], rest', all.grow n7 g6 hD, upd_same, by rw [List.length_append]; exact Nat.succ_le_succ hacc, (racc.mono (Same.to x1.gg b.ext.gg)).append (.cons a6'.rel .nil), g6, n7, e7, by rw [ef, List.append_assoc]; rfl⟩
                · cases ec
              · cases ec
            · rename_i S5 e5
              refine simT_c σ4 S4 G4 H4 a4.st false S5 e5 _ fun G5 H5 a5 => iteF ?_
              obtain ⟨hl5, n5, g5⟩ := a5.held hl4 n4 g4
              have b := a4.trans (a5.toS (kp := kpB vs))
              have all := a2.turn x1 b
              have n7 : ¬ Own σ (wipeV S5 vs) Dl := fun z => n2 ((s3.trans (Step.turn (Step.refl st3) .refl b)).own Dl z)
              exact ⟨G5, wipeV S5 vs, acc, dn, rest, all, hl5, Nat.le_succ_of_le hacc, racc.mono (Same.to x1.gg b.ext.gg), g5, n7, ec, ef⟩
            · cases ec
        · have e2 : i = ds.length := by omega
          subst e2
          rw [List.drop_length] at ec
          obtain ⟨rfl, rfl⟩ := some_pair ec
          rw [List.append_nil] at ef
          subst ef
          refine .inl ⟨it.st G2 H2 ss1 ss2, q _ G2 H2 ⟨a1.trans a2, ⟨Dl, rfl, g2, acc, hl, Nat.le_trans hacc (SL_le hsz), racc⟩, fun _ p e => ?_⟩⟩
          cases e
          exact ⟨n2, a1.new (.inr hD)⟩
      · cases ho
    · cases ho
  · cases ho
theorem ve_comp (own : List (Str × Nat)) (hc : X.calm = true) (hN : X.N.Nodup) (hi : VI X tg iter src) (ok : BlkOk X.N X.env.scope scope own)
    (hg : ∀ (s : Shared) (H : Hp) (C : Addr) (cl : List (Str × Addr)) (fp : List Addr), VG (kpB (own.map (·.2))) (X.blk s H scope (compEnvC scope cl C X.env) fp) tg gf) (ht : ∀ (s : Shared) (H : Hp) (C : Addr) (cl : List (Str × Addr)) (fp : List Addr), VTs (X.blk s H scope (compEnvC scope cl C X.env) fp) ifs tt)
    (he : ∀ (s : Shared) (H : Hp) (C : Addr) (cl : List (Str × Addr)) (fp : List Addr), VE (X.blk s H scope (compEnvC scope cl C X.env) fp) elt f) (hs : ∀ x, foldedSetIterable iter X.env x = pure x := by intro _; rfl) :
    VE X (.ListComp elt [⟨tg, iter, ifs, 0⟩] scope pos) (fComp src (own.map (·.2)) gf tt f) := by
  obtain ⟨wi, p, si⟩ := hi.ex
  exact ⟨_, pe_lc (g := cG (kpB (own.map (·.2))) X.K gf) (tt := cT X.K tt) (te := cE X.K f) hc hN p ok (fun s H C cl fp => (hg s H C cl fp).pg) ht (fun s H C cl fp => (he s H C cl fp).pe) hs, comp_sim si _⟩
theorem vs_setComp (i : Nat) {kp : Kp} {y : Str} {py spos : Pos} (own : List (Str × Nat)) (hc : X.calm = true) (hN : X.N.Nodup) (hi : VI X tg iter src) (ok : BlkOk X.N X.env.scope scope own)
    (hg : ∀ (s : Shared) (H : Hp) (C : Addr) (cl : List (Str × Addr)) (fp : List Addr), VG (kpB (own.map (·.2))) (X.blk s H scope (compEnvC scope cl C X.env) fp) tg gf) (ht : ∀ (s : Shared) (H : Hp) (C : Addr) (cl : List (Str × Addr)) (fp : List Addr), VTs (X.blk s H scope (compEnvC scope cl C X.env) fp) ifs tt)
    (he : ∀ (s : Shared) (H : Hp) (C : Addr) (cl : List (Str × Addr)) (fp : List Addr), VE (X.blk s H scope (compEnvC scope cl C X.env) fp) elt f) (hk : kp i = false := by rfl) (hy : X.N[i]? = some y := by rfl) (hyl : X.env.scope.names.lookup y = some .local := by rfl)
    (hsw : swapsWith (.ListComp elt [⟨tg, iter, ifs, 0⟩] scope pos) (some (.Name y py)) spos.line X.env = pure true := by exact sw_true rfl rfl rfl (by decide +kernel)) (hs : ∀ x, foldedSetIterable iter X.env x = pure x := by intro _; rfl) :
    VS kp X (.Assign [.Name y py] (.ListComp elt [⟨tg, iter, ifs, 0⟩] scope pos) spos) (fSet i (fComp src (own.map (·.2)) gf tt f)) := by
  obtain ⟨wi, p, si⟩ := hi.ex
  refine ⟨_, ps_setLc (i := i) (g := cG (kpB (own.map (·.2))) X.K gf) (tt := cT X.K tt) (te := cE X.K f) hc hN hy hyl hsw p ok (fun s H C cl fp => (hg s H C cl fp).pg) ht (fun s H C cl fp => (he s H C cl fp).pe) hs, fun σ S G H r o h D q => ?_⟩
  unfold fSet at h
  split at h
  · rename_i t S1 e1
    split at h
    · rename_i hl
      cases h
      refine comp_sim si _ σ S G H r t S1 e1 _ fun v G1 H1 a1 => ?_
      exact q _ G1 H1 (a1.store (by rw [← a1.step.st.len]; exact hl) hk)
    · cases h
  · cases h
end
end VL

set_option Elab.async false
set_option linter.all false
set_option maxRecDepth 100000
set_option maxHeartbeats 1000000
/-! VL8: changes of a slot's list; calls of defs; a def by its body. -/
namespace VL
open PySem PySem.Spec PyProof.Rows L2

/-! ### x.m(..), x[i] = v, x op= v -/
def SimMut (K : PySem.W.Frag) (r : V → List V → Hp → VK → Prop) (gm : List D → List D → Option (List D × D)) : Prop := ∀ G H p xs ds vs es, Same G H → H p = some (.lst xs) → xs.length ≤ sizeLine → DRels K G xs ds → DRels K G vs es → ∀ ds' d, gm ds es = some (ds', d) →
  ∀ Q : VK, (∀ v xs', xs'.length ≤ sizeLine → DRels K G xs' ds' → DRel K G v d → Q v (upd H p (.lst xs'))) → r (.ref p) vs H Q
def fMut (i : Nat) (gm : List D → List D → Option (List D × D)) (f : FL) : FE := fun S => match S[i]? with
  | some (some (true, .lst _)) => match f S with
    | some (es, S1) => match S1[i]? with
      | some (some (true, .lst ds)) => match gm ds es with
        | some (ds', d) => some ((false, d), S1.set i (some (true, .lst ds')))
        | none => none
      | _ => none
    | none => none
  | _ => none
def mAppend : List D → List D → Option (List D × D)
  | ds, [d] => if ds.length < SL then some (ds ++ [d], .non) else none
  | _, _ => none
def mExtend : List D → List D → Option (List D × D)
  | ds, [.lst es] => if ds.length + es.length ≤ SL then some (ds ++ es, .non) else none
  | _, _ => none
def mPopAt : List D → List D → Option (List D × D)
  | ds, [.int i] => match ixN ds.length i with
    | some j => match ds[j]? with
      | some d => some (ds.eraseIdx j, d)
      | none => none
    | none => none
  | _, _ => none
def mPop : List D → List D → Option (List D × D)
  | ds, [] => match ds[ds.length - 1]? with
    | some d => some (ds.dropLast, d)
    | none => none
  | _, _ => none
def mReverse : List D → List D → Option (List D × D)
  | ds, [] => some (ds.reverse, .non)
  | _, _ => none
section
variable {K : PySem.W.Frag}
theorem DRels.erase {G : Hp} : ∀ {vs : List V} {ds : List D} (i : Nat), DRels K G vs ds → DRels K G (vs.eraseIdx i) (ds.eraseIdx i)
  | _, _, _, .nil => .nil
  | _, _, 0, .cons _ r => r
  | _, _, i + 1, .cons h r => .cons h (DRels.erase i r)
theorem DRels.dropLast {G : Hp} {vs : List V} {ds : List D} (h : DRels K G vs ds) : DRels K G vs.dropLast ds.dropLast := by
  rw [List.dropLast_eq_take, List.dropLast_eq_take, h.length]
  exact h.take _
theorem sim_append : SimMut K rAppend mAppend := by
  intro G H p xs ds vs es gh hp hz r rs ds' d e Q q
  unfold mAppend at e
  split at e
  · split at e
    · rename_i hc
      cases e
      cases rs with
      | cons h t =>
        cases t
        have hl : xs.length < sizeLine := by rw [r.length, sizeLine_eq]; exact hc
        exact ⟨p, xs, _, rfl, rfl, hp, hl, q .non _ (by rw [List.length_append]; exact hl) (r.append (.cons h .nil)) .non⟩
    · cases e
  · cases e
theorem sim_extend : SimMut K rExtend mExtend := by
  intro G H p xs ds vs es gh hp hz r rs ds' d e Q q
  unfold mExtend at e
  split at e
  · split at e
    · rename_i hc
      cases e
      cases rs with
      | cons h t =>
        cases t
        cases h with
        | lst h1 h2 h3 =>
          rename_i a vs2
          have hl : xs.length + vs2.length ≤ sizeLine := by rw [r.length, h3.length]; exact SL_le hc
          exact ⟨p, _, xs, _, rfl, rfl, hp, gh _ _ h1, hl, q .non _ (by rw [List.length_append]; exact hl) (r.append h3) .non⟩
    · cases e
  · cases e
theorem sim_popAt : SimMut K rPopAt mPopAt := by
  intro G H p xs ds vs es gh hp hz r rs ds' d e Q q
  unfold mPopAt at e
  split at e
  · rename_i ds i
    split at e
    · rename_i j hj
      split at e
      · rename_i d0 hd
        obtain ⟨rfl, rfl⟩ := some_pair e
        cases rs with
        | cons h t =>
          cases t
          cases h
          obtain ⟨v, h1, h2⟩ := r.get hd
          rw [← r.length] at hj
          obtain ⟨k1, k2, k3, k4⟩ := ixN_seq hj
          have hs := sizeLine_eq
          refine ⟨p, xs, i, j, v, rfl, rfl, hp, by omega, by omega, k1, h1, q v _ ?_ (r.erase j) h2⟩
          have := len_erase xs j
          omega
      · cases e
    · cases e
  · cases e
theorem sim_pop : SimMut K rPop mPop := by
  intro G H p xs ds vs es gh hp hz r rs ds' d e Q q
  unfold mPop at e
  split at e
  · split at e
    · rename_i d0 hd
      obtain ⟨rfl, rfl⟩ := some_pair e
      cases rs
      rw [← r.length] at hd
      obtain ⟨v, h1, h2⟩ := r.get hd
      refine ⟨p, xs, v, rfl, rfl, hp, h1, q v _ ?_ r.dropLast h2⟩
      rw [List.length_dropLast]; omega
    · cases e
  · cases e
theorem sim_reverse : SimMut K rReverse mReverse := by
  intro G H p xs ds vs es gh hp hz r rs ds' d e Q q
  unfold mReverse at e
  split at e
  · cases e
    cases rs
    exact ⟨p, xs, rfl, rfl, hp, q .non _ (by rw [List.length_reverse]; exact hz) r.reverse .non⟩
  · cases e
theorem mut_core {te : TE} {ta : TA} {r : V → List V → Hp → VK → Prop} {gm : List D → List D → Option (List D × D)} {i : Nat} {f : FL} (s : SimL K ta f) (hs : SimMut K r gm) (he : ∀ σ H Q, te σ H Q = (tVar i σ H fun x H1 => tyV K "list" x H1 ∧ ta σ H1 fun xs H2 => r x xs H2 Q)) : SimE K te (fMut i gm f) := by
  intro σ S G H r0 t S' h Q q
  unfold fMut at h
  split at h
  · rename_i ds0 hS0
    split at h
    · rename_i es S1 e1
      split at h
      · rename_i ds hS1
        split at h
        · rename_i ds' d e2
          obtain ⟨rfl, rfl⟩ := some_pair h
          rw [he]
          obtain ⟨v, e3, e4⟩ := r0.sl i _ hS0
          obtain ⟨p, rfl, g0, vs0, hp0, z0, rr0⟩ := e4
          refine ⟨.ref p, e3, .inl ⟨rfl, vs0, SqL.of hp0⟩, ?_⟩
          refine s σ S G H r0 es S1 e1 _ fun vs G1 H1 a1 => ?_
          obtain ⟨v1, e5, e6⟩ := a1.step.st.sl i _ hS1
          rw [e3] at e5
          cases e5
          obtain ⟨p1, ep, g1, xs, hp1, z1, rr1⟩ := e6
          cases ep
          refine hs G1 H1 p xs ds vs es a1.step.st.gh hp1 z1 rr1 a1.rel ds' d e2 Q fun v2 xs' z2 rr2 r2 => ?_
          exact q v2 G1 _ ⟨a1.step.change hS1 e3 ⟨xs', upd_same, z2, rr2⟩, r2, fun z => nomatch z⟩
        · cases h
      · cases h
    · cases h
  · cases h
end
section
variable {X : Cx} {e ie : Expr} {es : List Expr} {pos : Pos} {r : V → List V → Hp → VK → Prop} {gm : List D → List D → Option (List D × D)} {f : FL} {x name : Str} {xpos apos cpos : Pos} {id : String}
theorem ve_mut (i : Nat) (slot : Slot "list" name id) (hty : typeOf (.builtin id) = pure (.type "method_descriptor")) (hm : MtR X id r) (hs : SimMut X.K r gm) (ha : VL X (e :: es) f)
    (hN : X.N[i]? = some x := by rfl) (hv : Vis X.env.scope x := by first | exact Or.inl rfl | exact Or.inr (Or.inl rfl) | exact Or.inr (Or.inr rfl)) (hd : (x == ("__debug__" : Str)) = false := by decide) (hcd : (x == ("__classdict__" : Str)) = false := by decide)
    (hbase : attributeBase (.Name x xpos) name X.env (eval (.Name x xpos) X.env) = eval (.Name x xpos) X.env := by rfl)
    (hfew : ((backTo cpos (starEach (e :: es) X.env)).all (fun x => !x.1) && (backToKw cpos (keywordEach [] X.env)).all (fun x => x.1.isSome)
      && decide ((e :: es).length + ([] : List Keyword).length + (if ([] : List Keyword).isEmpty then 0 else 1) < 30)) = true := by rfl)
    (hline : (apos.endLine == cpos.line) = true := by rfl) (hss : starEach (e :: es) X.env = (false, eval e X.env) :: starEach es X.env := by rfl) (hplain : (backTo cpos (starEach es X.env)).any (·.1) = false := by rfl) :
    VE X (.Call (.Attribute (.Name x xpos) name apos) (e :: es) [] cpos) (fMut i gm f) := by
  obtain ⟨ta, p, s⟩ := ha.ex
  exact ⟨_, pe_bm PySem.F.plainAttrs_list slot hty hm (pe_var hN hv hd hcd) p hbase hfew hline hss hplain, mut_core s hs fun _ _ _ => rfl⟩
theorem ve_mut0 (i : Nat) (slot : Slot "list" name id) (hty : typeOf (.builtin id) = pure (.type "method_descriptor")) (hm : MtR X id r) (hs : SimMut X.K r gm)
    (hN : X.N[i]? = some x := by rfl) (hv : Vis X.env.scope x := by first | exact Or.inl rfl | exact Or.inr (Or.inl rfl) | exact Or.inr (Or.inr rfl)) (hd : (x == ("__debug__" : Str)) = false := by decide) (hcd : (x == ("__classdict__" : Str)) = false := by decide)
    (hbase : attributeBase (.Name x xpos) name X.env (eval (.Name x xpos) X.env) = eval (.Name x xpos) X.env := by rfl) (hline : (apos.endLine == cpos.line) = true := by rfl) :
    VE X (.Call (.Attribute (.Name x xpos) name apos) [] [] cpos) (fMut i gm fNil) := by
  have s : SimL X.K tNil fNil := fun σ S G H r ds S' h Q q => by cases h; exact q [] G H ⟨.refl r, .nil⟩
  exact ⟨_, pe_bm0 PySem.F.plainAttrs_list slot hty hm (pe_var hN hv hd hcd) hbase hline, mut_core s hs fun _ _ _ => rfl⟩
theorem ve_append (i : Nat) (ha : VL X [e] f) (hN : X.N[i]? = some x := by rfl) (hv : Vis X.env.scope x := by first | exact Or.inl rfl | exact Or.inr (Or.inl rfl) | exact Or.inr (Or.inr rfl)) (hd : (x == ("__debug__" : Str)) = false := by decide) (hcd : (x == ("__classdict__" : Str)) = false := by decide)
    (hbase : attributeBase (.Name x xpos) "append" X.env (eval (.Name x xpos) X.env) = eval (.Name x xpos) X.env := by rfl)
    (hfew : ((backTo cpos (starEach [e] X.env)).all (fun x => !x.1) && (backToKw cpos (keywordEach [] X.env)).all (fun x => x.1.isSome)
      && decide (([e] : List Expr).length + ([] : List Keyword).length + (if ([] : List Keyword).isEmpty then 0 else 1) < 30)) = true := by rfl)
    (hline : (apos.endLine == cpos.line) = true := by rfl) (hss : starEach [e] X.env = (false, eval e X.env) :: starEach [] X.env := by rfl) (hplain : (backTo cpos (starEach [] X.env)).any (·.1) = false := by rfl) :
    VE X (.Call (.Attribute (.Name x xpos) "append" apos) [e] [] cpos) (fMut i mAppend f) :=
  ve_mut i PySem.F.slot_list_append PySem.F.type_list_append mt_append sim_append ha hN hv hd hcd hbase hfew hline hss hplain
/-- x[ie] = e -/
def fSetIx (i : Nat) (f : FE) (g : FO) : FS := fun S => match f S with
  | some (t, S1) => match S1[i]? with
    | some (some (true, _)) => match g S1 with
      | some (o, S2) => match S2[i]? with
        | some (some (true, .lst ds)) => match res S2 o with
          | some (.int k) => match ixN ds.length k with
            | some j => some (.nx (S2.set i (some (true, .lst (ds.set j t.2)))))
            | none => none
          | _ => none
        | _ => none
      | none => none
    | _ => none
  | none => none
theorem vs_setIx (i : Nat) {kp : Kp} {f : FE} {g : FO} {spos : Pos} (he : VE X e f) (hi : VO X ie g)
    (hN : X.N[i]? = some x := by rfl) (hv : Vis X.env.scope x := by first | exact Or.inl rfl | exact Or.inr (Or.inl rfl) | exact Or.inr (Or.inr rfl)) (hd : (x == ("__debug__" : Str)) = false := by decide) (hcd : (x == ("__classdict__" : Str)) = false := by decide)
    (ha : ∀ v, assign (.Subscript (.Name x xpos) ie pos) X.env v = (do
      let ov ← holding [v] (eval (.Name x xpos) X.env)
      let iv ← holding [v, ov] (eval ie X.env)
      standAt pos
      holding [v, ov, iv] (setItem ov iv v)
      release [v, ov, iv] []) := by intro _; rfl)
    (hs : swapsWithSole [.Subscript (.Name x xpos) ie pos] e spos.line X.env = pure false := by rfl) (hw : swappedStores [.Subscript (.Name x xpos) ie pos] e X.env = pure none := by rfl)
    (h1 : (assignEach [.Subscript (.Name x xpos) ie pos] X.env).map (·.2) = [assign (.Subscript (.Name x xpos) ie pos) X.env] := by rfl) : VS kp X (.Assign [.Subscript (.Name x xpos) ie pos] e spos) (fSetIx i f g) := by
  obtain ⟨te, p, s⟩ := he.ex
  obtain ⟨ti, p', s'⟩ := hi.ex
  refine ⟨_, ps_asg p (pg_sub (pe_var hN hv hd hcd) p' set_list ha) hs hw h1, fun σ S G H r o h D q => ?_⟩
  unfold fSetIx at h
  split at h
  · rename_i t S1 e1
    split at h
    · rename_i d1 hS1
      split at h
      · rename_i o' S2 e2
        split at h
        · rename_i ds hS
          split at h
          · rename_i k e3
            split at h
            · rename_i j hj
              cases h
              refine s σ S G H r t S1 e1 _ fun v G1 H1 a1 => ?_
              obtain ⟨G1', a1'⟩ := a1.frz
              obtain ⟨w, hw, p0, rfl, _⟩ := a1'.step.st.sl i _ hS1
              refine ⟨.ref p0, hw, ?_⟩
              refine s' σ S1 G1' H1 a1'.step.st o' S2 e2 _ fun v2 G2 H2 a2 => ?_
              obtain ⟨w2, hw2, p2, rfl, g2, xs, hp, z, rr⟩ := a2.step.st.sl i _ hS
              rw [hw] at hw2
              cases hw2
              rw [← rr.length] at hj
              refine ⟨p0, xs, k, j, rfl, (a2.rd e3).int, hp, hj, ?_⟩
              have st := a1'.step.trans a2.step
              have c : Cont X.K G2 (upd H2 p0 (.lst (xs.set j v))) p0 (.lst (ds.set j t.2)) := ⟨xs.set j v, upd_same, by rw [List.length_set]; exact z, rr.set (DRel.mono a2.step.ext.gg a1'.rel) j⟩
              exact q σ G2 _ (st.change hS hw c).toS
            · cases h
          · cases h
        · cases h
      · cases h
    · cases h
  · cases h
/-- x op= e, x a name that holds a number or a text -/
def fAug (i : Nat) (g : D → D → Option T) (f : FO) : FS := fun S => match S[i]? with
  | some (some (false, d)) => match f S with
    | some (o, S1) => match res S1 o with
      | some e => match g d e with
        | some t => if i < S1.length then some (.nx (S1.set i (some t))) else none
        | none => none
      | none => none
    | none => none
  | _ => none
theorem pip_of {op : Operator} {r : R2} (h : OpR X (inplaceOp op) r) : PIp X op r := h
theorem vs_aug (i : Nat) {kp : Kp} {op : Operator} {r : R2} {g : D → D → Option T} {f : FO} (hN : X.N.Nodup) (ho : OpR X (inplaceOp op) r) (hs : Sim2 X.K r g) (he : VO X e f) (hk : kp i = false := by rfl) (hi : X.N[i]? = some x := by rfl) (hx : X.env.scope.names.lookup x = some .local := by rfl) : VS kp X (.AugAssign (.Name x xpos) op e pos) (fAug i g f) := by
  obtain ⟨te, p, s⟩ := he.ex
  refine ⟨_, ps_aug (i := i) hN hi (.inl hx) p (pip_of ho) (.inr hx), fun σ S G H r0 o h D q => ?_⟩
  unfold fAug at h
  split at h
  · rename_i d hS
    split at h
    · rename_i o' S1 e1
      split at h
      · rename_i e' e2
        split at h
        · rename_i t e3
          split at h
          · rename_i hl
            cases h
            obtain ⟨v, e4, e5⟩ := r0.sl i _ hS
            refine ⟨v, e4, s σ S G H r0 o' S1 e1 _ fun v2 G1 H1 a1 => ?_⟩
            have rd : DRel X.K G1 v d := DRel.mono a1.step.ext.gg e5
            refine hs G1 H1 v v2 d e' t a1.step.st.gh (.inl rd) (a1.rd e2) e3 _ fun v3 G2 H2 o3 => ?_
            exact q _ G2 H2 ((a1.step.post (o3.post a1.step.st)).store (by rw [← a1.step.st.len]; exact hl) hk)
          · cases h
        · cases h
      · cases h
    · cases h
  · cases h
end
end VL

set_option Elab.async false
set_option linter.all false
set_option maxRecDepth 100000
set_option maxHeartbeats 1000000
/-! VLG: defs called where no repr is under way: the promise over such surroundings alone. -/
namespace VL
open PySem PySem.Spec PyProof.Rows L2

structure RG (k : Nat) (A : Around) : Prop extends Room k A where
  gd : A.guards = some []
theorem RG.lower {j k : Nat} {A : Around} (r : RG k A) (h : j ≤ k) : RG j A := ⟨r.toRoom.mono h, r.gd⟩
theorem RG.below {k : Nat} {A : Around} (r : RG (k + 1) A) (env : Env) : RG k (A.deeper env) := ⟨r.toRoom.deeper env, r.gd⟩
theorem RG.u65 {k : Nat} {A : Around} (r : RG k A) : A.units + 65 < cLine := by have := r.un; omega
structure FnG (P : Program) (w : World) (K : PySem.W.Frag) (mg : Str → Option Value) (base : Heap) (k : Nat) (f : Addr) (fd : FuncData) (ps : List Str) (sp : Sp) : Prop where
  len : ∀ vs H Q E, sp vs H Q E → vs.length = ps.length
  run : ∀ (A : Around) (outer : List Env) (s : Shared) (H : Hp) (args : Args) (us : List Value) (vs : List V) (Q : VK) (E : XK), RG k A → Env0 P w K mg base A outer s H → BindsTo s fd args (ps.zip us) → Vals vs us → sp vs H Q E →
    codeAny (model P w) A (.call (.ref f) args) (CR CX0 outer P w H s Q E) s
section
variable {P : Program} {w : World} {K : PySem.W.Frag} {mg : Str → Option Value} {base : Heap}
theorem FnG.lift {j k : Nat} {f : Addr} {fd : FuncData} {ps : List Str} {sp : Sp} (F : FnG P w K mg base j f fd ps sp) (h : j ≤ k) : FnG P w K mg base k f fd ps sp :=
  ⟨F.len, fun A outer s H args us vs Q E hr => F.run A outer s H args us vs Q E (hr.lower h)⟩
/-- a def by its body -/
theorem fnG {x qual : Str} {st : Stmt} {f : Addr} {fd : FuncData} {N ps : List Str} {k : Nat} {sp : Sp} (F : L2.Fun K x qual st f fd) (S : FnScope N ps (defScope st)) (len : ∀ vs H Q E, sp vs H Q E → vs.length = ps.length)
    (hbody : ∀ (cdv : Value) (A : Around) (outer : List Env) (s : Shared) (H : Hp) (vs : List V) (Q : VK) (E : XK), RG k (A.deeper (envOfC qual (defScope st) s.heap.objs.size f cdv)) → sp vs H Q E →
      ∃ t, PSs (cxOf CX0 P w K mg base N qual (defScope st) f cdv A outer s H E).nox (defBody st) t ∧ t { nx := fun _ H' => Q .non H', rt := Q } (start N vs) H) : FnG P w K mg base (k + 1) f fd ps sp := by
  obtain ⟨oc, od, kV, doc, pm, an, cdv, ct, osl, rfl, lk, hcd⟩ := F.ex
  refine ⟨len, fun A outer s H args us vs Q E hr e0 hb rv hsp => ?_⟩
  have lens := len _ _ _ _ hsp
  have kin : K.In s.heap := e0.mod.kin.keeps fun b o e => (e0.bs b o e).1
  have nol : s.heap.NoLimit := e0.mod.nolimit.keeps fun b o e => (e0.bs b o e).1
  refine codeAny_call_function hr.toRoom.depth (kin _ _ lk) rfl S.co S.gen rfl (PySem.W.codeRec_of kin hcd) (hb _ _ _ _ ?_)
  refine wpAny_newFunctionEnv_cells S.kind (fun y hy => ?_) fun env he s1 x => ?_
  · obtain ⟨n, v⟩ := y
    rcases S.par n (List.of_mem_zip hy).1 with z | z
    · exact .inl z
    · exact .inr ⟨z, PySem.W.cellsFrom_some _ _ _ (.inl z)⟩
  · subst he
    refine ⟨nol.keeps x.toInCall.keep, codeAny_func ?_⟩
    obtain ⟨t, ht, hq⟩ := hbody cdv A outer s H vs Q E (hr.below _) hsp
    have I0 := inv_start (CX := CX0) (E := E) S hr.hd e0 lens rv x
    refine wpAny_mono (ht.nox.run [] s1 (L2.start N vs) H _ I0 hq) (fun fl s' hs => ?_) fun e s' hs => hs
    cases fl with
    | ret u => exact let ⟨v, σ', H', J, r, q⟩ := hs; ⟨v, H', J.os, J.bare, J.base, J.hok, r, q⟩
    | next => exact let ⟨σ', H', J, q⟩ := hs; ⟨.non, H', J.os, J.bare, J.base, J.hok, rfl, q⟩
    | brk => exact let ⟨_, _, _, q⟩ := hs; False.elim q
    | cont => exact let ⟨_, _, _, q⟩ := hs; False.elim q
end
section
variable {X : Cx} {k : Nat} {f : Addr} {fd : FuncData} {ps : List Str} {sp : Sp} {E : XK} {x : Str} {p pos : Pos} {e : Expr} {es : List Expr} {t : TA}
theorem runG {pins : List (Addr × Obj)} {σ : St} {H : Hp} {s : Shared} {Q : VK} {args : Args} {us : List Value} {vs : List V} (F : FnG X.prog X.w X.K X.mg X.base k f fd ps sp) (hr : RG k X.A) (hb : us.length = ps.length → BindsTo s fd args (ps.zip us))
    (I : Inv X pins σ H s) (r : Vals vs us) (h : sp vs H Q E) : codeAny (model X.prog X.w) X.A (.call (.ref f) args) (fun r s' => match r with
      | .ok (.ret u) => EP X pins σ Q u s'
      | _ => False) s := by
  have hl : us.length = ps.length := by rw [← r.length]; exact F.len _ _ _ _ h
  refine codeAny_mono (F.run X.A X.stack s H args us vs Q E hr I.env0 (hb hl) r h) fun r s' hq => ?_
  cases r with
  | error e => exact hq.elim
  | ok fl =>
    cases fl with
    | ret u => exact I.after hq
    | next => exact False.elim hq
    | brk => exact False.elim hq
    | cont => exact False.elim hq
theorem callG {pins : List (Addr × Obj)} {σ : St} {H : Hp} {s : Shared} {Q : VK} {us vs'} {kw : List (Str × Value)} {vs : List V} (F : FnG X.prog X.w X.K X.mg X.base k f fd ps sp) (hr : RG k X.A) (hb : vs'.length = ps.length → BindsTo s fd ⟨us, kw⟩ (ps.zip vs'))
    (I : Inv X pins σ H s) (r : Vals vs vs') (h : sp vs H Q E) : wpAny (model X.prog X.w) X.A (call (.ref f) us kw) (EP X pins σ Q) X.xe s := by
  refine wpAny_call (codeAny_mono (runG F hr hb I r h) fun r s' hq => ?_)
  cases r with
  | error e => exact hq.elim
  | ok fl =>
    cases fl with
    | ret u => exact hq
    | next => exact False.elim hq
    | brk => exact False.elim hq
    | cont => exact False.elim hq
theorem pe_callG (F : FnG X.prog X.w X.K X.mg X.base k f fd ps sp) (hr : RG k X.A) (hg : Gl X x) (hm : X.mg x = some (.ref f)) (hk : PySem.W.keepIn X.K (.ref f) = true) (hb : Binds X.K fd ps [])
    (ha : PA X (e :: es) t) (hdb : (x == ("__debug__" : Str)) = false := by decide) (he : starEach (e :: es) X.env = (false, eval e X.env) :: starEach es X.env := by rfl) (hpl : (backTo pos (starEach es X.env)).any (·.1) = false := by rfl) :
    PE X (.Call (.Name x p) (e :: es) [] pos) (tCall sp [] E t) := by
  refine ⟨fun pins s σ H Q I h => wpAny_Call_Name_kw (ld_glob I hg hm ?_ hdb)⟩
  refine PySem.W.callWith_K (h₀ := X.base) I.ok.mod.kin hk (thn (ha.run pos pins s σ H _ I h) fun us s1 ⟨vs, H1, I1, r, q⟩ => ⟨I1.kIn, ?_⟩) he hpl
  have q : sp (vs ++ []) H1 Q E := q
  rw [List.append_nil] at q
  exact callG F hr (fun hl => by have := hb s1 us I1.kIn (by rw [List.append_nil]; exact hl); rwa [List.append_nil] at this) I1 r q
theorem pe_callG0 (F : FnG X.prog X.w X.K X.mg X.base k f fd ps sp) (hr : RG k X.A) (hg : Gl X x) (hm : X.mg x = some (.ref f)) (hk : PySem.W.keepIn X.K (.ref f) = true) (hb : Binds X.K fd ps [])
    (hdb : (x == ("__debug__" : Str)) = false := by decide) : PE X (.Call (.Name x p) [] [] pos) (tCall sp [] E tNil) := by
  refine ⟨fun pins s σ H Q I h => wpAny_Call_Name_kw (ld_glob I hg hm ?_ hdb)⟩
  exact PySem.W.callWith_K0 I.kIn hk (callG (us := []) F hr (fun hl => hb s [] I.kIn hl) I .nil h)
/-- f(.., k = v, ..): how the values come to the parameters -/
theorem pe_callGK {kws : List Keyword} {tk : TA} {ks : List Str} {g : List Value → List Value → List Value} {gV : List V → List V → List V} (F : FnG X.prog X.w X.K X.mg X.base k f fd ps sp) (hr : RG k X.A) (hg : Gl X x) (hm : X.mg x = some (.ref f)) (hk : PySem.W.keepIn X.K (.ref f) = true) (hb : KBinds X.K fd ps ks g gV)
    (ha : PA X (e :: es) t) (hkw : PK X kws tk) (hall : (backToKw pos (keywordEach kws X.env)).all (·.1.isSome) = true := by rfl) (hks : (backToKw pos (keywordEach kws X.env)).filterMap (·.1) = ks := by rfl)
    (hdb : (x == ("__debug__" : Str)) = false := by decide) (he : starEach (e :: es) X.env = (false, eval e X.env) :: starEach es X.env := by rfl)
    (hpl : ((backTo pos (starEach (e :: es) X.env)).any (·.1) || (backToKw pos (keywordEach kws X.env)).any (·.1.isNone)) = false := by rfl) :
    PE X (.Call (.Name x p) (e :: es) kws pos) (tCallK sp gV E t tk) := by
  refine ⟨fun pins s σ H Q I h => wpAny_Call_Name_kw (ld_glob I hg hm ?_ hdb)⟩
  refine PySem.W.callWith_KW (h₀ := X.base) I.ok.mod.kin hk hall (thn (ha.run pos pins s σ H _ I h) fun us s1 ⟨vs, H1, I1, r, q⟩ => ?_) hpl he
  refine thn (hkw.run pos pins s1 σ H1 _ I1 q) fun ws s2 ⟨zs, H2, I2, rz, q2⟩ => ⟨I2.kIn, ?_⟩
  rw [hks]
  exact callG F hr (fun hl => hb.to s2 us ws I2.kIn hl) I2 (hb.rel r rz) q2
end
end VL

set_option Elab.async false
set_option linter.all false
set_option maxRecDepth 100000
set_option maxHeartbeats 1000000
/-! VL9: calls of defs; a def by its body. -/
namespace VL
open PySem PySem.Spec PyProof.Rows L2

/-- a def as a function: what it hands back, and what the arguments are then (none: not to be used any more) -/
abbrev Fn := List T → Option (T × List (Option T))
def OwnA (vs : List V) (ts : List T) (p : Addr) : Prop := ∃ (k : Nat) (d : D), ts[k]? = some (true, d) ∧ vs[k]? = some (V.ref p)
structure ArgsRel (K : PySem.W.Frag) (G H : Hp) (vs : List V) (ts : List T) : Prop where
  len : vs.length = ts.length
  sl : ∀ (k : Nat) (t : T), ts[k]? = some t → ∃ v, vs[k]? = some v ∧ TRel K G H v t
  inj : ∀ (j k : Nat) (d e : D) (v : V), ts[j]? = some (true, d) → ts[k]? = some (true, e) → vs[j]? = some v → vs[k]? = some v → j = k
structure CallPost (K : PySem.W.Frag) (G H : Hp) (vs : List V) (ts : List T) (v : V) (t : T) (ps : List (Option T)) (G' H' : Hp) : Prop where
  ext : Ext (OwnA vs ts) G H G' H'
  gh : Same G' H'
  rel : TRel K G' H' v t
  new : t.1 = true → ∀ p, v = .ref p → OwnA vs ts p ∨ H p = none
  back : ∀ (k : Nat) (u : T), ps[k]? = some (some u) → ∃ w, vs[k]? = some w ∧ TRel K G' H' w u
  bown : ∀ (k : Nat) (d : D), ps[k]? = some (some (true, d)) → ∃ e : D, ts[k]? = some (true, e)
  dist : t.1 = true → ∀ p, v = .ref p → ∀ (k : Nat) (d : D), ps[k]? = some (some (true, d)) → vs[k]? ≠ some (V.ref p)
def spF (K : PySem.W.Frag) (n : Nat) (f : Fn) : Sp := fun vs H Q _ => vs.length = n ∧ ∃ G ts t ps, Same G H ∧ ArgsRel K G H vs ts ∧ f ts = some (t, ps) ∧ ∀ v G' H', CallPost K G H vs ts v t ps G' H' → Q v H'

/-! ### a def by its body -/
def backs (kp : Kp) (S : VSt) : Nat → List T → List (Option T)
  | _, [] => []
  | k, t :: ts => (if kp k = true then (match S[k]? with
    | some (some u) => some u
    | _ => none) else if t.1 = true then none else some t) :: backs kp S (k + 1) ts
def bodyFn (N n : Nat) (kp : Kp) (F : FS) : Fn := fun ts => if ts.length = n then match F (ts.map some ++ List.replicate (N - n) none) with
  | some (.ret t S) => some (t, backs kp S 0 ts)
  | some (.nx S) => some ((false, .non), backs kp S 0 ts)
  | _ => none else none
theorem backs_get {kp : Kp} {S : VSt} : ∀ {ts : List T} {k0 k : Nat} {u : T}, (backs kp S k0 ts)[k]? = some (some u) → ∃ t, ts[k]? = some t ∧ ((kp (k0 + k) = true ∧ S[k0 + k]? = some (some u)) ∨ (kp (k0 + k) = false ∧ u = t ∧ t.1 = false))
  | [], _, _, _, h => by simp [backs] at h
  | t :: ts, k0, 0, u, h => by
    unfold backs at h
    rw [List.getElem?_cons_zero] at h
    refine ⟨t, rfl, ?_⟩
    have h' := Option.some.inj h
    by_cases hk : kp k0 = true
    · rw [if_pos hk] at h'
      left
      refine ⟨hk, ?_⟩
      rw [Nat.add_zero]
      cases q : S[k0]? with
      | none => rw [q] at h'; cases h'
      | some o =>
        cases o with
        | none => rw [q] at h'; cases h'
        | some w => rw [q] at h'; cases h'; rfl
    · rw [if_neg hk] at h'
      right
      refine ⟨by simpa using hk, ?_⟩
      by_cases ht : t.1 = true
      · rw [if_pos ht] at h'; cases h'
      · rw [if_neg ht] at h'
        cases h'
        exact ⟨rfl, by simpa using ht⟩
  | t :: ts, k0, k + 1, u, h => by
    unfold backs at h
    rw [List.getElem?_cons_succ] at h
    obtain ⟨t', h1, h2⟩ := backs_get h
    have e : k0 + 1 + k = k0 + (k + 1) := by omega
    rw [e] at h2
    exact ⟨t', by simpa using h1, h2⟩
theorem start_get {N : List Str} {vs : List V} {k : Nat} {v : V} (h : vs[k]? = some v) : (start N vs)[k]? = some (some v) := by
  unfold L2.start
  have hk := (List.getElem?_eq_some_iff.mp h).1
  rw [List.getElem?_append_left (by simpa using hk), List.getElem?_map, h]
  rfl
theorem startV_get {ts : List T} {m k : Nat} {t : T} (h : (ts.map some ++ List.replicate m none)[k]? = some (some t)) : ts[k]? = some t := by
  by_cases hk : k < ts.length
  · rw [List.getElem?_append_left (by simpa using hk), List.getElem?_map] at h
    cases e : ts[k]? with
    | none => rw [e] at h; cases h
    | some u => rw [e] at h; cases h; rfl
  · rw [List.getElem?_append_right (by simpa using hk), List.getElem?_replicate] at h
    split at h <;> cases h
theorem ArgsRel.begin {K : PySem.W.Frag} {G H : Hp} {vs : List V} {ts : List T} {N : List Str} (a : ArgsRel K G H vs ts) (gh : Same G H) : StRel K G H (start N vs) (ts.map some ++ List.replicate (N.length - ts.length) none) := by
  refine ⟨by unfold L2.start; simp [a.len], gh, fun i t h => ?_, fun i j d e v h1 h2 k1 k2 => ?_⟩
  · obtain ⟨v, h1, h2⟩ := a.sl i t (startV_get h)
    exact ⟨v, start_get h1, h2⟩
  · have g1 := startV_get h1
    have g2 := startV_get h2
    obtain ⟨v1, h3, _⟩ := a.sl i _ g1
    obtain ⟨v2, h4, _⟩ := a.sl j _ g2
    rw [start_get h3] at k1
    rw [start_get h4] at k2
    cases k1
    cases k2
    exact a.inj i j d e _ g1 g2 h3 h4
theorem ArgsRel.own {K : PySem.W.Frag} {G H : Hp} {vs : List V} {ts : List T} {N : List Str} (a : ArgsRel K G H vs ts) {p : Addr} (o : Own (start N vs) (ts.map some ++ List.replicate (N.length - ts.length) none) p) : OwnA vs ts p := by
  obtain ⟨i, d, h1, h2⟩ := o
  have g1 := startV_get h1
  obtain ⟨v1, h3, _⟩ := a.sl i _ g1
  rw [start_get h3] at h2
  cases h2
  exact ⟨i, d, g1, h3⟩
section
variable {P : Program} {w : World} {K : PySem.W.Frag} {mg : Str → Option Value} {base : Heap}
theorem call_end {kp : Kp} {G H : Hp} {vs : List V} {ts : List T} {N : List Str} {v : V} {t : T} {σ : St} {S : VSt} {G' H' : Hp} (a : ArgsRel K G H vs ts)
    (q : PostS kp K (start N vs) (ts.map some ++ List.replicate (N.length - ts.length) none) G H v t σ S G' H') : CallPost K G H vs ts v t (backs kp S 0 ts) G' H' := by
  refine ⟨q.step.ext.imp fun p o => a.own o, q.step.st.gh, q.rel, fun h p e => (q.new h p e).2.imp (fun o => a.own o) id, fun k u h => ?_, fun k d h => ?_, fun ht p e k d h hv => ?_⟩
  · obtain ⟨t0, h1, h2⟩ := backs_get h
    rw [Nat.zero_add] at h2
    obtain ⟨v0, h3, h4⟩ := a.sl k t0 h1
    refine ⟨v0, h3, ?_⟩
    rcases h2 with ⟨hk, h2⟩ | ⟨hk, h2, h5⟩
    · obtain ⟨v1, h6, h7⟩ := q.step.st.sl k u h2
      rw [q.step.keep k hk, start_get h3] at h6
      cases h6
      exact h7
    · subst h2
      exact h4.over q.step.ext fun z => by rw [h5] at z; cases z
  · obtain ⟨t0, h1, h2⟩ := backs_get h
    rw [Nat.zero_add] at h2
    rcases h2 with ⟨hk, h2⟩ | ⟨hk, h2, h5⟩
    · obtain ⟨e, h6⟩ := q.step.kow k d hk h2
      exact ⟨e, startV_get h6⟩
    · subst h2; cases h5
  · obtain ⟨t0, h1, h2⟩ := backs_get h
    rw [Nat.zero_add] at h2
    rcases h2 with ⟨hk, h2⟩ | ⟨hk, h2, h5⟩
    · refine (q.new ht p e).1 ⟨k, d, h2, ?_⟩
      rw [q.step.keep k hk, start_get hv]
    · subst h2; cases h5
/-- THE RULE for a def -/
theorem fn_ok {x qual : Str} {st : Stmt} {f : Addr} {fd : FuncData} {N ps : List Str} {k n : Nat} {Ff : Fn} (kp : Kp) (F : L2.Fun K x qual st f fd) (S : FnScope N ps (defScope st)) (hn : ps.length = n) (body : Nat → FS)
    (hb : ∀ (cdv : Value) (A : Around) (outer : List Env) (s : Shared) (H : Hp) (E : XK), RG k (A.deeper (envOfC qual (defScope st) s.heap.objs.size f cdv)) → VSs kp (cxOf CX0 P w K mg base N qual (defScope st) f cdv A outer s H E).nox (defBody st) (body 0))
    (hf : ∀ ts r, Ff ts = some r → bodyFn N.length n kp (body 0) ts = some r) : FnG P w K mg base (k + 1) f fd ps (spF K n Ff) := by
  refine fnG F S (fun vs H Q E h => h.1.trans hn.symm) fun cdv A outer s H vs Q E hr h => ?_
  obtain ⟨hl, G, ts, t, bs, gh, a, e, q⟩ := h
  have e' := hf ts _ e
  obtain ⟨tb, p, sb⟩ := (hb cdv A outer s H E hr).ex
  have hlt : ts.length = n := by rw [← a.len]; exact hl
  unfold bodyFn at e'
  rw [if_pos hlt] at e'
  refine ⟨tb, p, ?_⟩
  have st0 := a.begin (N := N) gh
  rw [hlt] at st0
  have key : ∀ {v : V} {u : T} {σ : St} {S : VSt} {G' H' : Hp}, PostS kp K (start N vs) (ts.map some ++ List.replicate (N.length - n) none) G H v u σ S G' H' → CallPost K G H vs ts v u (backs kp S 0 ts) G' H' := fun {v u σ S G' H'} z => call_end a (by rw [hlt]; exact z)
  split at e'
  · rename_i t1 S1 e1
    obtain ⟨rfl, rfl⟩ := some_pair e'
    exact sb _ _ G H st0 _ e1 _ fun v σ' G' H' z => q v G' H' (key z)
  · rename_i S1 e1
    obtain ⟨rfl, rfl⟩ := some_pair e'
    exact sb _ _ G H st0 _ e1 _ fun σ' G' H' z => q .non G' H' (key ⟨z, .non, fun y => nomatch y⟩)
  · cases e'
end

/-! ### arguments: frozen, one of them perhaps lent by a slot -/
abbrev FA := VSt → Option (List T × VSt)
structure PostAr (K : PySem.W.Frag) (σ : St) (S : VSt) (G H : Hp) (vs : List V) (ts : List T) (ls : Option (Nat × Nat)) (S' : VSt) (G' H' : Hp) : Prop where
  step : Step K σ S G H S' G' H'
  len : vs.length = ts.length
  sl : ∀ (k : Nat) (t : T), ts[k]? = some t → ∃ v, vs[k]? = some v ∧ TRel K G' H' v t
  own : ∀ (k : Nat) (d : D), ts[k]? = some (true, d) → ∃ i, ls = some (k, i)
  src : ∀ (k i : Nat), ls = some (k, i) → ∃ v, σ[i]? = some (some v) ∧ vs[k]? = some v ∧ ∀ d, ts[k]? = some (true, d) → (∀ p, v = .ref p → ¬ Own σ S' p) ∧ ∃ e : D, S[i]? = some (some (true, e))
def SimAr (K : PySem.W.Frag) (ta : TA) (ls : Option (Nat × Nat)) (f : FA) : Prop := ∀ σ S G H, StRel K G H σ S → ∀ ts S', f S = some (ts, S') → ∀ Q : List V → Hp → Prop, (∀ vs G' H', PostAr K σ S G H vs ts ls S' G' H' → Q vs H') → ta σ H Q
structure VAr (X : Cx) (es : List Expr) (ls : Option (Nat × Nat)) (f : FA) : Prop where
  ex : ∃ ta, PA X es ta ∧ SimAr X.K ta ls f
def faNil : FA := fun S => some ([], S)
def faCons (f : FE) (g : FA) : FA := fun S => match f S with
  | some (t, S1) => match g S1 with
    | some (ts, S2) => some ((false, t.2) :: ts, S2)
    | none => none
  | none => none
def faLend (i : Nat) (g : FA) : FA := fun S => match S[i]? with
  | some (some _) => match g S with
    | some (ts, S2) => match fTake i S2 with
      | some (t, S3) => some (t :: ts, S3)
      | none => none
    | none => none
  | _ => none
section
variable {X : Cx} {e : Expr} {es : List Expr}
theorem var_nil : VAr X [] none faNil := ⟨_, pa_nil, fun σ S G H r ds S' h Q q => by
  cases h
  exact q [] G H ⟨.refl r, rfl, fun k t h => by simp at h, fun k d h => by simp at h, fun k i h => nomatch h⟩⟩
theorem var_cons {ls : Option (Nat × Nat)} {f : FE} {g : FA} (h1 : VE X e f) (h2 : VAr X es ls g) (hs : starEach (e :: es) X.env = (false, eval e X.env) :: starEach es X.env := by rfl) : VAr X (e :: es) (ls.map fun p => (p.1 + 1, p.2)) (faCons f g) := by
  obtain ⟨te, p1, s1⟩ := h1.ex
  obtain ⟨ta, p2, s2⟩ := h2.ex
  refine ⟨_, pa_cons p1 p2 hs, fun σ S G H r ts S' h Q q => ?_⟩
  unfold faCons at h
  split at h
  · rename_i t S1 e1
    split at h
    · rename_i ts2 S2 e2
      obtain ⟨rfl, rfl⟩ := some_pair h
      refine s1 σ S G H r t S1 e1 _ fun v G1 H1 a1 => ?_
      obtain ⟨G1', a1'⟩ := a1.frz
      refine s2 σ S1 G1' H1 a1'.step.st ts2 S2 e2 _ fun vs G2 H2 a2 => ?_
      refine q (v :: vs) G2 H2 ⟨a1'.step.trans a2.step, by simp [a2.len], fun k u hk => ?_, fun k d hk => ?_, fun k i hk => ?_⟩
      · cases k with
        | zero => cases hk; exact ⟨v, rfl, DRel.mono a2.step.ext.gg a1'.rel⟩
        | succ k => exact a2.sl k u (by simpa using hk)
      · cases k with
        | zero => simp at hk
        | succ k =>
          obtain ⟨i, hi⟩ := a2.own k d (by simpa using hk)
          exact ⟨i, by rw [hi]; rfl⟩
      · cases ls with
        | none => cases hk
        | some z =>
          cases hk
          obtain ⟨v1, h3, h4, h5⟩ := a2.src z.1 z.2 rfl
          refine ⟨v1, h3, by simpa using h4, fun d hd => ?_⟩
          obtain ⟨h6, e6, h7⟩ := h5 d (by simpa using hd)
          exact ⟨h6, a1'.step.sow z.2 e6 h7⟩
    · cases h
  · cases h
theorem var_lend (i : Nat) {x : Str} {pos : Pos} {g : FA} (h2 : VAr X es none g) (hN : X.N[i]? = some x := by rfl) (hv : Vis X.env.scope x := by first | exact Or.inl rfl | exact Or.inr (Or.inl rfl) | exact Or.inr (Or.inr rfl)) (hd : (x == ("__debug__" : Str)) = false := by decide)
    (hcd : (x == ("__classdict__" : Str)) = false := by decide) (hs : starEach (.Name x pos :: es) X.env = (false, eval (.Name x pos) X.env) :: starEach es X.env := by rfl) : VAr X (.Name x pos :: es) (some (0, i)) (faLend i g) := by
  obtain ⟨ta, p2, s2⟩ := h2.ex
  refine ⟨_, pa_cons (pe_var hN hv hd hcd) p2 hs, fun σ S G H r ts S' h Q q => ?_⟩
  unfold faLend at h
  split at h
  case h_2 => cases h
  rename_i t0 hS0
  split at h
  case h_2 => cases h
  rename_i ts2 S2 e2
  split at h
  case h_2 => cases h
  rename_i t S3 e3
  obtain ⟨rfl, rfl⟩ := some_pair h
  obtain ⟨v, h3, _⟩ := r.sl i _ hS0
  refine ⟨v, h3, s2 σ S G H r ts2 S2 e2 _ fun vs G2 H2 a2 => ?_⟩
  have frz : ∀ (k : Nat) (d : D), ts2[k]? ≠ some (true, d) := fun k d hk => by
    obtain ⟨j, hj⟩ := a2.own k d hk
    cases hj
  unfold fTake at e3
  split at e3
  · rename_i d hS
    obtain ⟨rfl, rfl⟩ := some_pair e3
    obtain ⟨v', h4, h5⟩ := a2.step.st.sl i _ hS
    rw [h3] at h4
    cases h4
    refine q (v :: vs) G2 H2 ⟨a2.step, by simp [a2.len], fun k u hk => ?_, fun k d hk => ?_, fun k j hk => ?_⟩
    · cases k with
      | zero => cases hk; exact ⟨v, rfl, h5⟩
      | succ k => exact a2.sl k u (by simpa using hk)
    · cases k with
      | zero => simp at hk
      | succ k => exact (frz k d (by simpa using hk)).elim
    · cases hk
      exact ⟨v, h3, rfl, fun d hd => by simp at hd⟩
  · rename_i d hS
    obtain ⟨rfl, rfl⟩ := some_pair e3
    obtain ⟨v', h4, a3⟩ := a2.step.st.take hS
    rw [h3] at h4
    cases h4
    refine q (v :: vs) G2 H2 ⟨a2.step.trans a3.step, by simp [a2.len], fun k u hk => ?_, fun k d hk => ?_, fun k j hk => ?_⟩
    · cases k with
      | zero => cases hk; exact ⟨v, rfl, a3.rel⟩
      | succ k => exact a2.sl k u (by simpa using hk)
    · cases k with
      | zero => exact ⟨i, rfl⟩
      | succ k => exact (frz k d (by simpa using hk)).elim
    · cases hk
      exact ⟨v, h3, rfl, fun d' hd => ⟨fun p e => (a3.new rfl p e).1, a2.step.sow i d hS⟩⟩
  · cases e3
/-- f(..) -/
def giveB (ls : Option (Nat × Nat)) (ps : List (Option T)) (S : VSt) : VSt := match ls with
  | none => S
  | some (k, i) => match ps[k]? with
    | some (some u) => S.set i (some u)
    | _ => S
def fCall (F : Fn) (ls : Option (Nat × Nat)) (fa : FA) : FE := fun S => match fa S with
  | some (ts, S1) => match F ts with
    | some (t, ps) => some (t, giveB ls ps S1)
    | none => none
  | none => none
theorem call_sim {K : PySem.W.Frag} {ta : TA} {ls : Option (Nat × Nat)} {fa : FA} {n : Nat} {F : Fn} {E : XK} (s : SimAr K ta ls fa) (hn : ∀ ts r, F ts = some r → ts.length = n) : SimE K (tCall (spF K n F) [] E ta) (fCall F ls fa) := by
  intro σ S G H r t S' h Q q
  unfold fCall at h
  split at h
  · rename_i ts S1 e1
    split at h
    · rename_i t' ps e2
      obtain ⟨rfl, rfl⟩ := some_pair h
      refine s σ S G H r ts S1 e1 _ fun vs G1 H1 a1 => ?_
      rw [List.append_nil]
      refine ⟨a1.len.trans (hn ts _ e2), G1, ts, t', ps, a1.step.st.gh, ⟨a1.len, a1.sl, fun j k d e v h1 h2 _ _ => ?_⟩, e2, fun v G2 H2 c => ?_⟩
      · obtain ⟨i1, z1⟩ := a1.own j d h1
        obtain ⟨i2, z2⟩ := a1.own k e h2
        rw [z1] at z2
        cases z2
        rfl
      · -- behind the call
        have ownA : ∀ p, OwnA vs ts p → ¬ Own σ S1 p ∧ Own σ S p := fun p ⟨k, d, h1, h2⟩ => by
          obtain ⟨i, z⟩ := a1.own k d h1
          obtain ⟨v0, h3, h4, h5⟩ := a1.src k i z
          rw [h4] at h2
          cases h2
          obtain ⟨h6, e6, h7⟩ := h5 d h1
          exact ⟨h6 p rfl, ⟨i, e6, h7, h3⟩⟩
        have st1 : StRel K G2 H2 σ S1 := ⟨a1.step.st.len, c.gh, fun i u hu => by
          obtain ⟨v0, h1, h2⟩ := a1.step.st.sl i u hu
          refine ⟨v0, h1, h2.over c.ext fun z p e hA => (ownA p hA).1 ⟨i, u.2, ?_, by rw [h1, e]⟩⟩
          rw [hu, ← z], a1.step.st.inj⟩
        have ext : Ext (Own σ S) G H G2 H2 := a1.step.ext.trans c.ext fun p hA => .inl (ownA p hA).2
        have nw : t'.1 = true → ∀ p, v = .ref p → ¬ Own σ S1 p ∧ (Own σ S p ∨ H p = none) := fun ht p e => by
          rcases c.new ht p e with hA | hN
          · exact ⟨(ownA p hA).1, .inl (ownA p hA).2⟩
          · refine ⟨fun z => ?_, a1.step.new (.inr hN)⟩
            obtain ⟨u, hu⟩ := (a1.step.st.own z).2
            rw [hN] at hu
            cases hu
        have base : Post K σ S G H v t' S1 G2 H2 := ⟨⟨ext, st1, a1.step.sow⟩, c.rel, nw⟩
        cases ls with
        | none => exact q v G2 H2 base
        | some z =>
          obtain ⟨k, i⟩ := z
          cases hp : ps[k]? with
          | none => simp only [giveB, hp] at q; exact q v G2 H2 base
          | some o =>
            cases o with
            | none => simp only [giveB, hp] at q; exact q v G2 H2 base
            | some u =>
              simp only [giveB, hp] at q
              obtain ⟨v0, h3, h4, h5⟩ := a1.src k i rfl
              obtain ⟨w0, h6, h7⟩ := c.back k u hp
              rw [h4] at h6
              cases h6
              have ub : u.1 = true → ∃ e, ts[k]? = some (true, e) := fun hu => c.bown k u.2 (by rw [hp, ← hu])
              have noown : u.1 = true → ∀ p, v0 = .ref p → ¬ Own σ S1 p := fun hu p e => by
                obtain ⟨e', he⟩ := ub hu
                exact (h5 e' he).1 p e
              refine q v G2 H2 ⟨⟨ext, st1.give h3 h7 fun hu p e j d hj hS hσ => noown hu p e ⟨j, d, hS, hσ⟩, fun j d hj => ?_⟩, c.rel, fun ht p e => ⟨fun z => ?_, (nw ht p e).2⟩⟩
              · rcases getElem?_set' hj with ⟨y1, y2⟩ | ⟨_, y⟩
                · subst y1
                  have y3 := Option.some.inj y2
                  obtain ⟨e', he⟩ := ub (by rw [y3])
                  exact (h5 e' he).2
                · exact a1.step.sow j d y
              · obtain ⟨j, d, g1, g2⟩ := z
                rcases getElem?_set' g1 with ⟨y1, y2⟩ | ⟨_, y⟩
                · subst y1
                  have y3 := Option.some.inj y2
                  rw [h3] at g2
                  cases g2
                  exact c.dist ht p e k d (by rw [hp, y3]) h4
                · exact (nw ht p e).1 ⟨j, d, y, g2⟩
    · cases h
  · cases h
theorem ve_call {x : Str} {p pos : Pos} {n k : Nat} {F : Fn} {f : Addr} {fd : FuncData} {ps : List Str} {ls : Option (Nat × Nat)} {fa : FA} (G : FnG X.prog X.w X.K X.mg X.base k f fd ps (spF X.K n F)) (hr : RG k X.A) (hm : X.mg x = some (.ref f)) (hk : PySem.W.keepIn X.K (.ref f) = true) (hb : Binds X.K fd ps [])
    (hn : ∀ ts r, F ts = some r → ts.length = n) (ha : VAr X (e :: es) ls fa) (hg : Gl X x := by rfl) (hdb : (x == ("__debug__" : Str)) = false := by decide) (he : starEach (e :: es) X.env = (false, eval e X.env) :: starEach es X.env := by rfl) (hpl : (backTo pos (starEach es X.env)).any (·.1) = false := by rfl) :
    VE X (.Call (.Name x p) (e :: es) [] pos) (fCall F ls fa) := by
  obtain ⟨ta, pa, s⟩ := ha.ex
  exact ⟨_, pe_callG G hr hg hm hk hb pa hdb he hpl, call_sim (E := fun _ _ _ => False) s hn⟩
theorem ve_call0 {x : Str} {p pos : Pos} {k : Nat} {F : Fn} {f : Addr} {fd : FuncData} {ps : List Str} (G : FnG X.prog X.w X.K X.mg X.base k f fd ps (spF X.K 0 F)) (hr : RG k X.A) (hm : X.mg x = some (.ref f)) (hk : PySem.W.keepIn X.K (.ref f) = true) (hb : Binds X.K fd ps [])
    (hn : ∀ ts r, F ts = some r → ts.length = 0) (hg : Gl X x := by rfl) (hdb : (x == ("__debug__" : Str)) = false := by decide) : VE X (.Call (.Name x p) [] [] pos) (fCall F none faNil) := by
  obtain ⟨ta, pa, s⟩ := (var_nil (X := X)).ex
  refine ⟨_, pe_callG0 G hr hg hm hk hb hdb, call_sim (E := fun _ _ _ => False) (fun σ S G H r ds S' h Q q => ?_) hn⟩
  cases h
  exact q [] G H ⟨.refl r, rfl, fun k t h => by simp at h, fun k d h => by simp at h, fun k i h => nomatch h⟩
end
end VL

set_option Elab.async false
set_option linter.all false
set_option maxRecDepth 100000
set_option maxHeartbeats 1000000
/-! VL10: built-in functions. -/
namespace VL
open PySem PySem.Spec PyProof.Rows L2

def intL : List D → Option (List Int)
  | [] => some []
  | .int i :: ds => match intL ds with
    | some ns => some (i :: ns)
    | none => none
  | _ => none
def blL : List D → Option (List Bool)
  | [] => some []
  | .bl i :: ds => match blL ds with
    | some ns => some (i :: ns)
    | none => none
  | _ => none
def insI (a : Int) : List Int → List Int
  | [] => [a]
  | b :: r => if a ≤ b then a :: b :: r else b :: insI a r
def sortI : List Int → List Int
  | [] => []
  | a :: r => insI a (sortI r)
def maxI : List Int → Option Int
  | [] => none
  | a :: r => match maxI r with
    | some m => some (if a < m then m else a)
    | none => some a
def minI : List Int → Option Int
  | [] => none
  | a :: r => match minI r with
    | some m => some (if m < a then m else a)
    | none => some a
def gLen : List D → Option T
  | [.lst ds] => tI ds.length
  | [.tup ds] => tI ds.length
  | [.scr ns] => tI ns.length
  | [.str s] => if s.length ≤ SL then tI s.length else none
  | _ => none
def gInt : List D → Option T
  | [.int i] => tI i
  | [.bl b] => tI (if b then 1 else 0)
  | _ => none
def gAbs : List D → Option T
  | [.int i] => tI (if i < 0 then -i else i)
  | _ => none
def gMax2 : List D → Option T
  | [.int i, .int j] => tI (if j > i then j else i)
  | _ => none
def gMin2 : List D → Option T
  | [.int i, .int j] => tI (if j < i then j else i)
  | _ => none
def gList : List D → Option T
  | [.lst ds] => some (true, .lst ds)
  | [.tup ds] => some (true, .lst ds)
  | _ => none
def gTuple : List D → Option T
  | [.lst ds] => tS (.tup ds)
  | _ => none
def gSum : List D → Option T
  | [.lst ds] => match intL ds with
    | some ns => tI ns.sum
    | none => none
  | _ => none
def gAll : List D → Option T
  | [.lst ds] => match blL ds with
    | some ns => tB (ns.all id)
    | none => none
  | _ => none
def gAny : List D → Option T
  | [.lst ds] => match blL ds with
    | some ns => tB (ns.any id)
    | none => none
  | _ => none
def gSorted : List D → Option T
  | [.lst ds] => match intL ds with
    | some ns => some (true, .lst ((sortI ns).map .int))
    | none => none
  | _ => none
def gMax1 : List D → Option T
  | [.lst ds] => match intL ds with
    | some ns => match maxI ns with
      | some m => tI m
      | none => none
    | none => none
  | _ => none
def gMin1 : List D → Option T
  | [.lst ds] => match intL ds with
    | some ns => match minI ns with
      | some m => tI m
      | none => none
    | none => none
  | _ => none
def tyN : D → Option String
  | .non => some "NoneType"
  | .bl _ => some "bool"
  | .int _ => some "int"
  | .str _ => some "str"
  | .lst _ => some "list"
  | .tup _ => some "tuple"
  | _ => none
def gIsi : List D → Option T
  | [d, .ty n] => match tyN d with
    | some t => match kitB t n with
      | some b => tB b
      | none => none
    | none => none
  | _ => none
section
variable {K : PySem.W.Frag} {G H : Hp}
theorem RRels.one {vs : List V} {d : D} (h : RRels K G H vs [d]) : ∃ v, vs = [v] ∧ RRel K G H v d := by
  cases h with
  | cons h t => cases t; exact ⟨_, rfl, h⟩
theorem RRels.two {vs : List V} {d e : D} (h : RRels K G H vs [d, e]) : ∃ v w, vs = [v, w] ∧ RRel K G H v d ∧ RRel K G H w e := by
  cases h with
  | cons h t =>
    cases t with
    | cons h2 t2 => cases t2; exact ⟨_, _, rfl, h, h2⟩
theorem DRels.ints : ∀ {vs : List V} {ds : List D}, DRels K G vs ds → ∀ {ns : List Int}, intL ds = some ns → vs = ns.map V.int
  | _, _, .nil, ns, h => by cases h; rfl
  | _, _, .cons (d := d) hd tl, ns, h => by
    cases d with
    | int i =>
      unfold intL at h
      split at h
      · rename_i ns' e
        cases h
        cases hd
        rw [DRels.ints tl e]
        rfl
      · cases h
    | _ => simp [intL] at h
theorem DRels.bls : ∀ {vs : List V} {ds : List D}, DRels K G vs ds → ∀ {ns : List Bool}, blL ds = some ns → vs = ns.map V.bl
  | _, _, .nil, ns, h => by cases h; rfl
  | _, _, .cons (d := d) hd tl, ns, h => by
    cases d with
    | bl i =>
      unfold blL at h
      split at h
      · rename_i ns' e
        cases h
        cases hd
        rw [DRels.bls tl e]
        rfl
      · cases h
    | _ => simp [blL] at h
theorem drels_ints : ∀ ns : List Int, DRels K G (ns.map V.int) (ns.map D.int)
  | [] => .nil
  | n :: ns => .cons (.int n) (drels_ints ns)
theorem insI_perm (a : Int) : ∀ l : List Int, (insI a l).Perm (a :: l)
  | [] => List.Perm.refl _
  | b :: r => by
    unfold insI
    split
    · exact List.Perm.refl _
    · exact ((insI_perm a r).cons b).trans (List.Perm.swap a b r)
theorem sortI_perm : ∀ l : List Int, (sortI l).Perm l
  | [] => List.Perm.refl _
  | a :: r => (insI_perm a _).trans ((sortI_perm r).cons a)
theorem insI_sorted (a : Int) : ∀ {l : List Int}, l.Pairwise (· ≤ ·) → (insI a l).Pairwise (· ≤ ·)
  | [], _ => by simp [insI]
  | b :: r, h => by
    unfold insI
    obtain ⟨h1, h2⟩ := List.pairwise_cons.mp h
    split
    · rename_i hab
      refine List.pairwise_cons.mpr ⟨fun c hc => ?_, h⟩
      rcases List.mem_cons.mp hc with e | e
      · omega
      · have := h1 c e; omega
    · rename_i hab
      refine List.pairwise_cons.mpr ⟨fun c hc => ?_, insI_sorted a h2⟩
      rcases List.mem_cons.mp ((insI_perm a r).mem_iff.mp hc) with e | e
      · omega
      · exact h1 c e
theorem sortI_sorted : ∀ l : List Int, (sortI l).Pairwise (· ≤ ·)
  | [] => List.Pairwise.nil
  | a :: r => insI_sorted a (sortI_sorted r)
theorem sorted_unique : ∀ {l m : List Int}, l.Perm m → l.Pairwise (· ≤ ·) → m.Pairwise (· ≤ ·) → l = m
  | l, m, p, h1, h2 => List.Perm.eq_of_pairwise (fun a b _ _ x y => by omega) h1 h2 p
theorem maxI_mem : ∀ {l : List Int} {m : Int}, maxI l = some m → m ∈ l ∧ ∀ a ∈ l, a ≤ m
  | [], _, h => nomatch h
  | a :: r, m, h => by
    unfold maxI at h
    split at h
    · rename_i m' e
      obtain ⟨h1, h2⟩ := maxI_mem e
      cases h
      split
      · exact ⟨List.mem_cons_of_mem _ h1, fun b hb => by rcases List.mem_cons.mp hb with e | e; · omega
                                                         · exact h2 b e⟩
      · refine ⟨List.mem_cons_self, fun b hb => ?_⟩
        rcases List.mem_cons.mp hb with e | e
        · omega
        · have := h2 b e; omega
    · rename_i e
      cases h
      cases r with
      | nil => exact ⟨List.mem_cons_self, fun b hb => by simp at hb; omega⟩
      | cons b r => unfold maxI at e; split at e <;> cases e
theorem minI_mem : ∀ {l : List Int} {m : Int}, minI l = some m → m ∈ l ∧ ∀ a ∈ l, m ≤ a
  | [], _, h => nomatch h
  | a :: r, m, h => by
    unfold minI at h
    split at h
    · rename_i m' e
      obtain ⟨h1, h2⟩ := minI_mem e
      cases h
      split
      · exact ⟨List.mem_cons_of_mem _ h1, fun b hb => by rcases List.mem_cons.mp hb with e | e; · omega
                                                         · exact h2 b e⟩
      · refine ⟨List.mem_cons_self, fun b hb => ?_⟩
        rcases List.mem_cons.mp hb with e | e
        · omega
        · have := h2 b e; omega
    · rename_i e
      cases h
      cases r with
      | nil => exact ⟨List.mem_cons_self, fun b hb => by simp at hb; omega⟩
      | cons b r => unfold minI at e; split at e <;> cases e
end
section
variable {K : PySem.W.Frag} {X : Cx}
theorem simc_len : SimC K (fun xs H Q => ∃ x n, xs = [x] ∧ LenV K x H n ∧ Q (.int n) H) gLen := by
  intro G H vs ds t gh r h Q q
  unfold gLen at h
  split at h
  · cases h
    obtain ⟨v, rfl, rv⟩ := r.one
    obtain ⟨p, ws, rfl, h1, h2, h3⟩ := rv.lst gh
    exact ⟨_, _, rfl, .inl ⟨ws, SqL.of h1, rfl⟩, by rw [h3.length]; exact q _ _ _ (.pure gh (.int _))⟩
  · cases h
    obtain ⟨v, rfl, rv⟩ := r.one
    obtain ⟨p, ws, rfl, h1, h2, h3⟩ := rv.tup gh
    exact ⟨_, _, rfl, .inr ⟨ws, SqT.of h1, rfl⟩, by rw [h3.length]; exact q _ _ _ (.pure gh (.int _))⟩
  · cases h
    obtain ⟨v, rfl, rv⟩ := r.one
    obtain ⟨p, rfl, h1⟩ := rv.scr gh
    exact ⟨_, _, rfl, .inl ⟨_, h1, rfl⟩, by rw [List.length_map]; exact q _ _ _ (.pure gh (.int _))⟩
  · split at h
    · rename_i hz
      cases h
      obtain ⟨v, rfl, rv⟩ := r.one
      have e := rv.str
      subst e
      exact ⟨_, _, rfl, ⟨SL_le hz, rfl⟩, q _ _ _ (.pure gh (.int _))⟩
    · cases h
  · cases h
theorem simc_int : SimC K (fun xs H Q => (∃ i, xs = [.int i] ∧ Q (.int i) H) ∨ ∃ k, xs = [.bl k] ∧ Q (.int (if k then 1 else 0)) H) gInt := by
  intro G H vs ds t gh r h Q q
  unfold gInt at h
  split at h
  · cases h
    obtain ⟨v, rfl, rv⟩ := r.one
    exact .inl ⟨_, by rw [rv.int], q _ _ _ (.pure gh (.int _))⟩
  · cases h
    obtain ⟨v, rfl, rv⟩ := r.one
    exact .inr ⟨_, by rw [rv.bl], q _ _ _ (.pure gh (.int _))⟩
  · cases h
theorem simc_abs : SimC K (fun xs H Q => ∃ i, xs = [.int i] ∧ Q (.int (if i < 0 then -i else i)) H) gAbs := by
  intro G H vs ds t gh r h Q q
  unfold gAbs at h
  split at h
  · cases h
    obtain ⟨v, rfl, rv⟩ := r.one
    exact ⟨_, by rw [rv.int], q _ _ _ (.pure gh (.int _))⟩
  · cases h
theorem simc_max2 : SimC K (fun xs H Q => ∃ i j, xs = [.int i, .int j] ∧ Q (.int (if j > i then j else i)) H) gMax2 := by
  intro G H vs ds t gh r h Q q
  unfold gMax2 at h
  split at h
  · cases h
    obtain ⟨v, w, rfl, rv, rw'⟩ := r.two
    exact ⟨_, _, by rw [rv.int, rw'.int], q _ _ _ (.pure gh (.int _))⟩
  · cases h
theorem simc_min2 : SimC K (fun xs H Q => ∃ i j, xs = [.int i, .int j] ∧ Q (.int (if j < i then j else i)) H) gMin2 := by
  intro G H vs ds t gh r h Q q
  unfold gMin2 at h
  split at h
  · cases h
    obtain ⟨v, w, rfl, rv, rw'⟩ := r.two
    exact ⟨_, _, by rw [rv.int, rw'.int], q _ _ _ (.pure gh (.int _))⟩
  · cases h
theorem simc_list : SimC K (fun xs H Q => ∃ p ys, xs = [.ref p] ∧ (SqL K H p ys ∨ SqT K H p ys) ∧ ∀ l, H l = none → Q (.ref l) (upd H l (.lst ys))) gList := by
  intro G H vs ds t gh r h Q q
  unfold gList at h
  split at h
  · cases h
    obtain ⟨v, rfl, rv⟩ := r.one
    obtain ⟨p, ws, rfl, h1, h2, h3⟩ := rv.lst gh
    exact ⟨_, _, rfl, .inl (SqL.of h1), fun l hl => q _ _ _ (.fresh gh hl ⟨_, upd_same, h2, h3⟩)⟩
  · cases h
    obtain ⟨v, rfl, rv⟩ := r.one
    obtain ⟨p, ws, rfl, h1, h2, h3⟩ := rv.tup gh
    exact ⟨_, _, rfl, .inr (SqT.of h1), fun l hl => q _ _ _ (.fresh gh hl ⟨_, upd_same, h2, h3⟩)⟩
  · cases h
theorem simc_tuple : SimC K (fun xs H Q => ∃ p ys, xs = [.ref p] ∧ ((SqL K H p ys ∧ ∀ l, H l = none → Q (.ref l) (upd H l (.tup ys))) ∨ (SqT K H p ys ∧ Q (.ref p) H))) gTuple := by
  intro G H vs ds t gh r h Q q
  unfold gTuple at h
  split at h
  · cases h
    obtain ⟨v, rfl, rv⟩ := r.one
    obtain ⟨p, ws, rfl, h1, h2, h3⟩ := rv.lst gh
    exact ⟨_, _, rfl, .inl ⟨SqL.of h1, fun l hl => q _ _ _ (.freshSh gh hl (.tup upd_same h2 (h3.mono (same_upd (gh.free hl)))))⟩⟩
  · cases h
theorem intsOf {ds : List D} {f : List Int → Option T} {t : T} (h : (match intL ds with
    | some ns => f ns
    | none => none) = some t) : ∃ ns, intL ds = some ns ∧ f ns = some t := by
  split at h
  · exact ⟨_, by assumption, h⟩
  · cases h
theorem simc_sum : SimC K (rSum K) gSum := by
  intro G H vs ds t gh r h Q q
  unfold gSum at h
  split at h
  · rename_i ds
    split at h
    · rename_i ns e
      cases h
      obtain ⟨v, rfl, rv⟩ := r.one
      obtain ⟨p, ws, rfl, h1, h2, h3⟩ := rv.lst gh
      exact ⟨p, ns, rfl, by rw [← h3.ints e]; exact SqL.of h1, q _ _ _ (.pure gh (.int _))⟩
    · cases h
  · cases h
theorem simc_all : SimC K (rAll K) gAll := by
  intro G H vs ds t gh r h Q q
  unfold gAll at h
  split at h
  · rename_i ds
    split at h
    · rename_i ns e
      cases h
      obtain ⟨v, rfl, rv⟩ := r.one
      obtain ⟨p, ws, rfl, h1, h2, h3⟩ := rv.lst gh
      exact ⟨p, ns, rfl, by rw [← h3.bls e]; exact SqL.of h1, q _ _ _ (.pure gh (.bl _))⟩
    · cases h
  · cases h
theorem simc_any : SimC K (rAny K) gAny := by
  intro G H vs ds t gh r h Q q
  unfold gAny at h
  split at h
  · rename_i ds
    split at h
    · rename_i ns e
      cases h
      obtain ⟨v, rfl, rv⟩ := r.one
      obtain ⟨p, ws, rfl, h1, h2, h3⟩ := rv.lst gh
      exact ⟨p, ns, rfl, by rw [← h3.bls e]; exact SqL.of h1, q _ _ _ (.pure gh (.bl _))⟩
    · cases h
  · cases h
theorem simc_sorted : SimC K (rSortedI K) gSorted := by
  intro G H vs ds t gh r h Q q
  unfold gSorted at h
  split at h
  · rename_i ds
    split at h
    · rename_i ns e
      cases h
      obtain ⟨v, rfl, rv⟩ := r.one
      obtain ⟨p, ws, rfl, h1, h2, h3⟩ := rv.lst gh
      have ew := h3.ints e
      subst ew
      refine ⟨p, ns, rfl, SqL.of h1, fun ns' l hp hs hl => ?_⟩
      have e2 : ns' = sortI ns := sorted_unique (hp.trans (sortI_perm ns).symm) hs (sortI_sorted ns)
      subst e2
      refine q _ _ _ (.fresh gh hl ⟨_, upd_same, ?_, drels_ints _⟩)
      rw [List.length_map] at h2 ⊢
      rw [hp.length_eq]
      exact h2
    · cases h
  · cases h
theorem simc_max1 : SimC K (rMax K) gMax1 := by
  intro G H vs ds t gh r h Q q
  unfold gMax1 at h
  split at h
  · rename_i ds
    split at h
    · rename_i ns e
      split at h
      · rename_i m em
        cases h
        obtain ⟨v, rfl, rv⟩ := r.one
        obtain ⟨p, ws, rfl, h1, h2, h3⟩ := rv.lst gh
        obtain ⟨m1, m2⟩ := maxI_mem em
        refine ⟨p, ns, rfl, by rw [← h3.ints e]; exact SqL.of h1, List.length_pos_of_mem m1, fun m' k1 k2 => ?_⟩
        have : m' = m := by have := m2 m' k1; have := k2 m m1; omega
        subst this
        exact q _ _ _ (.pure gh (.int _))
      · cases h
    · cases h
  · cases h
theorem simc_min1 : SimC K (rMin K) gMin1 := by
  intro G H vs ds t gh r h Q q
  unfold gMin1 at h
  split at h
  · rename_i ds
    split at h
    · rename_i ns e
      split at h
      · rename_i m em
        cases h
        obtain ⟨v, rfl, rv⟩ := r.one
        obtain ⟨p, ws, rfl, h1, h2, h3⟩ := rv.lst gh
        obtain ⟨m1, m2⟩ := minI_mem em
        refine ⟨p, ns, rfl, by rw [← h3.ints e]; exact SqL.of h1, List.length_pos_of_mem m1, fun m' k1 k2 => ?_⟩
        have : m' = m := by have := m2 m' k1; have := k2 m m1; omega
        subst this
        exact q _ _ _ (.pure gh (.int _))
      · cases h
    · cases h
  · cases h
theorem RRel.tyX {G H : Hp} {v : V} {d : D} {n : String} (gh : Same G H) (r : RRel K G H v d) (h : tyN d = some n) : TyX K H v (.type n) := by
  cases d with
  | non => cases h; rw [r.non]; exact .base .non
  | bl b => cases h; rw [r.bl]; exact .base (.bl b)
  | int b => cases h; rw [r.int]; exact .base (.int b)
  | str b => cases h; rw [r.str]; exact .base (.str b)
  | lst ds => cases h; obtain ⟨p, ws, rfl, h1, _⟩ := r.lst gh; exact .base (.lst h1)
  | tup ds => cases h; obtain ⟨p, ws, rfl, h1, _⟩ := r.tup gh; exact .base (.tup h1)
  | _ => cases h
theorem RRel.ty {G H : Hp} {v : V} {n : String} (r : RRel K G H v (.ty n)) : v = .ty n := by
  rcases r with r | ⟨p, _, c⟩
  · cases r; rfl
  · exact c.elim
theorem simc_isi : SimC K (rIsi K) gIsi := by
  intro G H vs ds t gh r h Q q
  unfold gIsi at h
  split at h
  · rename_i d n
    split at h
    · rename_i tn e1
      split at h
      · rename_i b e2
        cases h
        obtain ⟨v, w, rfl, rv, rw'⟩ := r.two
        have ew := rw'.ty
        subst ew
        exact ⟨v, .ty n, .type tn, .type n, b, rfl, .ty n, rv.tyX gh e1, kit_ty e2, q _ _ _ (.pure gh (.bl _))⟩
      · cases h
    · cases h
  · cases h
theorem ve_ty {x : Str} {n : String} {pos : Pos} (hm : X.mg x = none) (hv : bootBuiltins x = some (.type n)) (hg : Gl X x := by rfl) (hn : x ≠ "__name__" := by decide) (hd : (x == ("__debug__" : Str)) = false := by decide) : VE X (.Name x pos) (fC (.ty n)) :=
  ve_const (pe_bltn (v := .ty n) hg hm hv rfl hn hd) (fun _ _ _ => rfl) fun _ => .ty n
/-- a constant of the module's top -/
theorem ve_glob {x : Str} {d : D} {v : V} {u : Value} {pos : Pos} (hm : X.mg x = some u) (r : RelV v u) (h : ∀ G, DRel X.K G v d) (hg : Gl X x := by rfl) (hd : (x == ("__debug__" : Str)) = false := by decide) : VE X (.Name x pos) (fC d) :=
  ve_const (pe_glob hg hm r hd) (fun _ _ _ => rfl) h
/-! list(range(..)) -/
def fLRg (f : FI) : FE := fun S => match f S with
  | some (ds, S1) => if ds.length ≤ SL then some ((true, .lst ds), S1) else none
  | none => none
theorem drels_rg {G : Hp} {a b : Int} : DRels K G (rgV a b) ((List.range (b - a).toNat).map fun i => D.int (a + (i : Nat))) := by
  unfold rgV
  generalize (List.range (b - a).toNat) = l
  induction l with
  | nil => exact .nil
  | cons x r ih => exact .cons (.int _) ih
theorem rg_post {G1 H1 : Hp} {a b : Int} {p : Addr} (gh : Same G1 H1) (hp : H1 p = none) (hz : (b - a).toNat ≤ SL) : OpPost K G1 H1 (.ref p) (true, .lst ((List.range (b - a).toNat).map fun i => D.int (a + (i : Nat)))) G1 (upd H1 p (.lst (rgV a b))) :=
  .fresh gh hp ⟨_, upd_same, by rw [rgV_length]; exact SL_le hz, drels_rg⟩
theorem ve_listRg1 {e : Expr} {f : FO} {p p2 pos pos2 : Pos} (hc : X.calm = true) (hml : X.mg "list" = none) (hm : X.mg "range" = none) (h : VO X e f) (hgl : Gl X "list" := by rfl) (hg : Gl X "range" := by rfl)
    (na : starEach [e] X.env = (false, eval e X.env) :: starEach [] X.env := by rfl) (nb : starEach [Expr.Call (.Name "range" p2) [e] [] pos2] X.env = (false, eval (.Call (.Name "range" p2) [e] [] pos2) X.env) :: starEach [] X.env := by rfl) :
    VE X (.Call (.Name "list" p) [.Call (.Name "range" p2) [e] [] pos2] [] pos) (fLRg (fiRng1 f)) := by
  obtain ⟨te, pp, s⟩ := h.ex
  refine ⟨_, pe_listRg hc hgl hml (prg_1 hg hm pp na) nb, fun σ S G H r t S' ho Q q => ?_⟩
  unfold fLRg fiRng1 at ho
  split at ho
  · rename_i ds S2 e0
    split at ho
    · rename_i hz
      obtain ⟨rfl, rfl⟩ := some_pair ho
      split at e0
      · rename_i o S1 e1
        split at e0
        · rename_i n e2
          split at e0
          · rename_i hcn
            obtain ⟨rfl, rfl⟩ := some_pair e0
            simp only [okRg, Bool.and_eq_true, decide_eq_true_eq] at hcn
            rw [List.length_map, List.length_range] at hz
            refine s σ S G H r o S1 e1 _ fun v G1 H1 a1 => ?_
            refine ⟨n, (a1.rd e2).int, ⟨by decide, by decide, hcn.1, hcn.2, by rw [Int.sub_zero]; exact hz⟩, fun p hp => ?_⟩
            have o := rg_post (K := X.K) (a := 0) (b := n) a1.step.st.gh hp (by rw [Int.sub_zero]; exact hz)
            rw [Int.sub_zero] at o
            exact q _ _ _ (a1.step.post (o.post a1.step.st))
          · cases e0
        · cases e0
      · cases e0
    · cases ho
  · cases ho
theorem ve_listRg2 {e e2 : Expr} {f g : FO} {p p2 pos pos2 : Pos} (hc : X.calm = true) (hml : X.mg "list" = none) (hm : X.mg "range" = none) (h : VO X e f) (h' : VO X e2 g) (hgl : Gl X "list" := by rfl) (hg : Gl X "range" := by rfl)
    (na : starEach [e, e2] X.env = (false, eval e X.env) :: starEach [e2] X.env := by rfl) (na2 : starEach [e2] X.env = (false, eval e2 X.env) :: starEach [] X.env := by rfl) (hp : (backTo pos2 (starEach [e2] X.env)).any (·.1) = false := by rfl)
    (nb : starEach [Expr.Call (.Name "range" p2) [e, e2] [] pos2] X.env = (false, eval (.Call (.Name "range" p2) [e, e2] [] pos2) X.env) :: starEach [] X.env := by rfl) :
    VE X (.Call (.Name "list" p) [.Call (.Name "range" p2) [e, e2] [] pos2] [] pos) (fLRg (fiRng2 f g)) := by
  obtain ⟨te, pp, s⟩ := h.ex
  obtain ⟨te', pp', s'⟩ := h'.ex
  refine ⟨_, pe_listRg hc hgl hml (prg_2 hg hm pp pp' na na2 hp) nb, fun σ S G H r t S' ho Q q => ?_⟩
  unfold fLRg fiRng2 at ho
  split at ho
  · rename_i ds S2 e0
    split at ho
    · rename_i hz
      obtain ⟨rfl, rfl⟩ := some_pair ho
      split at e0
      · rename_i o S1 e1
        split at e0
        · rename_i o' S3 e3
          split at e0
          · rename_i a b e4 e5
            split at e0
            · rename_i hcn
              obtain ⟨rfl, rfl⟩ := some_pair e0
              simp only [okRg, Bool.and_eq_true, decide_eq_true_eq] at hcn
              rw [List.length_map, List.length_range] at hz
              refine s σ S G H r o S1 e1 _ fun v G1 H1 a1 => ?_
              refine s' σ S1 G1 H1 a1.step.st o' S3 e3 _ fun v2 G2 H2 a2 => ?_
              have a3 := a1.over a2.step
              refine ⟨a, b, (a3.rd e4).int, (a2.rd e5).int, ⟨hcn.1.1, hcn.1.2, hcn.2.1, hcn.2.2, hz⟩, fun p hp => ?_⟩
              have o := rg_post (K := X.K) (a := a) (b := b) a2.step.st.gh hp hz
              exact q _ _ _ (a3.step.post (o.post a2.step.st))
            · cases e0
          · cases e0
        · cases e0
      · cases e0
    · cases ho
  · cases ho
end
end VL

set_option Elab.async false
set_option linter.all false
set_option maxRecDepth 100000
set_option maxHeartbeats 1000000
/-! VL11: stores of two values at once; defs by name; the row's end. -/
namespace VL
open PySem PySem.Spec PyProof.Rows L2

section
variable {kp : Kp} {K : PySem.W.Frag} {σ σ1 : St} {S S1 S2 : VSt} {G H G1 H1 G2 H2 : Hp}
theorem PostS.store {v : V} {t : T} {i : Nat} (a : PostS kp K σ S G H v t σ1 S1 G1 H1) (hi : i < σ1.length) (hk : kp i = false) : StepS kp K σ S G H (σ1.set i (some v)) (S1.set i (some t)) G1 H1 := by
  have r1 := a.step.st
  have hl : S1.length = σ1.length := r1.len
  have own' : ∀ p j d, j ≠ i → S1[j]? = some (some (true, d)) → (σ1.set i (some v))[j]? = some (some (V.ref p)) → Own σ1 S1 p := fun p j d hj h1 h2 => by
    rw [List.getElem?_set_ne (Ne.symm hj)] at h2
    exact ⟨j, d, h1, h2⟩
  refine ⟨a.step.ext, ⟨by simp [hl], r1.gh, fun j u e => ?_, fun j k d e w h1 h2 k1 k2 => ?_⟩, fun p o => ?_, fun j hj => ?_, by simp [a.step.len], fun j d hj h => (getElem?_set' h).elim (fun z => by rw [← z.1, hk] at hj; cases hj) fun z => a.step.kow j d hj z.2⟩
  · rcases getElem?_set' e with ⟨z1, z2⟩ | ⟨z1, z⟩
    · subst z1; cases z2; exact ⟨v, List.getElem?_set_self hi, a.rel⟩
    · obtain ⟨w, h1, h2⟩ := r1.sl j u z
      exact ⟨w, by rw [List.getElem?_set_ne z1]; exact h1, h2⟩
  · have key : ∀ d e w j, S1[j]? = some (some (true, e)) → j ≠ i → t = (true, d) → v = w → (σ1.set i (some v))[j]? = some (some w) → False := fun d e w j hA hj ht hv hB => by
      have tr := a.rel
      have tn := a.new
      rw [ht] at tr tn
      obtain ⟨p, ep, _⟩ := tr
      refine (tn rfl p ep).1 (own' p j e hj hA ?_)
      rw [hB, ← hv, ep]
    have vi : ∀ w, (σ1.set i (some v))[i]? = some (some w) → v = w := fun w h => by
      rw [List.getElem?_set_self hi] at h
      exact Option.some.inj (Option.some.inj h)
    rcases getElem?_set' h1 with ⟨y1, y2⟩ | ⟨y, y1⟩
    · subst y1
      rcases getElem?_set' h2 with ⟨z1, z2⟩ | ⟨z, z1⟩
      · exact z1
      · exact (key d e w k z1 (Ne.symm z) (Option.some.inj y2) (vi w k1) k2).elim
    · rcases getElem?_set' h2 with ⟨z1, z2⟩ | ⟨z, z1⟩
      · subst z1
        exact (key e d w j y1 (Ne.symm y) (Option.some.inj z2) (vi w k2) k1).elim
      · rw [List.getElem?_set_ne y] at k1
        rw [List.getElem?_set_ne z] at k2
        exact r1.inj j k d e w y1 z1 k1 k2
  · obtain ⟨j, d, h1, h2⟩ := o
    rcases getElem?_set' h1 with ⟨y1, y2⟩ | ⟨y, y1⟩
    · subst y1
      have e : v = .ref p := by
        rw [List.getElem?_set_self hi] at h2
        exact Option.some.inj (Option.some.inj h2)
      have z := Option.some.inj y2
      exact (a.new (by rw [z]) p e).2
    · exact a.step.own p (own' p j d (Ne.symm y) y1 h2)
  · have : j ≠ i := fun e => by subst e; rw [hk] at hj; cases hj
    rw [List.getElem?_set_ne (Ne.symm this)]
    exact a.step.keep j hj
/-- two values at hand, one stored: the other is at hand still -/
theorem two_store {v w : V} {t u : T} {i : Nat} (a : Post K σ S G H v t S1 G1 H1) (b : Post K σ S1 G1 H1 w u S2 G2 H2) (hi : i < σ.length) (hk : kp i = false) :
    PostS kp K σ S G H w u (σ.set i (some v)) (S2.set i (some t)) G2 H2 := by
  have a2 := a.over b.step
  refine ⟨a2.store hi hk, b.rel, fun hu p e => ⟨fun z => ?_, a.step.new (b.new hu p e).2⟩⟩
  obtain ⟨n1, n2⟩ := b.new hu p e
  obtain ⟨j, d, h1, h2⟩ := z
  rcases getElem?_set' h1 with ⟨y1, y2⟩ | ⟨y, y1⟩
  · subst y1
    rw [List.getElem?_set_self hi] at h2
    have ev : v = .ref p := Option.some.inj (Option.some.inj h2)
    have et := Option.some.inj y2
    have nv := a.new (by rw [et]) p ev
    -- v's object stood ahead of w's evaluation and no slot owned it
    rcases n2 with n2 | n2
    · exact nv.1 n2
    · have tr := a.rel
      rw [et] at tr
      obtain ⟨p', ep, _, c⟩ := tr
      rw [ev] at ep
      cases ep
      obtain ⟨o, ho⟩ := c.ex
      rw [n2] at ho
      cases ho
  · rw [List.getElem?_set_ne y] at h2
    exact n1 ⟨j, d, y1, h2⟩
end
/-- a, b = e1, e2 -/
def fPar (i j : Nat) (f g : FE) : FS := fun S => match f S with
  | some (t, S1) => match g S1 with
    | some (u, S2) => if i < S2.length ∧ j < S2.length then some (.nx ((S2.set i (some t)).set j (some u))) else none
    | none => none
  | none => none
section
variable {kp : Kp} {X : Cx}
theorem vs_par (i j : Nat) {x y : Str} {a b : Expr} {f g : FE} {px py pt : Pos} {kt k2 pt2 pos} (hc : X.calm = true) (hN : X.N.Nodup) (ha : VE X a f) (hb : VE X b g) (hki : kp i = false := by rfl) (hkj : kp j = false := by rfl) (hij : i ≠ j := by decide) (hi : X.N[i]? = some x := by rfl) (hj : X.N[j]? = some y := by rfl)
    (hx : X.env.scope.names.lookup x = some .local := by rfl) (hy : X.env.scope.names.lookup y = some .local := by rfl)
    (he : starEach [a, b] X.env = (false, eval a X.env) :: starEach [b] X.env := by rfl) (he2 : starEach [b] X.env = (false, eval b X.env) :: starEach [] X.env := by rfl)
    (hw : swappedStores [.Tuple [.Name x px, .Name y py] kt pt] (.Tuple [a, b] k2 pt2) X.env = pure (some [x, y]) := by rfl)
    (hs : swapsWithSole [.Tuple [.Name x px, .Name y py] kt pt] (.Tuple [a, b] k2 pt2) pos.line X.env = pure false := by rfl) :
    VS kp X (.Assign [.Tuple [.Name x px, .Name y py] kt pt] (.Tuple [a, b] k2 pt2) pos) (fPar i j f g) := by
  obtain ⟨ta, p, s⟩ := ha.ex
  obtain ⟨tb, p', s'⟩ := hb.ex
  refine ⟨_, ps_par hc hN hi hj hij hx hy (pa_cons p (pa_cons p' pa_nil he2) he) hw hs, fun σ S G H r o h D q => ?_⟩
  unfold fPar at h
  split at h
  · rename_i t S1 e1
    split at h
    · rename_i u S2 e2
      split at h
      · rename_i hl
        cases h
        refine s σ S G H r t S1 e1 _ fun v G1 H1 a1 => ?_
        refine s' σ S1 G1 H1 a1.step.st u S2 e2 _ fun w G2 H2 a2 => ?_
        have hlen := a2.step.st.len
        exact ⟨v, w, rfl, q _ G2 H2 ((two_store a1 a2 (by omega) hki).store (by rw [List.length_set]; omega) hkj)⟩
      · cases h
    · cases h
  · cases h
end

/-- a comprehension within a comprehension, within two -/
theorem blkOk_in {N : List Str} {sc1 scope : Scope} {cl : List (Str × Addr)} {C : Addr} {env : Env} {own : List (Str × Nat)} (sc0 : Scope) (h : blkC N (relS sc1 sc0) scope own = true) (h0 : env.scope = sc0 := by rfl) : BlkOk N (compEnvC sc1 cl C env).scope scope own := by
  subst h0
  exact blkOk_by h
theorem blkOk_in2 {N : List Str} {sc1 sc2 scope : Scope} {cl cl2 : List (Str × Addr)} {C C2 : Addr} {env : Env} {own : List (Str × Nat)} (sc0 : Scope) (h : blkC N (relS sc2 (relS sc1 sc0)) scope own = true) (h0 : env.scope = sc0 := by rfl) : BlkOk N (compEnvC sc2 cl2 C2 (compEnvC sc1 cl C env)).scope scope own := by
  subst h0
  exact blkOk_by h
/-! ### defs by their names -/
structure Def (P : Program) (w : World) (K : PySem.W.Frag) (mg : Str → Option Value) (base : Heap) (x : Str) (ps : List Str) (k n : Nat) (F : Fn) : Prop where
  ex : ∃ (f : Addr) (fd : FuncData), FnG P w K mg base k f fd ps (spF K n F) ∧ mg x = some (.ref f) ∧ PySem.W.keepIn K (.ref f) = true ∧ Binds K fd ps [] ∧ ∃ oc od osl, K.lookup f = some ⟨oc, od, .func fd, osl⟩
  len : ∀ ts r, F ts = some r → ts.length = n
theorem bodyFn_len {N n : Nat} {kp : Kp} {b : FS} {ts : List T} {r : T × List (Option T)} (h : bodyFn N n kp b ts = some r) : ts.length = n := by
  unfold bodyFn at h
  by_cases e : ts.length = n
  · exact e
  · rw [if_neg e] at h; cases h
section
variable {X : Cx} {x : Str} {p pos : Pos} {n k k' : Nat} {F : Fn} {ls : Option (Nat × Nat)} {fa : FA} {e : Expr} {es : List Expr} {ps : List Str}
theorem ve_callD (G : Def X.prog X.w X.K X.mg X.base x ps k n F) (hr : RG k' X.A) (ha : VAr X (e :: es) ls fa) (hk : k ≤ k' := by decide) (hg : Gl X x := by rfl) (hdb : (x == ("__debug__" : Str)) = false := by decide) (he : starEach (e :: es) X.env = (false, eval e X.env) :: starEach es X.env := by rfl) (hpl : (backTo pos (starEach es X.env)).any (·.1) = false := by rfl) :
    VE X (.Call (.Name x p) (e :: es) [] pos) (fCall F ls fa) := by
  obtain ⟨f, fd, ok, hm, hkp, hb, _⟩ := G.ex
  exact ve_call ok (hr.lower hk) hm hkp hb G.len ha hg hdb he hpl
theorem ve_callD0 (G : Def X.prog X.w X.K X.mg X.base x ps k 0 F) (hr : RG k' X.A) (hk : k ≤ k' := by decide) (hg : Gl X x := by rfl) (hdb : (x == ("__debug__" : Str)) = false := by decide) :
    VE X (.Call (.Name x p) [] [] pos) (fCall F none faNil) := by
  obtain ⟨f, fd, ok, hm, hkp, hb, _⟩ := G.ex
  exact ve_call0 ok (hr.lower hk) hm hkp hb G.len hg hdb
end
theorem fun_at {K : PySem.W.Frag} {x qual : Str} {st : Stmt} {f : Addr} {fd : FuncData} (F : L2.Fun K x qual st f fd) : ∃ oc od osl, K.lookup f = some ⟨oc, od, .func fd, osl⟩ := by
  obtain ⟨oc, od, kV, doc, pm, an, cdv, ct, osl, e, lk, _⟩ := F.ex
  exact ⟨oc, od, osl, lk⟩
/-- a def of the top, its promise at level k + 1 -/
theorem def_ok {P : Program} {w : World} {K : PySem.W.Frag} {mg : Str → Option Value} {base : Heap} {x : Str} {st : Stmt} {f : Addr} {fd : FuncData} {N ps : List Str} {k n : Nat} (kp : Kp) (b : FS) (F : L2.Fun K x x st f fd) (S : FnScope N ps (defScope st)) (hm : mg x = some (.ref f)) (hbi : Binds K fd ps []) (hn : ps.length = n)
    (hb : ∀ (cdv : Value) (A : Around) (outer : List Env) (s : Shared) (H : Hp) (E : XK), RG k (A.deeper (envOfC x (defScope st) s.heap.objs.size f cdv)) → VSs kp (cxOf CX0 P w K mg base N x (defScope st) f cdv A outer s H E).nox (defBody st) b) :
    Def P w K mg base x ps (k + 1) n (bodyFn N.length n kp b) :=
  ⟨⟨f, fd, fn_ok kp F S hn (fun _ => b) hb fun _ _ h => h, hm, F.kp, hbi, fun_at F⟩, fun _ _ h => bodyFn_len h⟩
theorem def_none {P : Program} {w : World} {K : PySem.W.Frag} {mg : Str → Option Value} {base : Heap} {x : Str} {f : Addr} {fd : FuncData} {ps : List Str} {k n : Nat} (hm : mg x = some (.ref f)) (hkp : PySem.W.keepIn K (.ref f) = true) (hbi : Binds K fd ps []) (lk : ∃ oc od osl, K.lookup f = some ⟨oc, od, .func fd, osl⟩) : Def P w K mg base x ps k n (fun _ => none) :=
  have no : ∀ vs H Q E, ¬ spF K n (fun _ => none) vs H Q E := fun vs H Q E h => by
    obtain ⟨_, G, ts, t, ps, _, _, e, _⟩ := h
    cases e
  ⟨⟨f, fd, ⟨fun vs H Q E h => (no vs H Q E h).elim, fun A outer s H args us vs Q E _ _ _ _ h => (no vs H Q E h).elim⟩, hm, hkp, hbi, lk⟩, fun _ _ h => nomatch h⟩
/-! ### the row's end -/
def spLaw (K : PySem.W.Frag) : Sp := fun vs H Q _ => ∃ (a : Addr) (ns : List Int), vs = [.ref a] ∧ SqL K H a (ns.map V.int) ∧ ns.length ≤ 63 ∧ ∀ H', Q (.bl true) H'
theorem fn_end {P : Program} {w : World} {K : PySem.W.Frag} {mg : Str → Option Value} {base : Heap} {k : Nat} {f : Addr} {fd : FuncData} {ps : List Str} {F : Fn} (G : FnG P w K mg base k f fd ps (spF K 1 F)) (h : ∀ ns : List Int, ns.length ≤ 63 → ∃ bs, F [(false, .scr ns)] = some ((false, .bl true), bs)) :
    FnG P w K mg base k f fd ps (spLaw K) := by
  have go : ∀ vs H Q E, spLaw K vs H Q E → spF K 1 F vs H Q E := fun vs H Q E hs => by
    obtain ⟨a, ns, rfl, hS, h63, q⟩ := hs
    obtain ⟨bs, e⟩ := h ns h63
    refine ⟨rfl, H, _, _, _, fun _ _ h => h, ⟨rfl, fun k t hk => ?_, fun j k d e v h1 _ _ _ => ?_⟩, e, fun v G' H' c => ?_⟩
    · cases k with
      | zero => cases hk; exact ⟨_, rfl, .scr hS⟩
      | succ k => simp at hk
    · cases j with
      | zero => cases h1
      | succ j => simp at h1
    · have : v = .bl true := c.rel.rd.bl
      subst this
      exact q H'
  exact ⟨fun vs H Q E z => G.len vs H Q E (go _ _ _ _ z), fun A outer s H args us vs Q E hr e0 hb hv hs => G.run A outer s H args us vs Q E hr e0 hb hv (go _ _ _ _ hs)⟩
end VL

set_option Elab.async false
set_option linter.all false
set_option maxRecDepth 100000
set_option maxHeartbeats 1000000
/-! VLE: the row's end for promises over RG. -/
namespace VL
open PySem PySem.Spec PyProof.Rows L2

/-- the end, from a tracked heap H that tells of the script alone -/
theorem endH {P : Program} {w : World} {K : PySem.W.Frag} {mg mb : Str → Option Value} {k : Nat} {fa a : Addr} {fd : FuncData} {x : Str} {s1 : Shared} {vs : List Value} {ns : List Int} {H : Hp}
    (KX : K.In s1.heap) (hm : s1.heap.Ns mainGlobals mg) (hb : s1.heap.Ns builtinsNs mb) (hbb : ∀ x : Str, x ≠ "__name__" → mb x = bootBuiltins x) (hl : s1.heap.NoLimit) (hg : s1.gens = #[])
    (ha : s1.heap.get? a = some { cls := .type "list", data := .seq vs.toArray }) (hi : ns.length ≤ 63) (hr : RG k callerA)
    (F : ∀ base : Heap, K.In base → base.Ns mainGlobals mg → FnG P w K mg base k fa fd [x] (spLaw K)) (hbind : ∀ (s : Shared) (u : Value), BindsTo s fd ⟨[u], []⟩ [(x, u)])
    (only : ∀ b, H b = none ∨ (b = a ∧ K.lookup a = none ∧ ∃ o xs, H b = some (.frz o (.lst xs)))) (hS : SqL K H a (ns.map V.int)) (ok : HOk P w H s1.heap) :
    codeAny (model P w) callerA (.call (.ref fa) ⟨[.ref a], []⟩) (fun r s' => r = .ok (.ret (.bool true)) ∧ OldK s1.heap s'.heap ∧ s'.os = s1.os ∧ AllBare s'.gens) s1 := by
  have free : ∀ {b : Addr} {o : Obj}, s1.heap.get? b = some o → (b = a → ∃ o', K.lookup a = some o') → (hidT s1.heap H).get? b = some o := fun {b o} e z => hidT_get e (by
    rcases only b with q | ⟨q, q2, _⟩
    · exact q
    · obtain ⟨o', q3⟩ := z q
      rw [q2] at q3
      cases q3)
  have space : ∀ {b : Addr} {m : Str → Option Value}, s1.heap.Ns b m → (hidT s1.heap H).Ns b m := fun {b m} ⟨o, es, ep, e, d, r⟩ => by
    refine ⟨o, es, ep, free e fun z => ?_, d, r⟩
    subst z
    rw [ha] at e
    cases e
    exact nomatch (show Data.seq vs.toArray _ = Data.dict es ep from d)
  have kin : K.In (hidT s1.heap H) := fun b o e => free (KX b o e) fun z => ⟨o, by rw [← z]; exact e⟩
  have mod : Mod K mg (hidT s1.heap H) := by
    obtain ⟨mc, l1, l2⟩ := hl
    exact ⟨kin, space hm, ⟨mb, space hb, hbb⟩, ⟨mc, space l1, l2⟩⟩
  have e0 : Env0 P w K mg (hidT s1.heap H) callerA [] s1 H := { frames := rfl, mod := mod, bs := fun b o e => of_hidT e, bsz := Nat.le_of_eq (hidT_size _ _), funs := trivial, frf := fun b hb => (List.not_mem_nil hb).elim, hok := ok, bare := .of_eq hg }
  have done := (F _ kin (space hm)).run callerA [] s1 H ⟨[.ref a], []⟩ [.ref a] [.ref a] (fun v _ => v = .bl true) (fun _ _ _ => False) hr e0 (hbind s1 (.ref a)) (.cons rfl .nil) ⟨a, ns, rfl, hS, hi, fun _ => rfl⟩
  refine codeAny_mono done fun r s' h => ?_
  cases r with
  | error e => exact False.elim h
  | ok fl =>
    cases fl with
    | next => exact False.elim h
    | brk => exact False.elim h
    | cont => exact False.elim h
    | ret u =>
      obtain ⟨v, H', os, bare, un, hok', r', q⟩ := h
      have q' : v = .bl true := q
      subst q'
      have r2 : u = Value.bool true := r'
      subst r2
      refine ⟨rfl, OldK.of_keep fun b o e => ?_, os, bare⟩
      rcases only b with z | ⟨_, _, ob, xs, z⟩
      · exact un.keep b o e z (fun y => (List.not_mem_nil (show b ∈ ([] : List Addr) from y)).elim) (by simp)
      · have e1 := (ok b _ z).1
        have e2 := (hok' b _ (un.frzs b ob _ z)).1
        rw [e] at e1
        rw [e2, e1]
/-- THE END: what k_head leaves (case hc), from the promise of the law's def -/
theorem walkVL {l : PySem.W.OpenLaw} {k : Nat} {q : Program} {loose : List Str} {XP : (Str → Option Value) → Heap → Prop} {YP : World → Heap → Prop} {d : DefRec} {K : Params → PySem.W.Frag} {x : Str} {Fl : Fn}
    (hn : l.most = some 63) (hdf : d.params.defaults = []) (hr : RG k callerA) (hY : ∀ (w : World) (h : Heap), YP w h → (K w.params).In h)
    (F : ∀ (w : World) (mg : Str → Option Value) (fa : Addr) (h : Heap), (K w.params).In h → h.Ns mainGlobals mg → mg d.name = some (.ref fa) →
      ∃ fd : FuncData, (∀ (s : Shared) (u : Value), BindsTo s fd ⟨[u], []⟩ [(x, u)]) ∧ ∀ base : Heap, (K w.params).In base → base.Ns mainGlobals mg → FnG l.prog w (K w.params) mg base k fa fd [x] (spF (K w.params) 1 Fl))
    (hF : ∀ ns : List Int, ns.length ≤ 63 → ∃ bs, Fl [(false, .scr ns)] = some ((false, .bl true), bs)) : PySem.W.WalkO q loose XP YP l.row.toRowW d [] (fun f vs => PySem.call f vs) := by
  refine Att.attach_call hn hdf fun w s₀ s1 mg mb fa o pm cd doc a vs ns G Y ho hd hcd hmg hobj hints hlen hg => ?_
  have KX := hY w _ Y
  obtain ⟨fd, hbd, hP⟩ := F w mg fa _ KX G.T.g hmg
  have hP' := fun base h1 h2 => fn_end (hP base h1 h2) hF
  have rv := vals_ints hints
  have lenV := hints.length
  cases hk : (K w.params).lookup a with
  | some o2 =>
    have e := KX a o2 hk
    rw [hobj] at e
    cases e
    exact endH (H := fun _ => none) KX G.T.g G.T.b G.T.builtins G.T.nolimit hg hobj hlen hr hP' hbd (fun _ => .inl rfl) (.inr ⟨_, vs.toArray, _, hk, rfl, rfl, rfl, by rw [List.size_toArray, lenV]; exact Nat.le_trans hlen (by decide), by simpa using rv⟩) (fun b u z => nomatch (show (none : Option HO) = some u from z))
  | none =>
    refine endH (H := fun b => if b = a then some (.frz { cls := .type "list", data := .seq vs.toArray } (.lst (ns.map V.int))) else none) KX G.T.g G.T.b G.T.builtins G.T.nolimit hg hobj hlen hr hP' hbd (fun b => ?_) (.inl (.inr ⟨_, if_pos rfl⟩)) (fun b u z => ?_)
    · by_cases z : b = a
      · exact .inr ⟨z, hk, _, _, if_pos z⟩
      · exact .inl (if_neg z)
    · by_cases y : b = a
      case neg =>
        have z' := (if_neg y).symm.trans z
        cases z'
      case pos =>
        have z' := (if_pos y).symm.trans z
        cases z'
        subst y
        exact ⟨hobj, by rw [List.length_map]; exact Nat.le_trans hlen (by decide), vs, _, rv, hobj⟩
end VL

set_option Elab.async false
set_option linter.all false
set_option maxRecDepth 100000
set_option maxHeartbeats 1000000
/-! VLK: calls of defs with keywords. -/
namespace VL
open PySem PySem.Spec PyProof.Rows L2

/-- the parameters' values by their places among the given ones -/
def pick {α : Type} (idx : List Nat) (l : List α) : List α := idx.filterMap fun i => l[i]?
def PW {α β : Type} (R : α → β → Prop) (xs : List α) (us : List β) : Prop := xs.length = us.length ∧ ∀ (k : Nat) (b : β), us[k]? = some b → ∃ a : α, xs[k]? = some a ∧ R a b
theorem pw_pick {α β : Type} {R : α → β → Prop} {xs : List α} {us : List β} (h : PW R xs us) : ∀ idx : List Nat, PW R (pick idx xs) (pick idx us)
  | [] => ⟨rfl, fun k b e => by simp [pick] at e⟩
  | i :: idx => by
    have ih := pw_pick h idx
    unfold pick at ih ⊢
    cases q : us[i]? with
    | none =>
      have q2 : xs[i]? = none := by rw [List.getElem?_eq_none_iff] at q ⊢; rw [h.1]; exact q
      rw [List.filterMap_cons_none q, List.filterMap_cons_none q2]
      exact ih
    | some b =>
      obtain ⟨a, q2, q3⟩ := h.2 i b q
      rw [List.filterMap_cons_some q, List.filterMap_cons_some q2]
      refine ⟨by simp [ih.1], fun k c e => ?_⟩
      cases k with
      | zero => simp at e; subst e; exact ⟨a, rfl, q3⟩
      | succ k => simpa using ih.2 k c (by simpa using e)
theorem pw_append {α β : Type} {R : α → β → Prop} {xs ys : List α} {us ws : List β} (h : PW R xs us) (g : PW R ys ws) : PW R (xs ++ ys) (us ++ ws) := by
  refine ⟨by simp [h.1, g.1], fun k b e => ?_⟩
  by_cases hk : k < us.length
  · rw [List.getElem?_append_left hk] at e
    rw [List.getElem?_append_left (by rw [h.1]; exact hk)]
    exact h.2 k b e
  · rw [List.getElem?_append_right (by omega)] at e
    rw [List.getElem?_append_right (by rw [h.1]; omega), h.1]
    exact g.2 _ b e
theorem vals_pick {xs : List V} {us : List Value} (r : Vals xs us) : ∀ idx : List Nat, Vals (pick idx xs) (pick idx us)
  | [] => .nil
  | i :: idx => by
    have ih := vals_pick r idx
    unfold pick at ih ⊢
    cases q : xs[i]? with
    | none =>
      rw [List.filterMap_cons_none q, List.filterMap_cons_none (r.none_of q)]
      exact ih
    | some a =>
      obtain ⟨b, q2, q3⟩ := r.get q
      rw [List.filterMap_cons_some q, List.filterMap_cons_some q2]
      exact .cons q3 ih
/-- keywords' values -/
structure VKs (X : Cx) (kws : List Keyword) (f : FA) : Prop where
  ex : ∃ tk, PK X kws tk ∧ SimAr X.K tk none f
section
variable {X : Cx} {e : Expr} {es : List Expr} {kws : List Keyword}
theorem simAr_nil {K : PySem.W.Frag} : SimAr K tNil none faNil := by
  intro σ S G H r ds S' h Q q
  cases h
  exact q [] G H ⟨.refl r, rfl, fun k t h => by simp at h, fun k d h => by simp at h, fun k i h => nomatch h⟩
theorem vks_nil : VKs X [] faNil := ⟨_, pk_nil, simAr_nil⟩
theorem simAr_cons {K : PySem.W.Frag} {te : TE} {ta : TA} {f : FE} {g : FA} (s1 : SimE K te f) (s2 : SimAr K ta none g) : SimAr K (tCons te ta) none (faCons f g) := by
  intro σ S G H r ts S' h Q q
  unfold faCons at h
  split at h
  · rename_i t S1 e1
    split at h
    · rename_i ts2 S2 e2
      obtain ⟨rfl, rfl⟩ := some_pair h
      refine s1 σ S G H r t S1 e1 _ fun v G1 H1 a1 => ?_
      obtain ⟨G1', a1'⟩ := a1.frz
      refine s2 σ S1 G1' H1 a1'.step.st ts2 S2 e2 _ fun vs G2 H2 a2 => ?_
      refine q (v :: vs) G2 H2 ⟨a1'.step.trans a2.step, by simp [a2.len], fun k u hk => ?_, fun k d hk => ?_, fun k i hk => nomatch hk⟩
      · cases k with
        | zero => cases hk; exact ⟨v, rfl, DRel.mono a2.step.ext.gg a1'.rel⟩
        | succ k => exact a2.sl k u (by simpa using hk)
      · cases k with
        | zero => simp at hk
        | succ k =>
          obtain ⟨i, hi⟩ := a2.own k d (by simpa using hk)
          cases hi
    · cases h
  · cases h
theorem vks_cons {f : FE} {g : FA} {nm : Option Str} {kp : Pos} (h1 : VE X e f) (h2 : VKs X kws g) : VKs X (⟨nm, e, kp⟩ :: kws) (faCons f g) := by
  obtain ⟨te, p1, s1⟩ := h1.ex
  obtain ⟨ta, p2, s2⟩ := h2.ex
  exact ⟨_, pk_cons p1 p2, simAr_cons s1 s2⟩
/-- f(.., k = ..): the arguments by idx -/
def pickN {α : Type} (m l : Nat) (idx : List Nat) (xs ys : List α) : List α := if xs.length = m ∧ ys.length = l then pick idx (xs ++ ys) else []
def fCallK (F : Fn) (m l : Nat) (idx : List Nat) (fa fk : FA) : FE := fun S => match fa S with
  | some (ts, S1) => match fk S1 with
    | some (us, S2) => if ts.length = m ∧ us.length = l then (match F (pick idx (ts ++ us)) with
      | some (t, _) => some (t, S2)
      | none => none) else none
    | none => none
  | none => none
theorem callK_sim {K : PySem.W.Frag} {ta tk : TA} {fa fk : FA} {n : Nat} {F : Fn} {E : XK} {m l : Nat} (idx : List Nat) (s : SimAr K ta none fa) (sk : SimAr K tk none fk) (hn : ∀ ts r, F ts = some r → ts.length = n) :
    SimE K (tCallK (spF K n F) (pickN m l idx) E ta tk) (fCallK F m l idx fa fk) := by
  intro σ S G H r t S' h Q q
  unfold fCallK at h
  split at h
  · rename_i ts S1 e1
    split at h
    · rename_i us S2 e2
      split at h
      case isFalse => cases h
      rename_i hml
      split at h
      · rename_i t' ps e3
        obtain ⟨rfl, rfl⟩ := some_pair h
        refine s σ S G H r ts S1 e1 _ fun vs G1 H1 a1 => ?_
        refine sk σ S1 G1 H1 a1.step.st us S2 e2 _ fun zs G2 H2 a2 => ?_
        have epk : pickN m l idx vs zs = pick idx (vs ++ zs) := if_pos ⟨by rw [a1.len]; exact hml.1, by rw [a2.len]; exact hml.2⟩
        rw [epk]
        have fz1 : ∀ (k : Nat) (d : D), ts[k]? ≠ some (true, d) := fun k d z => by obtain ⟨i, hi⟩ := a1.own k d z; cases hi
        have fz2 : ∀ (k : Nat) (d : D), us[k]? ≠ some (true, d) := fun k d z => by obtain ⟨i, hi⟩ := a2.own k d z; cases hi
        have pw1 : PW (fun v t => t.1 = false ∧ TRel K G2 H2 v t) vs ts := ⟨a1.len, fun k t hk => by
          obtain ⟨v, h1, h2⟩ := a1.sl k t hk
          obtain ⟨b, d⟩ := t
          cases b with
          | true => exact (fz1 k d hk).elim
          | false => exact ⟨v, h1, rfl, DRel.mono a2.step.ext.gg h2⟩⟩
        have pw2 : PW (fun v t => t.1 = false ∧ TRel K G2 H2 v t) zs us := ⟨a2.len, fun k t hk => by
          obtain ⟨v, h1, h2⟩ := a2.sl k t hk
          obtain ⟨b, d⟩ := t
          cases b with
          | true => exact (fz2 k d hk).elim
          | false => exact ⟨v, h1, rfl, h2⟩⟩
        have pw := pw_pick (pw_append pw1 pw2) idx
        have noown : ∀ (k : Nat) (d : D), (pick idx (ts ++ us))[k]? ≠ some (true, d) := fun k d z => by
          obtain ⟨v, _, h2, _⟩ := pw.2 k _ z
          cases h2
        have step := a1.step.trans a2.step
        refine ⟨pw.1.trans (hn _ _ e3), G2, _, t', ps, step.st.gh, ⟨pw.1, fun k t hk => by obtain ⟨v, h1, _, h2⟩ := pw.2 k t hk; exact ⟨v, h1, h2⟩, fun j k d e v h1 _ _ _ => (noown j d h1).elim⟩, e3, fun v G3 H3 c => ?_⟩
        have no : ∀ p, ¬ OwnA (pick idx (vs ++ zs)) (pick idx (ts ++ us)) p := fun p ⟨k, d, h1, _⟩ => noown k d h1
        have ext : Ext (Own σ S) G H G3 H3 := step.ext.trans c.ext fun p hA => (no p hA).elim
        have st3 : StRel K G3 H3 σ S2 := ⟨step.st.len, c.gh, fun i u hu => by
          obtain ⟨v0, h1, h2⟩ := step.st.sl i u hu
          exact ⟨v0, h1, h2.over c.ext fun z p e hA => no p hA⟩, step.st.inj⟩
        refine q v G3 H3 ⟨⟨ext, st3, step.sow⟩, c.rel, fun ht p e => ?_⟩
        rcases c.new ht p e with hA | hN
        · exact (no p hA).elim
        · refine ⟨fun z => ?_, step.new (.inr hN)⟩
          obtain ⟨u, hu⟩ := (step.st.own z).2
          rw [hN] at hu
          cases hu
      · cases h
    · cases h
  · cases h
theorem pe_callGK0 {x : Str} {p pos : Pos} {k : Nat} {f : Addr} {fd : FuncData} {ps ks : List Str} {sp : Sp} {E : XK} {tk : TA} {g : List Value → List Value → List Value} {gV : List V → List V → List V} (F : FnG X.prog X.w X.K X.mg X.base k f fd ps sp) (hr : RG k X.A) (hg : Gl X x) (hm : X.mg x = some (.ref f)) (hk : PySem.W.keepIn X.K (.ref f) = true) (hb : KBinds X.K fd ps ks g gV)
    (hkw : PK X kws tk) (hall : (backToKw pos (keywordEach kws X.env)).all (·.1.isSome) = true := by rfl) (hks : (backToKw pos (keywordEach kws X.env)).filterMap (·.1) = ks := by rfl)
    (hdb : (x == ("__debug__" : Str)) = false := by decide)
    (hpl : ((backTo pos (starEach [] X.env)).any (·.1) || (backToKw pos (keywordEach kws X.env)).any (·.1.isNone)) = false := by rfl) :
    PE X (.Call (.Name x p) [] kws pos) (tCallK sp gV E tNil tk) := by
  refine ⟨fun pins s σ H Q I h => wpAny_Call_Name_kw (ld_glob I hg hm ?_ hdb)⟩
  refine PySem.W.callWith_KW0 (h₀ := X.base) I.ok.mod.kin hk hall (thn (hkw.run pos pins s σ H _ I h) fun ws s2 ⟨zs, H2, I2, rz, q2⟩ => ⟨I2.kIn, ?_⟩) hpl
  rw [hks]
  exact callG (us := []) F hr (fun hl => hb.to s2 [] ws I2.kIn hl) I2 (hb.rel .nil rz) q2
/-- how a def's parameters come from m values and the keywords ks -/
structure KwD (K : PySem.W.Frag) (mg : Str → Option Value) (x : Str) (ps ks : List Str) (m : Nat) (idx : List Nat) : Prop where
  ex : ∃ (f : Addr) (fd : FuncData) (oc : Value) (od : Option Addr) (osl : Array (Option Value)), mg x = some (.ref f) ∧ K.lookup f = some ⟨oc, od, .func fd, osl⟩ ∧ ∀ (s : Shared) (us ws : List Value), us.length = m → ws.length = ks.length → BindsTo s fd ⟨us, ks.zip ws⟩ (ps.zip (pick idx (us ++ ws)))
  ne : ps ≠ []
theorem kwd_of {K : PySem.W.Frag} {mg : Str → Option Value} {x qual : Str} {st : Stmt} {f : Addr} {fd : FuncData} {ps ks : List Str} {m : Nat} {idx : List Nat} (F : L2.Fun K x qual st f fd) (hm : mg x = some (.ref f)) (hp : ps ≠ [])
    (h : ∀ (kV doc pm : Value) (an : Option Addr) (cdv ct : Value) (us ws : List Value), us.length = m → ws.length = ks.length → bindArgs (PySem.W.fnOf x qual (defArgs st) (defBody st) (defScope st) .none kV doc pm an cdv ct) ⟨us, ks.zip ws⟩ = pure (ps.zip (pick idx (us ++ ws)))) : KwD K mg x ps ks m idx := by
  obtain ⟨oc, od, kV, doc, pm, an, cdv, ct, osl, rfl, lk, hcd⟩ := F.ex
  exact ⟨⟨f, _, oc, od, osl, hm, lk, fun s us ws h1 h2 => .of_eq (h kV doc pm an cdv ct us ws h1 h2)⟩, hp⟩
theorem kb_of {K : PySem.W.Frag} {fd : FuncData} {ps ks : List Str} {m : Nat} {idx : List Nat} (hp : ps ≠ []) (h : ∀ (s : Shared) (us ws : List Value), us.length = m → ws.length = ks.length → BindsTo s fd ⟨us, ks.zip ws⟩ (ps.zip (pick idx (us ++ ws)))) : KBinds K fd ps ks (pickN m ks.length idx) (pickN m ks.length idx) := by
  refine ⟨fun s us ws _ hl => ?_, fun {vs us zs ws} r rz => ?_⟩
  · by_cases c : us.length = m ∧ ws.length = ks.length
    · have e : pickN m ks.length idx us ws = pick idx (us ++ ws) := if_pos c
      rw [e]
      exact h s us ws c.1 c.2
    · have e : pickN m ks.length idx us ws = [] := if_neg c
      rw [e] at hl
      exact (hp (List.length_eq_zero_iff.mp hl.symm)).elim
  · by_cases c : us.length = m ∧ ws.length = ks.length
    · have e : pickN m ks.length idx us ws = pick idx (us ++ ws) := if_pos c
      have e2 : pickN m ks.length idx vs zs = pick idx (vs ++ zs) := if_pos ⟨by rw [r.length]; exact c.1, by rw [rz.length]; exact c.2⟩
      rw [e, e2]
      exact vals_pick (r.append rz) idx
    · have e : pickN m ks.length idx us ws = [] := if_neg c
      have e2 : pickN m ks.length idx vs zs = [] := if_neg (by rw [r.length, rz.length]; exact c)
      rw [e, e2]
      exact .nil
section
variable {x : Str} {p pos : Pos} {n k k' m l : Nat} {F : Fn} {fa fk : FA} {ps ks : List Str} {idx : List Nat}
theorem ve_callDK (G : Def X.prog X.w X.K X.mg X.base x ps k n F) (B : KwD X.K X.mg x ps ks m idx) (hr : RG k' X.A) (ha : VAr X (e :: es) none fa) (hkw : VKs X kws fk) (hk : k ≤ k' := by decide) (hl : ks.length = l := by rfl) (hg : Gl X x := by rfl) (hdb : (x == ("__debug__" : Str)) = false := by decide)
    (hall : (backToKw pos (keywordEach kws X.env)).all (·.1.isSome) = true := by rfl) (hks : (backToKw pos (keywordEach kws X.env)).filterMap (·.1) = ks := by rfl)
    (he : starEach (e :: es) X.env = (false, eval e X.env) :: starEach es X.env := by rfl)
    (hpl : ((backTo pos (starEach (e :: es) X.env)).any (·.1) || (backToKw pos (keywordEach kws X.env)).any (·.1.isNone)) = false := by rfl) :
    VE X (.Call (.Name x p) (e :: es) kws pos) (fCallK F m l idx fa fk) := by
  subst hl
  obtain ⟨f, fd, ok, hm, hkp, hb, oc, od, osl, lk⟩ := G.ex
  obtain ⟨f2, fd2, oc2, od2, osl2, hm2, lk2, h⟩ := B.ex
  rw [hm] at hm2
  cases hm2
  rw [lk] at lk2
  cases lk2
  obtain ⟨ta, pa, s⟩ := ha.ex
  obtain ⟨tk, pk, sk⟩ := hkw.ex
  exact ⟨_, pe_callGK ok (hr.lower hk) hg hm hkp (kb_of B.ne h) pa pk hall hks hdb he hpl, callK_sim (E := fun _ _ _ => False) idx s sk G.len⟩
theorem ve_callDK0 (G : Def X.prog X.w X.K X.mg X.base x ps k n F) (B : KwD X.K X.mg x ps ks 0 idx) (hr : RG k' X.A) (hkw : VKs X kws fk) (hk : k ≤ k' := by decide) (hl : ks.length = l := by rfl) (hg : Gl X x := by rfl) (hdb : (x == ("__debug__" : Str)) = false := by decide)
    (hall : (backToKw pos (keywordEach kws X.env)).all (·.1.isSome) = true := by rfl) (hks : (backToKw pos (keywordEach kws X.env)).filterMap (·.1) = ks := by rfl)
    (hpl : ((backTo pos (starEach [] X.env)).any (·.1) || (backToKw pos (keywordEach kws X.env)).any (·.1.isNone)) = false := by rfl) :
    VE X (.Call (.Name x p) [] kws pos) (fCallK F 0 l idx faNil fk) := by
  subst hl
  obtain ⟨f, fd, ok, hm, hkp, hb, oc, od, osl, lk⟩ := G.ex
  obtain ⟨f2, fd2, oc2, od2, osl2, hm2, lk2, h⟩ := B.ex
  rw [hm] at hm2
  cases hm2
  rw [lk] at lk2
  cases lk2
  obtain ⟨tk, pk, sk⟩ := hkw.ex
  exact ⟨_, pe_callGK0 ok (hr.lower hk) hg hm hkp (kb_of B.ne h) pk hall hks hdb hpl, callK_sim (E := fun _ _ _ => False) idx simAr_nil sk G.len⟩
end
end
end VL

set_option Elab.async false
set_option linter.all false
set_option maxRecDepth 100000
set_option maxHeartbeats 1000000
/-! VLR: repr of lists and tuples of plain data, where no repr is under way. -/
namespace VL
open PySem PySem.Spec PyProof.Rows L2

def rRepr (K : PySem.W.Frag) : List V → Hp → VK → Prop := fun xs H Q => ∃ (a : Addr) (d : PyData), xs = [.ref a] ∧ Dp K H (.ref a) d ∧ d.showable = true ∧ d.hasDict = false ∧ d.depth ≤ 60 ∧ d.shown.length ≤ sizeLine ∧ Q (.str d.shown) H
theorem call_reprR {X : Cx} (hg : X.A.guards = some []) (hu : X.A.units + 65 < cLine) : CallR X (.builtin "repr") (rRepr X.K) := by
  intro pins s σ H xs us Q I r h
  obtain ⟨a, d, rfl, hd, hs, hn, hp, hl, q⟩ := h
  obtain ⟨u, rfl, ru⟩ := vals1 r
  have ru' : u = Value.ref a := ru
  subst ru'
  obtain ⟨as, rd⟩ := hd.reads I _ _ _ rfl
  exact repr_of_reads' rd hs (fun z => by rw [hn] at z; cases z) hg (by omega) (fun _ _ e => e) (fun h' u tk hk => ⟨.str d.shown, H, I.kept hk, ⟨u, rfl⟩, q⟩) hl
def D.okRepr (d : D) : Bool := d.isPy && d.py.showable && decide (d.py.depth ≤ 60) && decide (d.py.shown.length ≤ SL)
mutual
theorem isPy_noDict : ∀ d : D, d.isPy = true → d.py.hasDict = false
  | .non, _ => by simp only [D.py, PyData.hasDict]
  | .bl _, _ => by simp only [D.py, PyData.hasDict]
  | .int _, _ => by simp only [D.py, PyData.hasDict]
  | .str _, _ => by simp only [D.py, PyData.hasDict]
  | .ref _, h => by simp [D.isPy] at h
  | .ty _, h => by simp [D.isPy] at h
  | .ins _ _, h => by simp [D.isPy] at h
  | .dct _, h => by simp [D.isPy] at h
  | .tup ds, h => by simp only [D.py, PyData.hasDict]; exact isPys_noDict ds (by simpa [D.isPy] using h)
  | .lst ds, h => by simp only [D.py, PyData.hasDict]; exact isPys_noDict ds (by simpa [D.isPy] using h)
  | .scr ns, _ => by
    simp only [D.py, PyData.hasDict]
    induction ns with
    | nil => simp only [List.map_nil, PyData.hasDictAll]
    | cons n ns ih =>
      simp only [List.map_cons, PyData.hasDictAll, PyData.hasDict, Bool.false_or]
      exact ih (by simp only [D.isPy])
theorem isPys_noDict : ∀ ds : List D, isPys ds = true → PyData.hasDictAll (pys ds) = false
  | [], _ => by simp only [pys, PyData.hasDictAll]
  | d :: ds, h => by
    simp only [isPys, Bool.and_eq_true] at h
    simp only [pys, PyData.hasDictAll, isPy_noDict d h.1, isPys_noDict ds h.2, Bool.or_self]
end
def gRepr : List D → Option T
  | [.lst ds] => if (D.lst ds).okRepr then tS (.str (D.lst ds).py.shown) else none
  | [.tup ds] => if (D.tup ds).okRepr then tS (.str (D.tup ds).py.shown) else none
  | _ => none
section
variable {K : PySem.W.Frag}
theorem simc_repr : SimC K (rRepr K) gRepr := by
  intro G H vs ds t gh r h Q q
  unfold gRepr at h
  split at h
  · rename_i xs
    split at h
    · rename_i ok
      cases h
      obtain ⟨v, rfl, rv⟩ := r.one
      simp only [D.okRepr, Bool.and_eq_true, decide_eq_true_eq] at ok
      have e := rv.dp gh ok.1.1.1
      obtain ⟨p, ws, rfl, _⟩ := rv.lst gh
      exact ⟨p, _, rfl, e, ok.1.1.2, isPy_noDict _ ok.1.1.1, ok.1.2, ok.2, q _ _ _ (.pure gh (.str _))⟩
    · cases h
  · rename_i xs
    split at h
    · rename_i ok
      cases h
      obtain ⟨v, rfl, rv⟩ := r.one
      simp only [D.okRepr, Bool.and_eq_true, decide_eq_true_eq] at ok
      have e := rv.dp gh ok.1.1.1
      obtain ⟨p, ws, rfl, _⟩ := rv.tup gh
      exact ⟨p, _, rfl, e, ok.1.1.2, isPy_noDict _ ok.1.1.1, ok.1.2, ok.2, q _ _ _ (.pure gh (.str _))⟩
    · cases h
  · cases h
end
end VL

set_option Elab.async false
set_option linter.all false
set_option maxRecDepth 100000
set_option maxHeartbeats 1000000
/-! VLD: dicts whose keys are ints and texts. -/
namespace VL
open PySem PySem.Spec PyProof.Rows L2

def kOf : D → Option L2.Key
  | .int i => some (.inl i)
  | .str s => some (.inr s)
  | _ => none
theorem kOf_keyD (k : L2.Key) : kOf (keyD k) = some k := by cases k <;> rfl
def isKey (k : L2.Key) (d : D) : Bool := decide (kOf d = some k)
theorem isKey_keyD (k j : L2.Key) : isKey k (keyD j) = decide (j = k) := by
  unfold isKey
  rw [kOf_keyD]
  simp
def dget (ds : List (D × D)) (k : L2.Key) : Option D := (ds.find? fun p => isKey k p.1).map (·.2)
def dput (ds : List (D × D)) (k : L2.Key) (d : D) : List (D × D) :=
  if (ds.any fun p => isKey k p.1) = true then ds.map (fun p => if isKey k p.1 = true then (p.1, d) else p) else ds ++ [(keyD k, d)]
section
variable {K : PySem.W.Frag} {G H : Hp}
theorem DKs.length : ∀ {kv : List (L2.Key × V)} {ds : List (D × D)}, DKs K G kv ds → kv.length = ds.length
  | _, _, .nil => rfl
  | _, _, .cons _ r => by simp [DKs.length r]
theorem DKs.get (k : L2.Key) : ∀ {kv : List (L2.Key × V)} {ds : List (D × D)}, DKs K G kv ds → (valV kv k = none ∧ dget ds k = none) ∨ ∃ v d, valV kv k = some v ∧ dget ds k = some d ∧ DRel K G v d
  | _, _, .nil => .inl ⟨rfl, rfl⟩
  | _, _, .cons (k := j) (v := v) (d := d) h r => by
    by_cases e : j = k
    · right
      refine ⟨v, d, valV_pos (p := (j, v)) e, ?_, h⟩
      unfold dget
      rw [List.find?_cons_of_pos (by rw [isKey_keyD]; exact decide_eq_true e)]
      rfl
    · rw [valV_neg (p := (j, v)) e]
      rcases DKs.get k r with ⟨h1, h2⟩ | ⟨v', d', h1, h2, h3⟩
      · refine .inl ⟨h1, ?_⟩
        unfold dget at h2 ⊢
        rw [List.find?_cons_of_neg (by rw [isKey_keyD]; simpa using e)]
        exact h2
      · refine .inr ⟨v', d', h1, ?_, h3⟩
        unfold dget at h2 ⊢
        rw [List.find?_cons_of_neg (by rw [isKey_keyD]; simpa using e)]
        exact h2
theorem DKs.any (k : L2.Key) : ∀ {kv : List (L2.Key × V)} {ds : List (D × D)}, DKs K G kv ds → (kv.any fun p => decide (p.1 = k)) = ds.any fun p => isKey k p.1
  | _, _, .nil => rfl
  | _, _, .cons h r => by rw [List.any_cons, List.any_cons, DKs.any k r, isKey_keyD]
theorem DKs.snoc {k : L2.Key} {v : V} {d : D} (q : DRel K G v d) : ∀ {kv : List (L2.Key × V)} {ds : List (D × D)}, DKs K G kv ds → DKs K G (kv ++ [(k, v)]) (ds ++ [(keyD k, d)])
  | _, _, .nil => .cons q .nil
  | _, _, .cons h r => .cons h (DKs.snoc q r)
theorem DKs.repl {k : L2.Key} {v : V} {d : D} (q : DRel K G v d) : ∀ {kv : List (L2.Key × V)} {ds : List (D × D)}, DKs K G kv ds → DKs K G (kv.map fun p => if p.1 = k then (p.1, v) else p) (ds.map fun p => if isKey k p.1 = true then (p.1, d) else p)
  | _, _, .nil => .nil
  | _, _, .cons (k := j) h r => by
    rw [List.map_cons, List.map_cons]
    by_cases e : j = k
    · rw [if_pos e, if_pos (by rw [isKey_keyD]; exact decide_eq_true e)]
      exact .cons q (DKs.repl q r)
    · rw [if_neg e, if_neg (by rw [isKey_keyD]; simpa using e)]
      exact .cons h (DKs.repl q r)
theorem DKs.put {k : L2.Key} {v : V} {d : D} (q : DRel K G v d) {kv : List (L2.Key × V)} {ds : List (D × D)} (r : DKs K G kv ds) : DKs K G (putK kv k v) (dput ds k d) := by
  unfold putK dput
  rw [r.any k]
  split
  · exact r.repl q
  · exact r.snoc q
theorem RRel.dct {x : V} {ds : List (D × D)} (gh : Same G H) (h : RRel K G H x (.dct ds)) : ∃ p kv, x = .ref p ∧ H p = some (.dK kv) ∧ kv.length ≤ sizeLine ∧ DKs K G kv ds := by
  rcases h with h | ⟨p, rfl, kv, h1, h2, h3⟩
  · cases h with
    | dct h1 h2 h3 => exact ⟨_, _, rfl, gh _ _ h1, h2, h3⟩
  · exact ⟨p, kv, rfl, h1, h2, h3⟩
theorem RRel.key {y : V} {e : D} {k : L2.Key} (h : RRel K G H y e) (hk : kOf e = some k) : y = kV k := by
  unfold kOf at hk
  split at hk
  · cases hk; exact h.int
  · cases hk; exact h.str
  · cases hk
end
/-! ### d[k] -/
def rIxDK : R2 := fun x y H Q => ∃ a v, x = .ref a ∧ DGet H a y (some v) ∧ Q v H
theorem ix_dictK {X : Cx} (hu : X.A.units + 1 < cLine) : IxR X rIxDK := by
  intro value slice pins s σ H x y v u Q I rx ry h hs
  obtain ⟨a, z, rfl, g, q⟩ := h
  obtain rfl : v = Value.ref a := rx
  exact tail_any (dict_typeIs I g) PySem.F.slot_dict_getitem.lookup (d_getItem hu I g ry fun w' s3 I3 rw' => ⟨z, H, I3, rw', q⟩) hs
def gIxA : D → D → Option T
  | .dct ds, y => match kOf y with
    | some k => (dget ds k).map fun d => (false, d)
    | none => none
  | x, y => gIx x y
theorem sim_ixA {K : PySem.W.Frag} : Sim2 K (fun x y H Q => rIx K x y H Q ∨ rIxDK x y H Q) gIxA := by
  intro G H x y d e t gh rx ry hg Q q
  unfold gIxA at hg
  split at hg
  · rename_i ds
    split at hg
    · rename_i k hk
      obtain ⟨p, kv, rfl, h1, h2, h3⟩ := rx.dct gh
      obtain rfl := ry.key hk
      rcases h3.get k with ⟨_, z⟩ | ⟨v, d', z1, z2, z3⟩
      · rw [z] at hg; cases hg
      · rw [z2] at hg
        cases hg
        right
        exact ⟨p, v, rfl, by have := DGet.k (k := k) h1; rwa [z1] at this, q _ _ _ (.pure gh z3)⟩
    · cases hg
  · exact .inl (sim_ix G H _ _ _ _ _ gh rx ry hg Q q)
section
variable {X : Cx} {a b : Expr} {pos : Pos}
theorem ve_ixA {f f' : FO} (hu : X.A.units + 65 < cLine) (ha : VO X a f) (hb : VO X b f') (hp : PlainIx b := by exact fun _ _ => rfl) : VE X (.Subscript a b pos) (fOp2 gIxA f f') :=
  ve_op2 (fun _ _ pa pb => pe_ix (ix_seq.or (ix_dictK (by omega))) pa pb hp) ha hb sim_ixA
end
/-! ### k in d -/
def rInDK : R2 := fun y x H Q => ∃ a o, x = .ref a ∧ DGet H a y o ∧ Q (.bl o.isSome) H
def rNotInDK : R2 := fun y x H Q => ∃ a o, x = .ref a ∧ DGet H a y o ∧ Q (.bl (!o.isSome)) H
theorem op_inDK {X : Cx} (hu : X.A.units + 1 < cLine) : OpR X (compareOp .In) rInDK := by
  intro pins s σ H x y v u Q I rx ry h
  obtain ⟨a, o, rfl, g, q⟩ := h
  obtain rfl : u = Value.ref a := ry
  exact d_in hu I g rx fun s3 I3 => ⟨.bl o.isSome, H, I3, rfl, q⟩
theorem op_notInDK {X : Cx} (hu : X.A.units + 1 < cLine) : OpR X (compareOp .NotIn) rNotInDK := by
  intro pins s σ H x y v u Q I rx ry h
  obtain ⟨a, o, rfl, g, q⟩ := h
  obtain rfl : u = Value.ref a := ry
  exact d_notIn hu I g rx fun s3 I3 => ⟨.bl (!o.isSome), H, I3, rfl, q⟩
def gInB (x : D) : D → Option T
  | .dct ds => match kOf x with
    | some k => tB (dget ds k).isSome
    | none => none
  | y => gIn x y
def gNotInB (x : D) : D → Option T
  | .dct ds => match kOf x with
    | some k => tB (!(dget ds k).isSome)
    | none => none
  | y => gNotIn x y
theorem op_inB {X : Cx} (hu : X.A.units + 65 < cLine) : OpR X (compareOp .In) (fun x y H Q => rInA X.K x y H Q ∨ rInDK x y H Q) := (op_inA hu).or (op_inDK (by omega))
theorem op_notInB {X : Cx} (hu : X.A.units + 65 < cLine) : OpR X (compareOp .NotIn) (fun x y H Q => rNotInA X.K x y H Q ∨ rNotInDK x y H Q) := (op_notInA hu).or (op_notInDK (by omega))
theorem sim_inB {K : PySem.W.Frag} : Sim2 K (fun x y H Q => rInA K x y H Q ∨ rInDK x y H Q) gInB := by
  intro G H x y d e t gh rx ry hg Q q
  unfold gInB at hg
  split at hg
  · rename_i ds
    split at hg
    · rename_i k hk
      cases hg
      obtain ⟨p, kv, rfl, h1, h2, h3⟩ := ry.dct gh
      obtain rfl := rx.key hk
      refine .inr ⟨p, _, rfl, DGet.k (k := k) h1, ?_⟩
      rcases h3.get k with ⟨z, z'⟩ | ⟨v, d', z1, z2, z3⟩
      · rw [z]; rw [z'] at q; exact q _ _ _ (.pure gh (.bl _))
      · rw [z1]; rw [z2] at q; exact q _ _ _ (.pure gh (.bl _))
    · cases hg
  · exact .inl (sim_in G H _ _ _ _ _ gh rx ry hg Q q)
theorem sim_notInB {K : PySem.W.Frag} : Sim2 K (fun x y H Q => rNotInA K x y H Q ∨ rNotInDK x y H Q) gNotInB := by
  intro G H x y d e t gh rx ry hg Q q
  unfold gNotInB at hg
  split at hg
  · rename_i ds
    split at hg
    · rename_i k hk
      cases hg
      obtain ⟨p, kv, rfl, h1, h2, h3⟩ := ry.dct gh
      obtain rfl := rx.key hk
      refine .inr ⟨p, _, rfl, DGet.k (k := k) h1, ?_⟩
      rcases h3.get k with ⟨z, z'⟩ | ⟨v, d', z1, z2, z3⟩
      · rw [z]; rw [z'] at q; exact q _ _ _ (.pure gh (.bl _))
      · rw [z1]; rw [z2] at q; exact q _ _ _ (.pure gh (.bl _))
    · cases hg
  · exact .inl (sim_notIn G H _ _ _ _ _ gh rx ry hg Q q)
/-! ### {} -/
def fDNew : FE := fun S => some ((true, .dct []), S)
section
variable {X : Cx} {a b c : Expr} {pos : Pos}
theorem ve_dnew : VE X (.Dict [] [] pos) fDNew := ⟨_, pe_dnewK, fun σ S G H r t S' h Q q => by
  cases h
  intro p hp
  have o := OpPost.fresh (K := X.K) (o := .dK []) (d := .dct []) r.gh hp ⟨[], upd_same, Nat.zero_le _, .nil⟩
  exact q _ _ _ (o.post r)⟩
end
/-! ### d.get(k, x) -/
def fDGet (f : FO) (g : FO) (h : FE) : FE := fun S => match f S with
  | some (o, S1) => match res S1 o with
    | some (.dct _) => match g S1 with
      | some (o', S2) => match h S2 with
        | some (t, S3) => match res S3 o, res S3 o' with
          | some (.dct ds), some y => match kOf y with
            | some k => some ((false, (dget ds k).getD t.2), S3)
            | none => none
          | _, _ => none
        | none => none
      | none => none
    | _ => none
  | none => none
section
variable {X : Cx} {a b c : Expr} {x : Str} {xpos apos cpos : Pos}
theorem isD_dct {K : PySem.W.Frag} {G H : Hp} {v : V} {ds : List (D × D)} (gh : Same G H) (r : RRel K G H v (.dct ds)) : ∃ p, v = .ref p ∧ IsD H p := by
  obtain ⟨p, kv, rfl, h1, _⟩ := r.dct gh
  exact ⟨p, rfl, .inl ⟨kv, .inl h1⟩⟩
theorem ve_dget2 {f g : FO} {h : FE} (hu : X.A.units + 65 < cLine) (ha : VO X a f) (hb : VO X b g) (hc : VE X c h) (m : M2 X a "get" apos b c cpos := by exact ⟨rfl, rfl, rfl, rfl⟩) : VE X (.Call (.Attribute a "get" apos) [b, c] [] cpos) (fDGet f g h) := by
  obtain ⟨ta, p1, s1⟩ := ha.ex
  obtain ⟨tb, p2, s2⟩ := hb.ex
  obtain ⟨tc, p3, s3⟩ := hc.ex
  refine ⟨_, pe_dget2 (by omega) p1 p2 p3 m, fun σ S G H r t S' hh Q q => ?_⟩
  unfold fDGet at hh
  split at hh
  · rename_i o S1 e1
    split at hh
    · rename_i ds0 e2
      split at hh
      · rename_i o' S2 e3
        split at hh
        · rename_i t3 S3 e4
          split at hh
          · rename_i ds y e5 e6
            split at hh
            · rename_i k e7
              obtain ⟨rfl, rfl⟩ := some_pair hh
              refine s1 σ S G H r o S1 e1 _ fun v G1 H1 a1 => ?_
              obtain ⟨p, rfl, isd⟩ := isD_dct a1.step.st.gh (a1.rd e2)
              refine ⟨p, rfl, isd, ?_⟩
              refine s2 σ S1 G1 H1 a1.step.st o' S2 e3 _ fun v2 G2 H2 a2 => ?_
              refine s3 σ S2 G2 H2 a2.step.st t3 S3 e4 _ fun v3 G3 H3 a3 => ?_
              obtain ⟨G3', a3'⟩ := a3.frz
              have b1 := (a1.over a2.step).over a3'.step
              have b2 := a2.over a3'.step
              obtain ⟨p', kv, ep, h1, h2, h3⟩ := (b1.rd e5).dct a3'.step.st.gh
              cases ep
              have ey := (b2.rd e6).key e7
              refine ⟨_, by rw [ey]; exact DGet.k (k := k) h1, ?_⟩
              have stp := b1.step
              rcases h3.get k with ⟨z, z'⟩ | ⟨w, d', z1, z2, z3⟩
              · rw [z]; rw [z'] at q
                exact q _ G3' _ ⟨stp, a3'.rel, fun z => nomatch z⟩
              · rw [z1]; rw [z2] at q
                exact q _ G3' _ ⟨stp, z3, fun z => nomatch z⟩
            · cases hh
          · cases hh
        · cases hh
      · cases hh
    · cases hh
  · cases hh
end
/-! ### x[i] = e: lists and dicts -/
def fSetIxA (i : Nat) (f : FE) (g : FO) : FS := fun S => match f S with
  | some (t, S1) => match S1[i]? with
    | some (some (true, _)) => match g S1 with
      | some (o, S2) => match S2[i]? with
        | some (some (true, .lst ds)) => match res S2 o with
          | some (.int k) => match ixN ds.length k with
            | some j => some (.nx (S2.set i (some (true, .lst (ds.set j t.2)))))
            | none => none
          | _ => none
        | some (some (true, .dct ds)) => match res S2 o with
          | some y => match kOf y with
            | some k => if ds.length < SL then some (.nx (S2.set i (some (true, .dct (dput ds k t.2))))) else none
            | none => none
          | none => none
        | _ => none
      | none => none
    | _ => none
  | none => none
def rSetA : TSet := fun o i v H Q => rSetL o i v H Q ∨ ∃ a H', o = .ref a ∧ DPut H a i v H' ∧ Q H'
theorem set_A {X : Cx} (hu : X.A.units + 1 < cLine) : PSet X rSetA := by
  intro pins s σ H o i v ov iv u Q I ro ri rv h
  rcases h with h | h
  · exact set_list pins s σ H o i v ov iv u Q I ro ri rv h
  · exact set_dict hu pins s σ H o i v ov iv u Q I ro ri rv h
section
variable {X : Cx} {e ie : Expr} {x : Str} {xpos pos spos : Pos}
theorem vs_setIxA (i : Nat) {kp : Kp} {f : FE} {g : FO} (hu : X.A.units + 65 < cLine) (he : VE X e f) (hi : VO X ie g)
    (hN : X.N[i]? = some x := by rfl) (hv : Vis X.env.scope x := by first | exact Or.inl rfl | exact Or.inr (Or.inl rfl) | exact Or.inr (Or.inr rfl)) (hd : (x == ("__debug__" : Str)) = false := by decide) (hcd : (x == ("__classdict__" : Str)) = false := by decide)
    (ha : ∀ v, assign (.Subscript (.Name x xpos) ie pos) X.env v = (do
      let ov ← holding [v] (eval (.Name x xpos) X.env)
      let iv ← holding [v, ov] (eval ie X.env)
      standAt pos
      holding [v, ov, iv] (setItem ov iv v)
      release [v, ov, iv] []) := by intro _; rfl)
    (hs : swapsWithSole [.Subscript (.Name x xpos) ie pos] e spos.line X.env = pure false := by rfl) (hw : swappedStores [.Subscript (.Name x xpos) ie pos] e X.env = pure none := by rfl)
    (h1 : (assignEach [.Subscript (.Name x xpos) ie pos] X.env).map (·.2) = [assign (.Subscript (.Name x xpos) ie pos) X.env] := by rfl) : VS kp X (.Assign [.Subscript (.Name x xpos) ie pos] e spos) (fSetIxA i f g) := by
  obtain ⟨te, p, s⟩ := he.ex
  obtain ⟨ti, p', s'⟩ := hi.ex
  refine ⟨_, ps_asg p (pg_sub (pe_var hN hv hd hcd) p' (set_A (by omega)) ha) hs hw h1, fun σ S G H r o h D q => ?_⟩
  unfold fSetIxA at h
  split at h
  case h_2 => cases h
  rename_i t S1 e1
  split at h
  case h_2 => cases h
  rename_i d1 hS1
  split at h
  case h_2 => cases h
  rename_i o' S2 e2
  refine s σ S G H r t S1 e1 _ fun v G1 H1 a1 => ?_
  obtain ⟨G1', a1'⟩ := a1.frz
  obtain ⟨w, hw, p0, rfl, _⟩ := a1'.step.st.sl i _ hS1
  refine ⟨.ref p0, hw, ?_⟩
  refine s' σ S1 G1' H1 a1'.step.st o' S2 e2 _ fun v2 G2 H2 a2 => ?_
  have st := a1'.step.trans a2.step
  split at h
  · rename_i ds hS
    split at h
    · rename_i k e3
      split at h
      · rename_i j hj
        cases h
        obtain ⟨w2, hw2, p2, rfl, g2, xs, hp, z, rr⟩ := a2.step.st.sl i _ hS
        rw [hw] at hw2
        cases hw2
        rw [← rr.length] at hj
        refine .inl ⟨p0, xs, k, j, rfl, (a2.rd e3).int, hp, hj, ?_⟩
        have c : Cont X.K G2 (upd H2 p0 (.lst (xs.set j v))) p0 (.lst (ds.set j t.2)) := ⟨xs.set j v, upd_same, by rw [List.length_set]; exact z, rr.set (DRel.mono a2.step.ext.gg a1'.rel) j⟩
        exact q σ G2 _ (st.change hS hw c).toS
      · cases h
    · cases h
  · rename_i ds hS
    split at h
    · rename_i y e3
      split at h
      · rename_i k e4
        split at h
        · rename_i hz
          cases h
          obtain ⟨w2, hw2, p2, rfl, g2, kv, hp, z, rr⟩ := a2.step.st.sl i _ hS
          rw [hw] at hw2
          cases hw2
          have ey := (a2.rd e3).key e4
          subst ey
          have hl : kv.length < sizeLine := by rw [rr.length, sizeLine_eq]; exact hz
          refine .inr ⟨p0, _, rfl, DPut.k (k := k) (v := v) hp hl, ?_⟩
          have c : Cont X.K G2 (upd H2 p0 (.dK (putK kv k v))) p0 (.dct (dput ds k t.2)) := ⟨_, upd_same, by have := length_putK kv k v; omega, rr.put (DRel.mono a2.step.ext.gg a1'.rel)⟩
          exact q σ G2 _ (st.change hS hw c).toS
        · cases h
      · cases h
    · cases h
  · cases h
end
/-! ### list(d.items()) -/
def gItems : D → Option T
  | .dct ds => if ds.length ≤ SL then some (true, .lst (ds.map fun p => .tup [p.1, p.2])) else none
  | _ => none
theorem keyD_rel {K : PySem.W.Frag} {G : Hp} (k : L2.Key) : DRel K G (kV k) (keyD k) := by
  cases k with
  | inl i => exact .int i
  | inr s => exact .str s
theorem items_rel {K : PySem.W.Frag} {G G' : Hp} (gs : Same G G') : ∀ {ts : List Addr} {kv : List (L2.Key × V)} {ds : List (D × D)}, DKs K G kv ds → Paired (fun (t : Addr) (q : L2.Key × V) => G' t = some (.tup [kV q.1, q.2])) ts kv → DRels K G' (ts.map V.ref) (ds.map fun p => .tup [p.1, p.2])
  | _, _, _, .nil, .nil => .nil
  | _, _, _, .cons h r, .cons h1 h2 => .cons (.tup h1 (by show 2 ≤ sizeLine; decide) (.cons (keyD_rel _) (.cons (h.mono gs) .nil))) (items_rel gs r h2)
theorem paired_len {α β : Type} {R : α → β → Prop} : ∀ {xs : List α} {ys : List β}, Paired R xs ys → xs.length = ys.length
  | _, _, .nil => rfl
  | _, _, .cons _ t => by simp [paired_len t]
theorem paired_of {α β : Type} {R S : α → β → Prop} : ∀ {xs : List α} {ys : List β}, Paired R xs ys → (∀ x ∈ xs, ∀ y, R x y → S x y) → Paired S xs ys
  | _, _, .nil, _ => .nil
  | _, _, .cons h t, f => .cons (f _ List.mem_cons_self _ h) (paired_of t fun x hx => f x (List.mem_cons_of_mem _ hx))
theorem sim_items {K : PySem.W.Frag} : Sim1 K LiI.rItemsL gItems := by
  intro G H x d t gh rx hg Q q
  unfold gItems at hg
  split at hg
  · rename_i ds
    split at hg
    · rename_i hz
      cases hg
      obtain ⟨p, kv, rfl, h1, h2, h3⟩ := rx.dct gh
      refine ⟨p, kv, rfl, h1, fun H' p' ts sm hp' hts hnin hl hpd => ?_⟩
      have hlen := paired_len hpd
      let G' : Hp := fun b => if b ∈ ts then H' b else G b
      have gg : Same G G' := fun b o e => by
        show (if b ∈ ts then H' b else G b) = some o
        by_cases hb : b ∈ ts
        · have := hts b hb
          rw [gh b o e] at this
          cases this
        · rw [if_neg hb]; exact e
      have gh' : Same G' H' := fun b o e => by
        have e' : (if b ∈ ts then H' b else G b) = some o := e
        by_cases hb : b ∈ ts
        · rw [if_pos hb] at e'; exact e'
        · rw [if_neg hb] at e'; exact sm b o (gh b o e')
      have g1 : ∀ b ∈ ts, G' b = H' b := fun b hb => if_pos hb
      have gp : G' p' = none := by
        show (if p' ∈ ts then H' p' else G p') = none
        rw [if_neg hnin]
        exact gh.free hp'
      have pd : Paired (fun (t : Addr) (q : L2.Key × V) => G' t = some (.tup [kV q.1, q.2])) ts kv := paired_of hpd fun x hx y e => by rw [g1 x hx]; exact e
      refine q _ G' H' ⟨⟨fun a o e _ => sm a o e, gg, fun a e => ?_⟩, gh', ⟨p', rfl, gp, _, hl, by rw [List.length_map, hlen]; exact h2, items_rel gg h3 pd⟩, fun _ b e => by cases e; exact hp'⟩
      by_cases hb : a ∈ ts
      · exact .inr (.inr (hts a hb))
      · left
        have e' : (if a ∈ ts then H' a else G a) ≠ none := e
        rw [if_neg hb] at e'
        exact e'
    · cases hg
  · cases hg
section
variable {X : Cx} {e : Expr} {p pos apos cpos : Pos}
theorem ve_listItems {f : FO} (hc : X.calm = true) (hm : X.mg "list" = none) (ha : VO X e f) (hg : Gl X "list" := by rfl) (hbase : attributeBase e "items" X.env (eval e X.env) = eval e X.env := by rfl) (hline : (apos.endLine == cpos.line) = true := by rfl)
    (hs : starEach [.Call (.Attribute e "items" apos) [] [] cpos] X.env = (false, eval (.Call (.Attribute e "items" apos) [] [] cpos) X.env) :: starEach [] X.env := by rfl) :
    VE X (.Call (.Name "list" p) [.Call (.Attribute e "items" apos) [] [] cpos] [] pos) (fOp1 gItems f) :=
  ve_op1 (r := LiI.rItemsL) (fun ta pa => LiI.pe_listItems hc pa hg hm (by decide +kernel) hbase hline hs) ha sim_items
end
/-! ### {k: v, ..} -/
abbrev FPs := VSt → Option (List (D × D) × VSt)
def fpNil : FPs := fun S => some ([], S)
def fpCons (f g : FE) (h : FPs) : FPs := fun S => match f S with
  | some (t, S1) => match g S1 with
    | some (u, S2) => match h S2 with
      | some (ps, S3) => some ((t.2, u.2) :: ps, S3)
      | none => none
    | none => none
  | none => none
structure PostPs (K : PySem.W.Frag) (σ : St) (S : VSt) (G H : Hp) (ps : List (V × V)) (ds : List (D × D)) (S' : VSt) (G' H' : Hp) : Prop where
  step : Step K σ S G H S' G' H'
  rel : Paired (fun (p : V × V) (q : D × D) => DRel K G' p.1 q.1 ∧ DRel K G' p.2 q.2) ps ds
def SimPs (K : PySem.W.Frag) (trs : List (TE × TE)) (f : FPs) : Prop := ∀ σ S G H, StRel K G H σ S → ∀ ds S', f S = some (ds, S') → ∀ Q : List (V × V) → Hp → Prop, (∀ ps G' H', PostPs K σ S G H ps ds S' G' H' → Q ps H') → tPairs trs σ H Q
structure VPs (X : Cx) (pos : Pos) (ks : List (Option Expr)) (vs : List Expr) (f : FPs) : Prop where
  ex : ∃ trs, PPs X pos ks vs trs ∧ SimPs X.K trs f
section
variable {X : Cx} {k v : Expr} {ks : List (Option Expr)} {vs : List Expr} {pos : Pos}
theorem vps_nil : VPs X pos [] [] fpNil := ⟨_, pps_nil, fun σ S G H r ds S' h Q q => by cases h; exact q [] G H ⟨.refl r, .nil⟩⟩
theorem vps_cons {f g : FE} {h : FPs} (h1 : VE X k f) (h2 : VE X v g) (h3 : VPs X pos ks vs h) : VPs X pos (some k :: ks) (v :: vs) (fpCons f g h) := by
  obtain ⟨t1, p1, s1⟩ := h1.ex
  obtain ⟨t2, p2, s2⟩ := h2.ex
  obtain ⟨t3, p3, s3⟩ := h3.ex
  refine ⟨_, pps_cons p1 p2 p3, fun σ S G H r ds S' hh Q q => ?_⟩
  unfold fpCons at hh
  split at hh
  case h_2 => cases hh
  rename_i t S1 e1
  split at hh
  case h_2 => cases hh
  rename_i u S2 e2
  split at hh
  case h_2 => cases hh
  rename_i ps S3 e3
  obtain ⟨rfl, rfl⟩ := some_pair hh
  refine s1 σ S G H r t S1 e1 _ fun v1 G1 H1 a1 => ?_
  obtain ⟨G1', b1⟩ := a1.frz
  refine s2 σ S1 G1' H1 b1.step.st u S2 e2 _ fun v2 G2 H2 a2 => ?_
  obtain ⟨G2', b2⟩ := a2.frz
  refine s3 σ S2 G2' H2 b2.step.st ps S3 e3 _ fun vs3 G3 H3 a3 => ?_
  exact q _ G3 H3 ⟨(b1.step.trans b2.step).trans a3.step, .cons ⟨DRel.mono a3.step.ext.gg (DRel.mono b2.step.ext.gg b1.rel), DRel.mono a3.step.ext.gg b2.rel⟩ a3.rel⟩
end
def keysOf : List (D × D) → Option (List (L2.Key × D))
  | [] => some []
  | (k, d) :: r => match kOf k, keysOf r with
    | some k', some r' => some ((k', d) :: r')
    | _, _ => none
def dmerge (ds : List (D × D)) (more : List (L2.Key × D)) : List (D × D) := more.foldl (fun acc p => dput acc p.1 p.2) ds
theorem keys_rel {K : PySem.W.Frag} {G : Hp} : ∀ {ps : List (V × V)} {ds : List (D × D)} {ks : List (L2.Key × D)}, Paired (fun (p : V × V) (q : D × D) => DRel K G p.1 q.1 ∧ DRel K G p.2 q.2) ps ds → keysOf ds = some ks →
    ∃ kv : List (L2.Key × V), ps = kv.map (fun p => (kV p.1, p.2)) ∧ Paired (fun (p : L2.Key × V) (q : L2.Key × D) => p.1 = q.1 ∧ DRel K G p.2 q.2) kv ks
  | _, _, _, .nil, h => by cases h; exact ⟨[], rfl, .nil⟩
  | (a, b) :: ps, (c, d) :: ds, _, .cons h t, e => by
    unfold keysOf at e
    split at e
    · rename_i k r e1 e2
      cases e
      obtain ⟨kv, h1, h2⟩ := keys_rel t e2
      have ek : a = kV k := by
        have h' : DRel K G a c := h.1
        unfold kOf at e1
        split at e1
        · cases e1; cases h'; rfl
        · cases e1; cases h'; rfl
        · cases e1
      exact ⟨(k, b) :: kv, by rw [h1, ek]; rfl, .cons ⟨rfl, h.2⟩ h2⟩
    · cases e
theorem merge_rel {K : PySem.W.Frag} {G : Hp} : ∀ {more : List (L2.Key × V)} {ks : List (L2.Key × D)} {kv : List (L2.Key × V)} {ds : List (D × D)}, Paired (fun (p : L2.Key × V) (q : L2.Key × D) => p.1 = q.1 ∧ DRel K G p.2 q.2) more ks → DKs K G kv ds → DKs K G (mergeK kv more) (dmerge ds ks)
  | _, _, _, _, .nil, h => h
  | (a, b) :: m, (c, d) :: n, kv, ds, .cons h t, g => by
    obtain ⟨h1, h2⟩ := h
    have e : a = c := h1
    subst e
    show DKs K G (mergeK (putK kv a b) m) (dmerge (dput ds a d) n)
    exact merge_rel t (g.put h2)
theorem mergeK_len : ∀ (more kv : List (L2.Key × V)), (mergeK kv more).length ≤ kv.length + more.length
  | [], kv => Nat.le_refl _
  | p :: more, kv => by
    have h1 := mergeK_len more (putK kv p.1 p.2)
    have h2 := length_putK kv p.1 p.2
    have e : mergeK kv (p :: more) = mergeK (putK kv p.1 p.2) more := rfl
    rw [e, List.length_cons]
    omega
def fDisp (f : FPs) : FE := fun S => match f S with
  | some (ps, S') => match keysOf ps with
    | some ks => if ks.length ≤ 15 then some ((true, .dct (dmerge [] ks)), S') else none
    | none => none
  | none => none
theorem ve_disp {X : Cx} {ks : List (Option Expr)} {vs : List Expr} {pos : Pos} {f : FPs} (h : VPs X pos ks vs f) (hall : ks.all (·.isSome) = true := by rfl) (hl : ks.length = vs.length := by rfl) (h0 : ks ≠ [] := by simp) (h15 : ks.length ≤ 15 := by decide) : VE X (.Dict ks vs pos) (fDisp f) := by
  obtain ⟨trs, p1, s1⟩ := h.ex
  refine ⟨_, pe_disp p1 hall hl h0 h15, fun σ S G H r t S' hh Q q => ?_⟩
  unfold fDisp at hh
  split at hh
  case h_2 => cases hh
  rename_i ps S1 e1
  split at hh
  case h_2 => cases hh
  rename_i kd e2
  split at hh
  case isFalse => cases hh
  rename_i hz
  obtain ⟨rfl, rfl⟩ := some_pair hh
  intro p hp
  have o := OpPost.fresh (K := X.K) (o := .dK []) (d := .dct []) r.gh hp ⟨[], upd_same, Nat.zero_le _, .nil⟩
  have a0 := o.post r
  refine s1 σ S G _ a0.step.st ps S1 e1 _ fun vs2 G2 H2 a2 => ?_
  have no := (a0.new rfl p rfl).1
  have hp2 : H2 p = some (.dK []) := a2.step.ext.same p _ upd_same no
  obtain ⟨kv, e3, e4⟩ := keys_rel a2.rel e2
  have hl2 := paired_len e4
  refine ⟨hp2, kv, e3, by rw [hl2]; exact hz, ?_⟩
  have mr := merge_rel e4 (.nil : DKs X.K G2 [] [])
  have ml := mergeK_len kv []
  have gp2 : G2 p = none := by
    cases e : G2 p with
    | none => rfl
    | some u =>
      rcases a2.step.ext.gn p (by rw [e]; exact fun z => nomatch z) with z | z | z
      · exact (z (r.gh.free hp)).elim
      · exact (no z).elim
      · rw [upd_same] at z; cases z
  have no2 : ¬ Own σ S1 p := fun z => no (a2.step.own p z)
  have stp := a0.step.trans a2.step
  refine q _ G2 _ ⟨⟨⟨fun a u h n => ?_, stp.ext.gg, stp.ext.gn⟩, ⟨stp.st.len, fun a u h => ?_, fun i t h => ?_, stp.st.inj⟩, stp.sow⟩, ⟨p, rfl, gp2, _, upd_same, ?_, mr⟩, fun _ p' e => ?_⟩
  · rw [upd_ne (ne_of_none h hp)]
    exact stp.ext.same a u h n
  · rw [upd_ne (ne_of_none h gp2)]
    exact stp.st.gh a u h
  · obtain ⟨v, h1, h2⟩ := stp.st.sl i t h
    refine ⟨v, h1, ?_⟩
    obtain ⟨b, d⟩ := t
    cases b with
    | false => exact h2
    | true =>
      obtain ⟨q', rfl, g1, c⟩ := h2
      have ne : q' ≠ p := fun z => by subst z; exact no2 ⟨i, d, h, h1⟩
      exact ⟨q', rfl, g1, c.mono (fun _ _ h => h) fun _ h => by rw [upd_ne ne]; exact h⟩
  · have := sizeLine_eq
    have h15' : kv.length ≤ 15 := by rw [hl2]; exact hz
    have hs : (15 : Nat) ≤ sizeLine := by decide
    rw [List.length_nil] at ml
    omega
  · cases e
    exact ⟨no2, .inr hp⟩
end VL

set_option Elab.async false
set_option linter.all false
set_option maxRecDepth 100000
set_option maxHeartbeats 1000000
/-! VLS: slices; sums of tuples. -/
namespace VL
open PySem PySem.Spec PyProof.Rows L2

abbrev FPo := VSt → Option (Option Int × VSt)
def fpoN : FPo := fun S => some (none, S)
def fpoS (f : FE) : FPo := fun S => match f S with
  | some ((_, .int i), S') => some (some i, S')
  | _ => none
def SimPo (K : PySem.W.Frag) (to : TO) (f : FPo) : Prop := ∀ σ S G H, StRel K G H σ S → ∀ o S', f S = some (o, S') → ∀ Q : Option Int → Hp → Prop, (∀ G' H', Step K σ S G H S' G' H' → Q o H') → to σ H Q
structure VPo (X : Cx) (e : Option Expr) (f : FPo) : Prop where
  ex : ∃ to, PO X e to ∧ SimPo X.K to f
section
variable {X : Cx} {e : Expr}
theorem vpo_none : VPo X none fpoN := ⟨_, po_none, fun σ S G H r o S' h Q q => by cases h; exact q G H (.refl r)⟩
theorem vpo_some {f : FE} (h : VE X e f) : VPo X (some e) (fpoS f) := by
  obtain ⟨te, p, s⟩ := h.ex
  refine ⟨_, po_some p, fun σ S G H r o S' h Q q => ?_⟩
  unfold fpoS at h
  split at h
  · rename_i b i S1 e1
    obtain ⟨rfl, rfl⟩ := some_pair h
    exact s σ S G H r _ S1 e1 _ fun v G1 H1 a1 => ⟨i, a1.rel.rd.int, q G1 H1 a1.step⟩
  · cases h
end
def cutD {α : Type} (xs : List α) (lo hi : Option Int) : List α := (xs.drop (HT.sIx xs.length 0 lo)).take (HT.sIx xs.length xs.length hi - HT.sIx xs.length 0 lo)
theorem cutD_all {α : Type} (xs : List α) (lo hi : Option Int) (h : HT.sIx xs.length 0 lo = 0 ∧ HT.sIx xs.length xs.length hi = xs.length) : cutD xs lo hi = xs := by
  unfold cutD
  rw [h.1, h.2]
  simp
theorem DRels.cut {K : PySem.W.Frag} {G : Hp} {vs : List V} {ds : List D} (r : DRels K G vs ds) (lo hi : Option Int) : DRels K G (cutV vs lo hi) (cutD ds lo hi) := by
  unfold cutV cutD
  rw [r.length]
  exact (r.drop _).take _
theorem cutD_len {α : Type} (xs : List α) (lo hi : Option Int) : (cutD xs lo hi).length ≤ xs.length := by
  unfold cutD
  rw [List.length_take, List.length_drop]
  omega
def rSlc (K : PySem.W.Frag) : V → Option Int → Option Int → Hp → VK → Prop := fun x lo hi H Q => rSlL K x lo hi H Q ∨ (rSlA K x lo hi H Q ∨ rSlS x lo hi H Q)
theorem sl_any {X : Cx} : SlR X (rSlc X.K) := sl_list.or (sl_tupA.or sl_str)
def gSlc (d : D) (lo hi : Option Int) : Option T := match d with
  | .lst ds => some (true, .lst (cutD ds lo hi))
  | .tup ds => some (false, .tup (cutD ds lo hi))
  | .str z => if z.length ≤ SL then some (false, .str (cutS z lo hi)) else none
  | _ => none
def Sim3 (K : PySem.W.Frag) (r : V → Option Int → Option Int → Hp → VK → Prop) (g : D → Option Int → Option Int → Option T) : Prop := ∀ G H x d lo hi t, Same G H → RRel K G H x d → g d lo hi = some t → ∀ Q : VK, (∀ v G' H', OpPost K G H v t G' H' → Q v H') → r x lo hi H Q
theorem RRel.tupD {K : PySem.W.Frag} {G H : Hp} {v : V} {ds : List D} (h : RRel K G H v (.tup ds)) : DRel K G v (.tup ds) := by
  rcases h with h | ⟨p, _, c⟩
  · exact h
  · exact c.elim
theorem sim_slc {K : PySem.W.Frag} : Sim3 K (rSlc K) gSlc := by
  intro G H x d lo hi t gh rx hg Q q
  unfold gSlc at hg
  split at hg
  · rename_i ds
    cases hg
    obtain ⟨p, vs, rfl, h1, h2, h3⟩ := rx.lst gh
    exact .inl ⟨p, vs, rfl, SqL.of h1, fun l hl => q _ _ _ (.fresh gh hl ⟨_, upd_same, Nat.le_trans (cutV_length vs lo hi) h2, h3.cut lo hi⟩)⟩
  · rename_i ds
    cases hg
    have rd := rx.tupD
    obtain ⟨p, vs, rfl, h1, h2, h3⟩ := rx.tup gh
    refine .inr (.inl ⟨p, vs, rfl, SqT.of h1, fun hw => ?_, fun hw l hl => ?_⟩)
    · rw [h3.length] at hw
      rw [cutD_all ds lo hi hw] at q
      exact q _ _ _ (.pure gh rd)
    · have gp := gh.free hl
      exact q _ _ _ (.freshSh gh hl (.tup upd_same (Nat.le_trans (cutV_length vs lo hi) h2) ((h3.cut lo hi).mono (same_upd gp))))
  · rename_i z
    split at hg
    · rename_i hz
      cases hg
      exact .inr (.inr ⟨z, rx.str, SL_le hz, q _ _ _ (.pure gh (.str _))⟩)
    · cases hg
  · cases hg
def fSlc (f : FO) (lo hi : FPo) : FE := fun S => match f S with
  | some (o, S1) => match lo S1 with
    | some (l, S2) => match hi S2 with
      | some (h, S3) => match res S3 o with
        | some d => match gSlc d l h with
          | some t => some (t, S3)
          | none => none
        | none => none
      | none => none
    | none => none
  | none => none
def fRev (f : FO) : FE := fun S => match f S with
  | some (o, S1) => match res S1 o with
    | some (.lst ds) => some ((true, .lst ds.reverse), S1)
    | _ => none
  | none => none
section
variable {X : Cx} {e : Expr} {pos p2 : Pos}
theorem ve_slc {f : FO} {lo hi : Option Expr} {l h : FPo} (ha : VO X e f) (hl : VPo X lo l) (hh : VPo X hi h) : VE X (.Subscript e (.Slice lo hi none p2) pos) (fSlc f l h) := by
  obtain ⟨ta, p1, s1⟩ := ha.ex
  obtain ⟨tl, p2, s2⟩ := hl.ex
  obtain ⟨th, p3, s3⟩ := hh.ex
  refine ⟨_, pe_slice sl_any p1 p2 p3, fun σ S G H r t S' hq Q q => ?_⟩
  unfold fSlc at hq
  split at hq
  case h_2 => cases hq
  rename_i o S1 e1
  split at hq
  case h_2 => cases hq
  rename_i lv S2 e2
  split at hq
  case h_2 => cases hq
  rename_i hv S3 e3
  split at hq
  case h_2 => cases hq
  rename_i d e4
  split at hq
  case h_2 => cases hq
  rename_i t' e5
  obtain ⟨rfl, rfl⟩ := some_pair hq
  refine s1 σ S G H r o S1 e1 _ fun v G1 H1 a1 => ?_
  refine s2 σ S1 G1 H1 a1.step.st lv S2 e2 _ fun G2 H2 a2 => ?_
  refine s3 σ S2 G2 H2 a2.st hv S3 e3 _ fun G3 H3 a3 => ?_
  have b := (a1.over a2).over a3
  refine sim_slc G3 H3 v d lv hv t' a3.st.gh (b.rd e4) e5 _ fun v2 G4 H4 o4 => ?_
  exact q v2 G4 H4 (b.step.post (o4.post a3.st))
theorem ve_rev {k : Nat} {p1 p2 p3 : Pos} {f : FO} (ha : VO X e f) : VE X (.Subscript e (.Slice none none (some (.UnaryOp .USub (.Constant (.int 1) k p1) p2)) p3) pos) (fRev f) := by
  obtain ⟨ta, q1, s1⟩ := ha.ex
  refine ⟨_, pe_revL q1, fun σ S G H r t S' hq Q q => ?_⟩
  unfold fRev at hq
  split at hq
  case h_2 => cases hq
  rename_i o S1 e1
  split at hq
  case h_2 => cases hq
  rename_i ds e2
  obtain ⟨rfl, rfl⟩ := some_pair hq
  refine s1 σ S G H r o S1 e1 _ fun v G1 H1 a1 => ?_
  obtain ⟨p, vs, rfl, h1, h2, h3⟩ := (a1.rd e2).lst a1.step.st.gh
  refine ⟨p, vs, rfl, SqL.of h1, fun l hl => ?_⟩
  have o := OpPost.fresh (K := X.K) (o := .lst vs.reverse) (d := .lst ds.reverse) a1.step.st.gh hl ⟨_, upd_same, by rw [List.length_reverse]; exact h2, h3.reverse⟩
  exact q _ _ _ (a1.step.post (o.post a1.step.st))
end
section
variable {X : Cx} {x : Str} {pos : Pos}
theorem ve_strG {s : Str} (h : ∃ t, X.mg x = some (.str s t)) (hg : Gl X x := by rfl) (hd : (x == ("__debug__" : Str)) = false := by decide) : VE X (.Name x pos) (fC (.str s)) := by
  obtain ⟨t, h⟩ := h
  exact ve_glob (v := .str s) h ⟨t, rfl⟩ (fun _ => .str s) hg hd
theorem ve_intG {s : Int} (h : ∃ t, X.mg x = some (.int s t)) (hg : Gl X x := by rfl) (hd : (x == ("__debug__" : Str)) = false := by decide) : VE X (.Name x pos) (fC (.int s)) := by
  obtain ⟨t, h⟩ := h
  exact ve_glob (v := .int s) h ⟨t, rfl⟩ (fun _ => .int s) hg hd
end
/-! ### == of texts, whatever they hold -/
def gEqA : D → D → Option T
  | .str a, .str b => tB (a == b)
  | x, y => gEq x y
def gNeA : D → D → Option T
  | .str a, .str b => tB (!(a == b))
  | x, y => gNe x y
theorem op_eqA {X : Cx} (hu : X.A.units + 64 < cLine) : OpR X (compareOp .Eq) (fun x y H Q => rEqD X.K x y H Q ∨ rEq x y H Q) := (op_eqD hu).or op_eq
theorem op_neA {X : Cx} (hu : X.A.units + 64 < cLine) : OpR X (compareOp .NotEq) (fun x y H Q => rNeD X.K x y H Q ∨ rNe x y H Q) := (op_neD hu).or op_ne
theorem sim_eqA {K : PySem.W.Frag} : Sim2 K (fun x y H Q => rEqD K x y H Q ∨ rEq x y H Q) gEqA := by
  intro G H x y d e t gh rx ry hg Q q
  unfold gEqA at hg
  split at hg
  · rename_i a b
    cases hg
    obtain rfl := rx.str
    obtain rfl := ry.str
    refine .inr ⟨rfl, ?_⟩
    rw [dec_str]
    exact q _ _ _ (.pure gh (.bl _))
  · exact .inl (sim_eq G H _ _ _ _ _ gh rx ry hg Q q)
theorem sim_neA {K : PySem.W.Frag} : Sim2 K (fun x y H Q => rNeD K x y H Q ∨ rNe x y H Q) gNeA := by
  intro G H x y d e t gh rx ry hg Q q
  unfold gNeA at hg
  split at hg
  · rename_i a b
    cases hg
    obtain rfl := rx.str
    obtain rfl := ry.str
    refine .inr ⟨rfl, ?_⟩
    rw [dec_str]
    exact q _ _ _ (.pure gh (.bl _))
  · exact .inl (sim_ne G H _ _ _ _ _ gh rx ry hg Q q)
end VL

set_option Elab.async false
set_option linter.all false
set_option maxRecDepth 100000
set_option maxHeartbeats 1000000
/-! VP1: steps of the Lean functions. -/
namespace VL
theorem fSeq_ret {f g : FS} {S S1 : VSt} {t : T} (h : f S = some (.ret t S1)) : fSeq f g S = some (.ret t S1) := by unfold fSeq; rw [h]
theorem fSeq_nx {f g : FS} {S S1 : VSt} {o : Option Out} (h : f S = some (.nx S1)) (h2 : g S1 = o) : fSeq f g S = o := by unfold fSeq; rw [h]; exact h2
theorem fIf_t {c : FT} {f g : FS} {S S1 : VSt} {o : Option Out} (h : c S = some (true, S1)) (h2 : f S1 = o) : fIf c f g S = o := by unfold fIf; rw [h]; exact h2
theorem fIf_f {c : FT} {f g : FS} {S S1 : VSt} {o : Option Out} (h : c S = some (false, S1)) (h2 : g S1 = o) : fIf c f g S = o := by unfold fIf; rw [h]; exact h2
theorem fRet_of {f : FE} {S S1 : VSt} {t : T} (h : f S = some (t, S1)) : fRet f S = some (.ret t S1) := by unfold fRet; rw [h]
theorem fSet_of {f : FE} {S S1 : VSt} {t : T} {i : Nat} (h : f S = some (t, S1)) (hi : i < S1.length) : fSet i f S = some (.nx (S1.set i (some t))) := by unfold fSet; rw [h]; exact if_pos hi
theorem fDrop_of {f : FE} {S S1 : VSt} {t : T} (h : f S = some (t, S1)) : fDrop f S = some (.nx S1) := by unfold fDrop; rw [h]
theorem fOr_t {f g : FT} {S S1 : VSt} (h : f S = some (true, S1)) : fOr f g S = some (true, S1) := by unfold fOr; rw [h]
theorem fOr_f {f g : FT} {S S1 : VSt} {o : Option (Bool × VSt)} (h : f S = some (false, S1)) (h2 : g S1 = o) : fOr f g S = o := by unfold fOr; rw [h]; exact h2
theorem fAnd_f {f g : FT} {S S1 : VSt} (h : f S = some (false, S1)) : fAnd f g S = some (false, S1) := by unfold fAnd; rw [h]
theorem fAnd_t {f g : FT} {S S1 : VSt} {o : Option (Bool × VSt)} (h : f S = some (true, S1)) (h2 : g S1 = o) : fAnd f g S = o := by unfold fAnd; rw [h]; exact h2
theorem fNot_of {f : FT} {S S1 : VSt} {b : Bool} (h : f S = some (b, S1)) : fNot f S = some (!b, S1) := by unfold fNot; rw [h]
theorem fTest_of {f : FE} {S S1 : VSt} {o b : Bool} (h : f S = some ((o, .bl b), S1)) : fTest f S = some (b, S1) := by unfold fTest; rw [h]
theorem fIfE_t {c : FT} {f g : FE} {S S1 : VSt} {o : Option (T × VSt)} (h : c S = some (true, S1)) (h2 : f S1 = o) : fIfE c f g S = o := by unfold fIfE; rw [h]; exact h2
theorem fIfE_f {c : FT} {f g : FE} {S S1 : VSt} {o : Option (T × VSt)} (h : c S = some (false, S1)) (h2 : g S1 = o) : fIfE c f g S = o := by unfold fIfE; rw [h]; exact h2
theorem fPar_of {i j : Nat} {f g : FE} {S S1 S2 : VSt} {t u : T} (h : f S = some (t, S1)) (h2 : g S1 = some (u, S2)) (hi : i < S2.length ∧ j < S2.length) : fPar i j f g S = some (.nx ((S2.set i (some t)).set j (some u))) := by unfold fPar; rw [h]; simp only []; rw [h2]; exact if_pos hi
theorem body_ret {N n : Nat} {kp : Kp} {F : FS} {ts : List T} {t : T} {S : VSt} (hl : ts.length = n) (h : F (ts.map some ++ List.replicate (N - n) none) = some (.ret t S)) : bodyFn N n kp F ts = some (t, backs kp S 0 ts) := by
  unfold bodyFn
  rw [if_pos hl, h]
theorem body_nx {N n : Nat} {kp : Kp} {F : FS} {ts : List T} {S : VSt} (hl : ts.length = n) (h : F (ts.map some ++ List.replicate (N - n) none) = some (.nx S)) : bodyFn N n kp F ts = some ((false, .non), backs kp S 0 ts) := by
  unfold bodyFn
  rw [if_pos hl, h]
theorem fOp1_of {g : D → Option T} {f : FO} {S S1 : VSt} {o : Opd} {d : D} {t : T} (h : f S = some (o, S1)) (h2 : res S1 o = some d) (h3 : g d = some t) : fOp1 g f S = some (t, S1) := by
  unfold fOp1; rw [h]; simp only []; rw [h2]; simp only []; rw [h3]
theorem fOp2_of {g : D → D → Option T} {f f' : FO} {S S1 S2 : VSt} {o o' : Opd} {d e : D} {t : T} (h : f S = some (o, S1)) (h2 : f' S1 = some (o', S2)) (h3 : res S2 o = some d) (h4 : res S2 o' = some e) (h5 : g d e = some t) : fOp2 g f f' S = some (t, S2) := by
  unfold fOp2; rw [h]; simp only []; rw [h2]; simp only []; rw [h3, h4]; simp only []; rw [h5]
theorem fOpd_of {f : FE} {S S1 : VSt} {t : T} (h : f S = some (t, S1)) : fOpd f S = some (.inl t, S1) := by unfold fOpd; rw [h]; rfl
/-- f(..), lending nothing -/
theorem fCall_of {F : Fn} {fa : FA} {S S1 : VSt} {ts : List T} {t : T} {bs : List (Option T)} (h : fa S = some (ts, S1)) (h2 : F ts = some (t, bs)) : fCall F none fa S = some (t, S1) := by unfold fCall; rw [h]; simp only []; rw [h2]; rfl
theorem fCallL_of {F : Fn} {k i : Nat} {fa : FA} {S S1 : VSt} {ts : List T} {t u : T} {bs : List (Option T)} (h : fa S = some (ts, S1)) (h2 : F ts = some (t, bs)) (h3 : bs[k]? = some (some u)) : fCall F (some (k, i)) fa S = some (t, S1.set i (some u)) := by
  unfold fCall; rw [h]; simp only []; rw [h2]; simp only [giveB]; rw [h3]
theorem fCons_of {f : FE} {g : FL} {S S1 S2 : VSt} {t : T} {ds : List D} (h : f S = some (t, S1)) (h2 : g S1 = some (ds, S2)) : fCons f g S = some (t.2 :: ds, S2) := by unfold fCons; rw [h]; simp only []; rw [h2]
theorem fTup_of {g : FL} {S S1 : VSt} {ds : List D} (h : g S = some (ds, S1)) (hz : ds.length ≤ SL) : fTup g S = some ((false, .tup ds), S1) := by unfold fTup; rw [h]; exact if_pos hz
theorem fLst_of {g : FL} {S S1 : VSt} {ds : List D} (h : g S = some (ds, S1)) (hz : ds.length ≤ SL) : fLst g S = some ((true, .lst ds), S1) := by unfold fLst; rw [h]; exact if_pos hz
theorem fBC1_of {g : List D → Option T} {f : FO} {S S1 : VSt} {o : Opd} {d : D} {t : T} (h : f S = some (o, S1)) (h2 : res S1 o = some d) (h3 : g [d] = some t) : fBC g (foCons f foNil) S = some (t, S1) := by
  simp only [fBC, foCons, foNil, h, ress, h2, h3]
theorem faCons_of {f : FE} {g : FA} {S S1 S2 : VSt} {t : T} {ts : List T} (h : f S = some (t, S1)) (h2 : g S1 = some (ts, S2)) : faCons f g S = some ((false, t.2) :: ts, S2) := by unfold faCons; rw [h]; simp only []; rw [h2]
theorem fCallK_of {F : Fn} {m l : Nat} {idx : List Nat} {fa fk : FA} {S S1 S2 : VSt} {ts us : List T} {t : T} {bs : List (Option T)} (h : fa S = some (ts, S1)) (h2 : fk S1 = some (us, S2)) (hl : ts.length = m ∧ us.length = l) (h3 : F (pick idx (ts ++ us)) = some (t, bs)) : fCallK F m l idx fa fk S = some (t, S2) := by
  unfold fCallK; rw [h]; simp only []; rw [h2]; simp only []; rw [if_pos hl, h3]
theorem fFor_of {src : FI} {gf : FG} {b : FS} {S S1 : VSt} {ds : List D} {o : Option Out} (h : src S = some (ds, S1)) (h2 : fLoop gf b ds S1 = o) : fFor src gf b S = o := by unfold fFor; rw [h]; exact h2
theorem faLend_of {i : Nat} {g : FA} {S S2 S3 : VSt} {t0 t : T} {ts : List T} (h0 : S[i]? = some (some t0)) (h : g S = some (ts, S2)) (h2 : fTake i S2 = some (t, S3)) : faLend i g S = some (t :: ts, S3) := by
  unfold faLend; rw [h0]; simp only []; rw [h]; simp only []; rw [h2]
theorem fSetIxA_dct {i : Nat} {f : FE} {g : FO} {S S1 S2 : VSt} {t : T} {x y : D} {o : Opd} {ds : List (D × D)} {k : L2.Key} (h : f S = some (t, S1)) (h1 : S1[i]? = some (some (true, x))) (h2 : g S1 = some (o, S2)) (h3 : S2[i]? = some (some (true, .dct ds))) (h4 : res S2 o = some y) (h5 : kOf y = some k) (hz : ds.length < SL) :
    fSetIxA i f g S = some (.nx (S2.set i (some (true, .dct (dput ds k t.2))))) := by
  unfold fSetIxA; rw [h]; simp only []; rw [h1]; simp only []; rw [h2]; simp only []; rw [h3]; simp only []; rw [h4]; simp only []; rw [h5]; exact if_pos hz
/-! ### loops -/
theorem fLoop_cons {gf : FG} {b : FS} {d : D} {ds : List D} {S S1 S2 : VSt} {o : Option Out} (h : gf d S = some S1) (h2 : b S1 = some (.nx S2)) (h3 : fLoop gf b ds S2 = o) : fLoop gf b (d :: ds) S = o := by
  simp only [fLoop, h, h2, h3]
/-- a loop whose turns keep J -/
theorem fLoop_inv {gf : FG} {b : FS} (J : Nat → VSt → Prop) : ∀ (ds : List D) (a : Nat) (S : VSt), J a S →
    (∀ (i : Nat) (d : D) (S1 : VSt), ds[i]? = some d → J (a + i) S1 → ∃ S2 S3, gf d S1 = some S2 ∧ b S2 = some (.nx S3) ∧ J (a + i + 1) S3) → ∃ S', fLoop gf b ds S = some (.nx S') ∧ J (a + ds.length) S'
  | [], a, S, hJ, _ => ⟨S, rfl, hJ⟩
  | d :: ds, a, S, hJ, hs => by
    obtain ⟨S2, S3, e1, e2, hJ2⟩ := hs 0 d S rfl hJ
    obtain ⟨S', e3, hJ3⟩ := fLoop_inv J ds (a + 1) S3 hJ2 fun i d' S1 h1 h2 => by
      have e : a + 1 + i = a + (i + 1) := by omega
      rw [e] at h2 ⊢
      exact hs (i + 1) d' S1 (by simpa using h1) h2
    refine ⟨S', fLoop_cons e1 e2 e3, ?_⟩
    have : a + 1 + ds.length = a + (d :: ds).length := by rw [List.length_cons]; omega
    rw [← this]
    exact hJ3
/-- a comprehension over ds, with a state J that each turn keeps -/
theorem fCompL_inv {vs : List Nat} {gf : FG} {f : FE} (J : Nat → VSt → Prop) (R : D → D → Prop) : ∀ (ds : List D) (a : Nat) (S : VSt), J a S →
    (∀ d ∈ ds, ∀ b S1, b < a + ds.length → J b S1 → ∃ S2, gf d (wipeV S1 vs) = some S2 ∧ ∃ t S3, f S2 = some (t, S3) ∧ R d t.2 ∧ J (b + 1) (wipeV S3 vs)) →
    ∃ rs S', fCompL vs gf fYes f ds S = some (rs, S') ∧ J (a + ds.length) S' ∧ rs.length = ds.length ∧ ∀ r ∈ rs, ∃ d ∈ ds, R d r
  | [], a, S, hJ, _ => ⟨[], S, rfl, hJ, rfl, fun r h => by cases h⟩
  | d :: ds, a, S, hJ, hs => by
    obtain ⟨S2, e1, t, S3, e2, hR, hJ2⟩ := hs d List.mem_cons_self a S (by simp) hJ
    obtain ⟨rs, S', e3, hb, hl, hr⟩ := fCompL_inv J R ds (a + 1) _ hJ2 fun d' hd b S1 hb => hs d' (List.mem_cons_of_mem _ hd) b S1 (by rw [List.length_cons]; omega)
    refine ⟨t.2 :: rs, S', ?_, ?_, by simp [hl], fun r h => ?_⟩
    · simp only [fCompL, e1, fYes, e2, e3]
    · have : a + 1 + ds.length = a + (d :: ds).length := by rw [List.length_cons]; omega
      rw [← this]
      exact hb
    · rcases List.mem_cons.mp h with z | z
      · subst z; exact ⟨d, List.mem_cons_self, hR⟩
      · obtain ⟨d', h1, h2⟩ := hr r z
        exact ⟨d', List.mem_cons_of_mem _ h1, h2⟩
theorem fComp_of {src : FI} {vs : List Nat} {gf : FG} {tt : FT} {f : FE} {S S1 S2 : VSt} {ds rs : List D} (h : src S = some (ds, S1)) (hl : ds.length ≤ SL) (h2 : fCompL vs gf tt f ds S1 = some (rs, S2)) : fComp src vs gf tt f S = some ((true, .lst rs), S2) := by
  unfold fComp; rw [h]; simp only []; rw [if_pos hl, h2]
/-- a comprehension whose turns change nothing -/
theorem fCompL_map {i : Nat} {f : FE} {S : VSt} {ds : List D} (g : D → D) (hi : i < S.length) (hn : S[i]? = some none) (h : ∀ d ∈ ds, ∃ o : Bool, f (S.set i (some (false, d))) = some ((o, g d), S.set i (some (false, d)))) : fCompL [i] (gfName i) fYes f ds S = some (ds.map g, S) := by
  have w1 : ∀ x : Option T, (S.set i x).set i none = S := fun x => by
    rw [List.set_set]
    have := List.getElem?_eq_some_iff.mp hn
    obtain ⟨_, e⟩ := this
    conv => rhs; rw [← List.set_getElem_self (as := S) (i := i) hi]
    rw [e]
  have w0 : S.set i none = S := by have := w1 none; rwa [List.set_set] at this
  induction ds with
  | nil => rfl
  | cons d ds ih =>
    obtain ⟨o, e⟩ := h d List.mem_cons_self
    have ih' := ih fun d' hd => h d' (List.mem_cons_of_mem _ hd)
    simp only [fCompL, wipeV, w0, gfName, hi, if_true, fYes, e, w1, ih', List.map_cons]
/-- two lists, place by place -/
inductive All2 {α β : Type} (R : α → β → Prop) : List α → List β → Prop
  | nil : All2 R [] []
  | cons {a : α} {b : β} {as : List α} {bs : List β} : R a b → All2 R as bs → All2 R (a :: as) (b :: bs)
theorem All2.len {α β : Type} {R : α → β → Prop} : ∀ {as : List α} {bs : List β}, All2 R as bs → as.length = bs.length
  | _, _, .nil => rfl
  | _, _, .cons _ t => by simp [All2.len t]
theorem All2.imp {α β : Type} {R S : α → β → Prop} (f : ∀ a b, R a b → S a b) : ∀ {as : List α} {bs : List β}, All2 R as bs → All2 S as bs
  | _, _, .nil => .nil
  | _, _, .cons h t => .cons (f _ _ h) (All2.imp f t)
theorem All2.swap {α β : Type} {R : α → β → Prop} : ∀ {as : List α} {bs : List β}, All2 R as bs → All2 (fun b a => R a b) bs as
  | _, _, .nil => .nil
  | _, _, .cons h t => .cons h (All2.swap t)
theorem fCompL_all2 {i : Nat} {f : FE} {S : VSt} (hi : i < S.length) (hn : S[i]? = some none) : ∀ {ds rs : List D}, All2 (fun d r => ∃ o : Bool, f (S.set i (some (false, d))) = some ((o, r), S.set i (some (false, d)))) ds rs → fCompL [i] (gfName i) fYes f ds S = some (rs, S) := by
  have w1 : ∀ x : Option T, (S.set i x).set i none = S := fun x => by
    rw [List.set_set]
    obtain ⟨_, e⟩ := List.getElem?_eq_some_iff.mp hn
    conv => rhs; rw [← List.set_getElem_self (as := S) (i := i) hi]
    rw [e]
  have w0 : S.set i none = S := by have := w1 none; rwa [List.set_set] at this
  intro ds rs h
  induction h with
  | nil => rfl
  | cons h t ih =>
    obtain ⟨o, e⟩ := h
    simp only [fCompL, wipeV, w0, gfName, hi, if_true, fYes, e, w1, ih]
end VL

set_option Elab.async false
set_option linter.all false
set_option maxRecDepth 100000
set_option maxHeartbeats 1000000
/-! VP2: facts of plain data: ==, repr's size. -/
namespace VL
open PySem
/-- plain data, at most n deep -/
structure Ok (n : Nat) (d : D) : Prop where
  py : d.isPy = true
  lay : d.py.canLay0 = true
  dep : d.py.depth ≤ n
theorem Ok.up {m n : Nat} {d : D} (h : Ok m d) (e : m ≤ n) : Ok n d := ⟨h.py, h.lay, Nat.le_trans h.dep e⟩
def Oks (n : Nat) (ds : List D) : Prop := ∀ d ∈ ds, Ok n d
theorem Oks.all {n : Nat} : ∀ {ds : List D}, Oks n ds → isPys ds = true ∧ PyData.canLayAll0 (pys ds) = true ∧ PyData.depthAll (pys ds) ≤ n
  | [], _ => ⟨by simp only [isPys], by simp only [pys, PyData.canLayAll0], by simp only [pys, PyData.depthAll]; omega⟩
  | d :: ds, h => by
    obtain ⟨h1, h2, h3⟩ := Oks.all (ds := ds) fun x hx => h x (List.mem_cons_of_mem _ hx)
    have h0 := h d List.mem_cons_self
    refine ⟨by simp only [isPys, h0.py, h1, Bool.and_self], by simp only [pys, PyData.canLayAll0, h0.lay, h2, Bool.and_self], ?_⟩
    simp only [pys, PyData.depthAll]
    have := h0.dep
    omega
theorem Ok.lst {n : Nat} {ds : List D} (h : Oks n ds) : Ok (n + 1) (.lst ds) := by
  obtain ⟨h1, h2, h3⟩ := h.all
  exact ⟨by simp only [D.isPy, h1], by simp only [D.py, PyData.canLay0, h2], by simp only [D.py, PyData.depth]; omega⟩
theorem Ok.tup {n : Nat} {ds : List D} (h : Oks n ds) : Ok (n + 1) (.tup ds) := by
  obtain ⟨h1, h2, h3⟩ := h.all
  exact ⟨by simp only [D.isPy, h1], by simp only [D.py, PyData.canLay0, h2], by simp only [D.py, PyData.depth]; omega⟩
theorem Ok.int {n : Nat} (i : Int) : Ok n (.int i) := ⟨by simp only [D.isPy], by simp only [D.py, PyData.canLay0], by simp only [D.py, PyData.depth]; omega⟩
theorem Ok.bl {n : Nat} (i : Bool) : Ok n (.bl i) := ⟨by simp only [D.isPy], by simp only [D.py, PyData.canLay0], by simp only [D.py, PyData.depth]; omega⟩
theorem Ok.non {n : Nat} : Ok n .non := ⟨by simp only [D.isPy], by simp only [D.py, PyData.canLay0], by simp only [D.py, PyData.depth]; omega⟩
theorem Ok.str {n : Nat} {s : Str} (h : PyData.strOk s = true) : Ok n (.str s) := ⟨by simp only [D.isPy], by simp only [D.py, PyData.canLay0, h], by simp only [D.py, PyData.depth]; omega⟩
theorem Oks.nil {n : Nat} : Oks n [] := fun _ h => by cases h
theorem Oks.cons {n : Nat} {d : D} {ds : List D} (h : Ok n d) (hs : Oks n ds) : Oks n (d :: ds) := fun x hx => by
  rcases List.mem_cons.mp hx with z | z
  · subst z; exact h
  · exact hs x z
theorem Ok.eq {n : Nat} {d : D} (h : Ok n d) (hn : n ≤ 64) : d.okEq = true := by
  unfold D.okEq SeqAt.shaped
  rw [h.py, h.lay, decide_eq_true (Nat.le_trans h.dep hn)]
  rfl
theorem Ok.refl {n : Nat} {d : D} (h : Ok n d) : eqD d d = true := by unfold eqD; exact SeqAt.eqv_refl _ h.lay
theorem gEqA_same {n : Nat} {d e : D} (h : Ok n d) (hn : n ≤ 64) (he : d = e) : gEqA d e = VL.tB true := by
  subst he
  unfold gEqA
  split
  · simp
  · unfold gEq
    rw [h.eq hn, h.refl]
    rfl
theorem gNeA_same {n : Nat} {d e : D} (h : Ok n d) (hn : n ≤ 64) (he : d = e) : gNeA d e = VL.tB false := by
  subst he
  unfold gNeA
  split
  · simp
  · unfold gNe
    rw [h.eq hn, h.refl]
    rfl
theorem gNeA_str {s z : Str} (h : s = z) : gNeA (.str s) (.str z) = VL.tB false := by
  subst h
  show VL.tB (!(s == s)) = _
  simp
theorem gEqA_int (i j : Int) : gEqA (.int i) (.int j) = VL.tB (decide (i = j)) := by
  show gEq _ _ = _
  unfold gEq
  rw [(Ok.int (n := 0) i).eq (by decide), (Ok.int (n := 0) j).eq (by decide)]
  simp [eqD, D.py, PyData.eqv]
  rfl
theorem gEqA_str (i j : Str) : gEqA (.str i) (.str j) = VL.tB (i == j) := rfl
/-! repr -/
/-- shown in at most m signs -/
structure Sh (m : Nat) (d : D) : Prop where
  sh : d.py.showable = true
  len : d.py.shown.length ≤ m
theorem Sh.up {m n : Nat} {d : D} (h : Sh m d) (e : m ≤ n) : Sh n d := ⟨h.sh, Nat.le_trans h.len e⟩
theorem shs {m : Nat} : ∀ {ds : List D}, (∀ d ∈ ds, Sh m d) → PyData.showableAll (pys ds) = true ∧ piled (PyData.shownAll (pys ds)) ≤ (m + 2) * ds.length
  | [], _ => ⟨by simp only [pys, PyData.showableAll], by simp only [pys, PyData.shownAll]; simp [piled]⟩
  | d :: ds, h => by
    obtain ⟨h1, h2⟩ := shs (ds := ds) fun x hx => h x (List.mem_cons_of_mem _ hx)
    have h0 := h d List.mem_cons_self
    refine ⟨by simp only [pys, PyData.showableAll, h0.sh, h1, Bool.and_self], ?_⟩
    simp only [pys, PyData.shownAll]
    rw [piled_cons, List.length_cons, Nat.mul_succ]
    have := h0.len
    omega
theorem join_le (ts : List Str) : (Str.join ", " ts).length ≤ piled ts := by
  cases ts with
  | nil => exact Nat.le_refl 0
  | cons t r => have := join_length_add (t :: r) (by simp); omega
theorem tuple_le (ts : List Str) : (tupleText ts).length ≤ piled ts + 3 := by
  unfold tupleText
  rw [PySem.Str.length_append, PySem.Str.length_append]
  have := join_le ts
  have h1 : (Str.ofString "(").length = 1 := by decide
  have h2 : (Str.ofString (if (ts.length == 1) = true then ",)" else ")")).length ≤ 2 := by split <;> decide
  omega
theorem textFrom_le : ∀ (ts : List Str) (k : Nat) (acc : Str), (textFrom k acc ts).length ≤ acc.length + piled ts
  | [], k, acc => by show acc.length ≤ _; omega
  | t :: r, k, acc => by
    have h := textFrom_le r (k + 1) (acc ++ (if k > 0 then ", " else "" : String) ++ t)
    have e : textFrom k acc (t :: r) = textFrom (k + 1) (acc ++ (if k > 0 then ", " else "" : String) ++ t) r := rfl
    rw [e]
    rw [PySem.Str.length_append, PySem.Str.length_append] at h
    rw [piled_cons]
    have h2 : (Str.ofString (if k > 0 then ", " else "")).length ≤ 2 := by split <;> decide
    omega
theorem list_le (ts : List Str) : (listText ts).length ≤ piled ts + 2 := by
  unfold listText
  rw [PySem.Str.length_append]
  have h := textFrom_le ts 0 "["
  have h1 : (Str.ofString "[").length = 1 := by decide
  have h2 : (Str.ofString "]").length = 1 := by decide
  omega
theorem Sh.tup {m : Nat} {ds : List D} (h : ∀ d ∈ ds, Sh m d) : Sh ((m + 2) * ds.length + 3) (.tup ds) := by
  obtain ⟨h1, h2⟩ := shs h
  refine ⟨by simp only [D.py, PyData.showable, h1], ?_⟩
  simp only [D.py, PyData.shown]
  have := tuple_le (PyData.shownAll (pys ds))
  omega
theorem Sh.lst {m : Nat} {ds : List D} (h : ∀ d ∈ ds, Sh m d) : Sh ((m + 2) * ds.length + 2) (.lst ds) := by
  obtain ⟨h1, h2⟩ := shs h
  refine ⟨by simp only [D.py, PyData.showable, h1], ?_⟩
  simp only [D.py, PyData.shown]
  have := list_le (PyData.shownAll (pys ds))
  omega
theorem gRepr_of {n m : Nat} {ds : List D} (h : Ok n (.lst ds)) (hn : n ≤ 60) (s : Sh m (.lst ds)) (hm : m ≤ SL) : gRepr [.lst ds] = VL.tS (.str (D.lst ds).py.shown) := by
  unfold gRepr D.okRepr
  simp only [h.py, s.sh, decide_eq_true (Nat.le_trans h.dep hn), decide_eq_true (Nat.le_trans s.len hm), Bool.and_self, if_true]
end VL

set_option Elab.async false
set_option linter.all false
set_option maxRecDepth 100000
set_option maxHeartbeats 4000000
namespace LW
open PySem PySem.Spec PyProof.Rows L2 VL
def topS (i : Nat) : Stmt := PySem.Challenge.pw_boundterms_k05_terms_exchanged_and_put_i.main.body.getD i (.Pass ⟨0, 0, 0, 0⟩)
structure Bn (K : PySem.W.Frag) (mg : Str → Option Value) : Prop where
  z_abs : mg "abs" = none
  z_int : mg "int" = none
  z_isinstance : mg "isinstance" = none
  z_len : mg "len" = none
  z_list : mg "list" = none
  z_max : mg "max" = none
  z_min : mg "min" = none
  z_range : mg "range" = none
  z_repr : mg "repr" = none
  z_str : mg "str" = none
  z_tuple : mg "tuple" = none
  c_HIGH : ∃ t, mg "HIGH" = some (.str "high" t)
  c_LOW : ∃ t, mg "LOW" = some (.str "low" t)
abbrev s_is_letter : Stmt := topS 6
abbrev N_is_letter : List Str := ["term"]
theorem sc_is_letter : FnScope N_is_letter ["term"] (defScope s_is_letter) := ⟨rfl, rfl, rfl, by decide +kernel, rfl, by decide +kernel, by decide +kernel⟩
abbrev k_is_letter : Kp := fun i => false
def b_is_letter : FS :=
  (fRet (fBC gIsi (foCons (fBor 0) (foCons (fOpd (fC (.ty "str"))) foNil))))
def f_is_letter : Fn := bodyFn N_is_letter.length 1 k_is_letter b_is_letter
theorem ok_is_letter {P : Program} {w : World} {K : PySem.W.Frag} {mg : Str → Option Value} {base : Heap} {f : Addr} {fd : FuncData} (Z : Bn K mg) (F : L2.Fun K "is_letter" "is_letter" s_is_letter f fd) (hm : mg "is_letter" = some (.ref f)) (hbi : Binds K fd ["term"] []) :
    Def P w K mg base "is_letter" ["term"] 1 1 f_is_letter := by
  unfold f_is_letter
  refine def_ok (k := 0) k_is_letter b_is_letter F sc_is_letter hm hbi rfl fun cdv A outer s H E hr => ?_
  have nd := sc_is_letter.nd
  unfold b_is_letter
  exact (vss_one (vs_ret (ve_callB call_isi simc_isi Z.z_isinstance (by decide +kernel) (vos_cons (vo_bor 0) (vos_cons (vo_of (ve_ty Z.z_str (by decide +kernel))) vos_nil)))))
abbrev s_exchanged : Stmt := topS 7
abbrev N_exchanged : List Str := ["term", "part"]
theorem sc_exchanged : FnScope N_exchanged ["term"] (defScope s_exchanged) := ⟨rfl, rfl, rfl, by decide +kernel, rfl, by decide +kernel, by decide +kernel⟩
abbrev k_exchanged : Kp := fun i => false
def b_exchanged (self : Fn) : FS :=
  (fSeq (fIf (fTest (fCall f_is_letter none (faCons (fVar 0) faNil))) (fRet (fTake 0)) fSkip)
  (fRet (fTup (fCons (fIfE (fTest (fOp2 gEqA (fOpd (fOp2 gIxA (fBor 0) (fOpd (fC (.int 0))))) (fOpd (fC (.str "low"))))) (fC (.str "high")) (fC (.str "low"))) (fCons (fBC gTuple (foCons (fOpd (fComp (fiSeq (fOp2 gIxA (fBor 0) (fOpd (fC (.int 1))))) [1] (gfName 1) fYes (fCall self none (faCons (fVar 1) faNil)))) foNil)) fNil)))))
def f_exchanged : Nat → Fn
  | 0 => fun _ => none
  | n + 1 => bodyFn N_exchanged.length 1 k_exchanged (b_exchanged (f_exchanged n))
theorem ok_exchanged {P : Program} {w : World} {K : PySem.W.Frag} {mg : Str → Option Value} {base : Heap} {f : Addr} {fd : FuncData} (Z : Bn K mg) (F : L2.Fun K "exchanged" "exchanged" s_exchanged f fd) (hm : mg "exchanged" = some (.ref f)) (hbi : Binds K fd ["term"] []) (d_is_letter : Def P w K mg base "is_letter" ["term"] 1 1 f_is_letter) :
    ∀ n : Nat, Def P w K mg base "exchanged" ["term"] (1 + n) 1 (f_exchanged n)
  | 0 => def_none hm F.kp hbi (fun_at F)
  | n + 1 => by
    have dself := ok_exchanged (P := P) (w := w) (base := base) Z F hm hbi d_is_letter n
    show Def P w K mg base _ _ _ _ (bodyFn N_exchanged.length 1 k_exchanged (b_exchanged (f_exchanged n)))
    refine def_ok (k := 1 + n) k_exchanged (b_exchanged (f_exchanged n)) F sc_exchanged hm hbi rfl fun cdv A outer s H E hr => ?_
    have nd := sc_exchanged.nd
    unfold b_exchanged
    exact (vss_cons (vs_if (vt_val (ve_callD d_is_letter hr (var_cons (ve_var 0) var_nil) (by omega))) (vss_one (vs_ret (ve_take 0))) vss_nil)
  (vss_one (vs_ret (ve_tup (vl_cons (ve_ifE (vt_cmp (op_eqA hr.toRoom.units) sim_eqA (vo_of (ve_ixA (RG.u65 hr) (vo_bor 0) (vo_of ve_int))) (vo_of (ve_strG Z.c_LOW))) (ve_strG Z.c_HIGH) (ve_strG Z.c_LOW)) (vl_cons (ve_callTy call_tuple_of simc_tuple Z.z_tuple (by decide +kernel) (vos_cons (vo_of (ve_comp [("part", 1)] rfl nd (vi_seq (ve_ixA (RG.u65 hr) (vo_bor 0) (vo_of ve_int))) (blkOk_by (own := [("part", 1)]) (N := N_exchanged) (sc := defScope s_exchanged) (by decide +kernel)) (fun _ _ _ _ _ => (vg_name 1 nd)) (fun _ _ _ _ _ => vts_nil) (fun _ _ _ _ _ => (ve_callD dself hr (var_cons (ve_var 1) var_nil) (by omega))))) vos_nil)) vl_nil))))))
abbrev s_with_terms : Stmt := topS 8
abbrev N_with_terms : List Str := ["term", "known", "part"]
theorem sc_with_terms : FnScope N_with_terms ["term", "known"] (defScope s_with_terms) := ⟨rfl, rfl, rfl, by decide +kernel, rfl, by decide +kernel, by decide +kernel⟩
abbrev k_with_terms : Kp := fun i => false
def b_with_terms (self : Fn) : FS :=
  (fSeq (fIf (fTest (fCall f_is_letter none (faCons (fVar 0) faNil))) (fRet (fDGet (fBor 1) (fBor 0) (fVar 0))) fSkip)
  (fRet (fTup (fCons (fOp2 gIxA (fBor 0) (fOpd (fC (.int 0)))) (fCons (fBC gTuple (foCons (fOpd (fComp (fiSeq (fOp2 gIxA (fBor 0) (fOpd (fC (.int 1))))) [2] (gfName 2) fYes (fCall self none (faCons (fVar 2) (faCons (fVar 1) faNil))))) foNil)) fNil)))))
def f_with_terms : Nat → Fn
  | 0 => fun _ => none
  | n + 1 => bodyFn N_with_terms.length 2 k_with_terms (b_with_terms (f_with_terms n))
theorem ok_with_terms {P : Program} {w : World} {K : PySem.W.Frag} {mg : Str → Option Value} {base : Heap} {f : Addr} {fd : FuncData} (Z : Bn K mg) (F : L2.Fun K "with_terms" "with_terms" s_with_terms f fd) (hm : mg "with_terms" = some (.ref f)) (hbi : Binds K fd ["term", "known"] []) (d_is_letter : Def P w K mg base "is_letter" ["term"] 1 1 f_is_letter) :
    ∀ n : Nat, Def P w K mg base "with_terms" ["term", "known"] (1 + n) 2 (f_with_terms n)
  | 0 => def_none hm F.kp hbi (fun_at F)
  | n + 1 => by
    have dself := ok_with_terms (P := P) (w := w) (base := base) Z F hm hbi d_is_letter n
    show Def P w K mg base _ _ _ _ (bodyFn N_with_terms.length 2 k_with_terms (b_with_terms (f_with_terms n)))
    refine def_ok (k := 1 + n) k_with_terms (b_with_terms (f_with_terms n)) F sc_with_terms hm hbi rfl fun cdv A outer s H E hr => ?_
    have nd := sc_with_terms.nd
    unfold b_with_terms
    exact (vss_cons (vs_if (vt_val (ve_callD d_is_letter hr (var_cons (ve_var 0) var_nil) (by omega))) (vss_one (vs_ret (ve_dget2 (RG.u65 hr) (vo_bor 1) (vo_bor 0) (ve_var 0)))) vss_nil)
  (vss_one (vs_ret (ve_tup (vl_cons (ve_ixA (RG.u65 hr) (vo_bor 0) (vo_of ve_int)) (vl_cons (ve_callTy call_tuple_of simc_tuple Z.z_tuple (by decide +kernel) (vos_cons (vo_of (ve_comp [("part", 2)] rfl nd (vi_seq (ve_ixA (RG.u65 hr) (vo_bor 0) (vo_of ve_int))) (blkOk_by (own := [("part", 2)]) (N := N_with_terms) (sc := defScope s_with_terms) (by decide +kernel)) (fun _ _ _ _ _ => (vg_name 2 nd)) (fun _ _ _ _ _ => vts_nil) (fun _ _ _ _ _ => (ve_callD dself hr (var_cons (ve_var 2) (var_cons (ve_var 1) var_nil)) (by omega))))) vos_nil)) vl_nil))))))
abbrev s_put_in : Stmt := topS 9
abbrev N_put_in : List Str := ["term", "pairs", "known", "letter", "other"]
theorem sc_put_in : FnScope N_put_in ["term", "pairs"] (defScope s_put_in) := ⟨rfl, rfl, rfl, by decide +kernel, rfl, by decide +kernel, by decide +kernel⟩
abbrev k_put_in : Kp := fun i => false
def b_put_in : FS :=
  (fSeq (fSet 2 fDNew)
  (fSeq (fFor (fiSeq (fVar 1)) (gfTup 2 (gfCons (gfName 3) (gfCons (gfName 4) gfNil))) (fSeq (fIf (fTest (fOp2 gInB (fBor 3) (fBor 2))) fNever fSkip)
  (fSetIxA 2 (fVar 4) (fBor 3))))
  (fRet (fCall (f_with_terms 12) none (faCons (fVar 0) (faCons (fVar 2) faNil))))))
def f_put_in : Fn := bodyFn N_put_in.length 2 k_put_in b_put_in
theorem ok_put_in {P : Program} {w : World} {K : PySem.W.Frag} {mg : Str → Option Value} {base : Heap} {f : Addr} {fd : FuncData} (Z : Bn K mg) (F : L2.Fun K "put_in" "put_in" s_put_in f fd) (hm : mg "put_in" = some (.ref f)) (hbi : Binds K fd ["term", "pairs"] []) (d_with_terms : Def P w K mg base "with_terms" ["term", "known"] 13 2 (f_with_terms 12)) :
    Def P w K mg base "put_in" ["term", "pairs"] 14 2 f_put_in := by
  unfold f_put_in
  refine def_ok (k := 13) k_put_in b_put_in F sc_put_in hm hbi rfl fun cdv A outer s H E hr => ?_
  have nd := sc_put_in.nd
  unfold b_put_in
  exact (vss_cons (vs_set 2 nd ve_dnew)
  (vss_cons (vs_for PassesOwn.never rfl (vi_seq (ve_var 1)) (vg_tup rfl (vgs_cons (vg_name 3 nd) (vgs_cons (vg_name 4 nd) vgs_nil))) (vss_cons (vs_if (vt_cmp (op_inB (RG.u65 hr)) sim_inB (vo_bor 3) (vo_bor 2)) (vss_one vs_never) vss_nil)
  (vss_one (vs_setIxA 2 (RG.u65 hr) (ve_var 4) (vo_bor 3)))))
  (vss_one (vs_ret (ve_callD d_with_terms hr (var_cons (ve_var 0) (var_cons (ve_var 2) var_nil)) (by omega))))))
abbrev s__law_pool : Stmt := topS 11
abbrev N__law_pool : List Str := ["_law_script", "_law_spot", "_law_cell"]
theorem sc__law_pool : FnScope N__law_pool ["_law_script", "_law_spot"] (defScope s__law_pool) := ⟨rfl, rfl, rfl, by decide +kernel, rfl, by decide +kernel, by decide +kernel⟩
abbrev k__law_pool : Kp := fun i => false
def b__law_pool : FS :=
  (fSeq (fSet 2 (fC (.int 0)))
  (fSeq (fIf (fTest (fOp2 gLt (fBor 1) (fOpd (fBC gLen (foCons (fBor 0) foNil))))) (fSet 2 (fOp2 gIxA (fBor 0) (fBor 1))) fSkip)
  (fRet (fLst (fCons (fBC gMax2 (foCons (fOpd (fC (.int 0))) (foCons (fOpd (fOp2 gSub (fOpd (fBC gAbs (foCons (fBor 2) foNil))) (fOpd (fOp2 gPow (fOpd (fC (.int 10))) (fOpd (fC (.int 18))))))) foNil))) (fCons (fOp2 gAdd (fOpd (fOp2 gMod (fOpd (fBC gInt (foCons (fBor 2) foNil))) (fOpd (fC (.int 2305843009213693951))))) (fOpd (fOp2 gMul (fOpd (fC (.int 7368787))) (fOpd (fOp2 gAdd (fBor 1) (fOpd (fC (.int 1)))))))) (fCons (fC (.int 0)) fNil)))))))
def f__law_pool : Fn := bodyFn N__law_pool.length 2 k__law_pool b__law_pool
theorem ok__law_pool {P : Program} {w : World} {K : PySem.W.Frag} {mg : Str → Option Value} {base : Heap} {f : Addr} {fd : FuncData} (Z : Bn K mg) (F : L2.Fun K "_law_pool" "_law_pool" s__law_pool f fd) (hm : mg "_law_pool" = some (.ref f)) (hbi : Binds K fd ["_law_script", "_law_spot"] []) :
    Def P w K mg base "_law_pool" ["_law_script", "_law_spot"] 1 2 f__law_pool := by
  unfold f__law_pool
  refine def_ok (k := 0) k__law_pool b__law_pool F sc__law_pool hm hbi rfl fun cdv A outer s H E hr => ?_
  have nd := sc__law_pool.nd
  unfold b__law_pool
  exact (vss_cons (vs_set 2 nd ve_int)
  (vss_cons (vs_if (vt_cmp op_lt sim_lt (vo_bor 1) (vo_of (ve_callB call_len simc_len Z.z_len (by decide +kernel) (vos_cons (vo_bor 0) vos_nil)))) (vss_one (vs_set 2 nd (ve_ixA (RG.u65 hr) (vo_bor 0) (vo_bor 1)))) vss_nil)
  (vss_one (vs_ret (ve_lst (vl_cons (ve_callB (call_max2 rfl) simc_max2 Z.z_max (by decide +kernel) (vos_cons (vo_of ve_int) (vos_cons (vo_of (ve_bin op_sub sim_sub (vo_of (ve_callB call_abs simc_abs Z.z_abs (by decide +kernel) (vos_cons (vo_bor 2) vos_nil))) (vo_of (ve_bin op_powW sim_pow (vo_of ve_int) (vo_of ve_int))))) vos_nil))) (vl_cons (ve_bin op_addA sim_add (vo_of (ve_bin op_mod sim_mod (vo_of (ve_callTy call_int1 simc_int Z.z_int (by decide +kernel) (vos_cons (vo_bor 2) vos_nil))) (vo_of ve_int))) (vo_of (ve_bin op_mulA sim_mul (vo_of ve_int) (vo_of (ve_bin op_addA sim_add (vo_bor 1) (vo_of ve_int)))))) (vl_cons ve_int vl_nil))))))))
abbrev s__law_draw : Stmt := topS 12
abbrev N__law_draw : List Str := ["_law_pool_here", "_law_span", "_law_mixed", "_law_drawn"]
theorem sc__law_draw : FnScope N__law_draw ["_law_pool_here", "_law_span"] (defScope s__law_draw) := ⟨rfl, rfl, rfl, by decide +kernel, rfl, by decide +kernel, by decide +kernel⟩
abbrev k__law_draw : Kp := fun i => i == 0
def b__law_draw : FS :=
  (fSeq (fIf (fTest (fOp2 gGt (fOpd (fOp2 gIxA (fBor 0) (fOpd (fC (.int 0))))) (fOpd (fC (.int 0))))) (fSeq (fSet 3 (fOp2 gMod (fOpd (fBC gInt (foCons (fOpd (fOp2 gIxA (fBor 0) (fOpd (fC (.int 0))))) foNil))) (fBor 1)))
  (fSeq (fSetIxA 0 (fOp2 gFdiv (fOpd (fOp2 gIxA (fBor 0) (fOpd (fC (.int 0))))) (fBor 1)) (fOpd (fC (.int 0))))
  (fRet (fTake 3)))) fSkip)
  (fSeq (fSetIxA 0 (fOp2 gAdd (fOpd (fOp2 gIxA (fBor 0) (fOpd (fC (.int 2))))) (fOpd (fC (.int 1)))) (fOpd (fC (.int 2))))
  (fSeq (fSet 2 (fOp2 gMod (fOpd (fBC gInt (foCons (fOpd (fOp2 gPow (fOpd (fOp2 gAdd (fOpd (fOp2 gIxA (fBor 0) (fOpd (fC (.int 1))))) (fOpd (fOp2 gMul (fOpd (fC (.int 15485863))) (fOpd (fOp2 gIxA (fBor 0) (fOpd (fC (.int 2))))))))) (fOpd (fC (.int 3))))) foNil))) (fOpd (fC (.int 162259276829213363391578010288127)))))
  (fSeq (fSet 2 (fOp2 gMod (fOpd (fBC gInt (foCons (fOpd (fOp2 gPow (fOpd (fOp2 gAdd (fBor 2) (fOpd (fOp2 gMul (fOpd (fC (.int 32452843))) (fOpd (fOp2 gIxA (fBor 0) (fOpd (fC (.int 2))))))))) (fOpd (fC (.int 3))))) foNil))) (fOpd (fC (.int 170141183460469231731687303715884105727)))))
  (fRet (fOp2 gMod (fOpd (fBC gInt (foCons (fOpd (fOp2 gFdiv (fBor 2) (fOpd (fC (.int 1048576))))) foNil))) (fBor 1)))))))
def f__law_draw : Fn := bodyFn N__law_draw.length 2 k__law_draw b__law_draw
theorem ok__law_draw {P : Program} {w : World} {K : PySem.W.Frag} {mg : Str → Option Value} {base : Heap} {f : Addr} {fd : FuncData} (Z : Bn K mg) (F : L2.Fun K "_law_draw" "_law_draw" s__law_draw f fd) (hm : mg "_law_draw" = some (.ref f)) (hbi : Binds K fd ["_law_pool_here", "_law_span"] []) :
    Def P w K mg base "_law_draw" ["_law_pool_here", "_law_span"] 1 2 f__law_draw := by
  unfold f__law_draw
  refine def_ok (k := 0) k__law_draw b__law_draw F sc__law_draw hm hbi rfl fun cdv A outer s H E hr => ?_
  have nd := sc__law_draw.nd
  unfold b__law_draw
  exact (vss_cons (vs_if (vt_cmp op_gt sim_gt (vo_of (ve_ixA (RG.u65 hr) (vo_bor 0) (vo_of ve_int))) (vo_of ve_int)) (vss_cons (vs_set 3 nd (ve_bin op_mod sim_mod (vo_of (ve_callTy call_int1 simc_int Z.z_int (by decide +kernel) (vos_cons (vo_of (ve_ixA (RG.u65 hr) (vo_bor 0) (vo_of ve_int))) vos_nil))) (vo_bor 1)))
  (vss_cons (vs_setIxA 0 (RG.u65 hr) (ve_bin op_fdivW sim_fdiv (vo_of (ve_ixA (RG.u65 hr) (vo_bor 0) (vo_of ve_int))) (vo_bor 1)) (vo_of ve_int))
  (vss_one (vs_ret (ve_take 3))))) vss_nil)
  (vss_cons (vs_setIxA 0 (RG.u65 hr) (ve_bin op_addA sim_add (vo_of (ve_ixA (RG.u65 hr) (vo_bor 0) (vo_of ve_int))) (vo_of ve_int)) (vo_of ve_int))
  (vss_cons (vs_set 2 nd (ve_bin op_mod sim_mod (vo_of (ve_callTy call_int1 simc_int Z.z_int (by decide +kernel) (vos_cons (vo_of (ve_bin op_powW sim_pow (vo_of (ve_bin op_addA sim_add (vo_of (ve_ixA (RG.u65 hr) (vo_bor 0) (vo_of ve_int))) (vo_of (ve_bin op_mulA sim_mul (vo_of ve_int) (vo_of (ve_ixA (RG.u65 hr) (vo_bor 0) (vo_of ve_int))))))) (vo_of ve_int))) vos_nil))) (vo_of ve_int)))
  (vss_cons (vs_set 2 nd (ve_bin op_mod sim_mod (vo_of (ve_callTy call_int1 simc_int Z.z_int (by decide +kernel) (vos_cons (vo_of (ve_bin op_powW sim_pow (vo_of (ve_bin op_addA sim_add (vo_bor 2) (vo_of (ve_bin op_mulA sim_mul (vo_of ve_int) (vo_of (ve_ixA (RG.u65 hr) (vo_bor 0) (vo_of ve_int))))))) (vo_of ve_int))) vos_nil))) (vo_of ve_int)))
  (vss_one (vs_ret (ve_bin op_mod sim_mod (vo_of (ve_callTy call_int1 simc_int Z.z_int (by decide +kernel) (vos_cons (vo_of (ve_bin op_fdivW sim_fdiv (vo_bor 2) (vo_of ve_int))) vos_nil))) (vo_bor 1))))))))
abbrev s__law_term : Stmt := topS 13
abbrev N__law_term : List Str := ["_law_pool_here", "_law_names", "_law_wide", "_law_deep", "_law_shares", "_law_kind", "_law_amount", "_law_share"]
theorem sc__law_term : FnScope N__law_term ["_law_pool_here", "_law_names", "_law_wide", "_law_deep"] (defScope s__law_term) := ⟨rfl, rfl, rfl, by decide +kernel, rfl, by decide +kernel, by decide +kernel⟩
abbrev k__law_term : Kp := fun i => i == 0
def b__law_term (self : Fn) : FS :=
  (fSeq (fIf (fOr (fTest (fOp2 gLt (fBor 2) (fOpd (fC (.int 2))))) (fOr (fTest (fOp2 gLt (fBor 3) (fOpd (fC (.int 2))))) (fTest (fOp2 gEqA (fOpd (fCall f__law_draw (some (0, 0)) (faLend 0 (faCons (fC (.int 4)) faNil)))) (fOpd (fC (.int 0))))))) (fRet (fOp2 gIxA (fBor 1) (fOpd (fCall f__law_draw (some (0, 0)) (faLend 0 (faCons (fBC gLen (foCons (fBor 1) foNil)) faNil)))))) fSkip)
  (fSeq (fPar 5 6 (fOp2 gIxA (fOpd (fLst (fCons (fC (.str "low")) (fCons (fC (.str "high")) fNil)))) (fOpd (fCall f__law_draw (some (0, 0)) (faLend 0 (faCons (fC (.int 2)) faNil))))) (fOp2 gAdd (fOpd (fC (.int 2))) (fOpd (fIfE (fTest (fOp2 gGt (fBor 2) (fOpd (fC (.int 2))))) (fCall f__law_draw (some (0, 0)) (faLend 0 (faCons (fC (.int 2)) faNil))) (fC (.int 0))))))
  (fSeq (fSet 4 (fOp2 gMul (fOpd (fLst (fCons (fOp2 gFdiv (fBor 2) (fBor 6)) fNil))) (fBor 6)))
  (fSeq (fSetIxA 4 (fOp2 gSub (fBor 2) (fOpd (fOp2 gMul (fOpd (fOp2 gFdiv (fBor 2) (fBor 6))) (fOpd (fOp2 gSub (fBor 6) (fOpd (fC (.int 1)))))))) (fOpd (fOp1 gNeg (fOpd (fC (.int 1))))))
  (fRet (fTup (fCons (fVar 5) (fCons (fBC gTuple (foCons (fOpd (fComp (fiSeq (fVar 4)) [7] (gfName 7) fYes (fCall self (some (0, 0)) (faLend 0 (faCons (fVar 1) (faCons (fVar 7) (faCons (fOp2 gSub (fBor 3) (fOpd (fC (.int 1)))) faNil))))))) foNil)) fNil))))))))
def f__law_term : Nat → Fn
  | 0 => fun _ => none
  | n + 1 => bodyFn N__law_term.length 4 k__law_term (b__law_term (f__law_term n))
theorem ok__law_term {P : Program} {w : World} {K : PySem.W.Frag} {mg : Str → Option Value} {base : Heap} {f : Addr} {fd : FuncData} (Z : Bn K mg) (F : L2.Fun K "_law_term" "_law_term" s__law_term f fd) (hm : mg "_law_term" = some (.ref f)) (hbi : Binds K fd ["_law_pool_here", "_law_names", "_law_wide", "_law_deep"] []) (d__law_draw : Def P w K mg base "_law_draw" ["_law_pool_here", "_law_span"] 1 2 f__law_draw) :
    ∀ n : Nat, Def P w K mg base "_law_term" ["_law_pool_here", "_law_names", "_law_wide", "_law_deep"] (1 + n) 4 (f__law_term n)
  | 0 => def_none hm F.kp hbi (fun_at F)
  | n + 1 => by
    have dself := ok__law_term (P := P) (w := w) (base := base) Z F hm hbi d__law_draw n
    show Def P w K mg base _ _ _ _ (bodyFn N__law_term.length 4 k__law_term (b__law_term (f__law_term n)))
    refine def_ok (k := 1 + n) k__law_term (b__law_term (f__law_term n)) F sc__law_term hm hbi rfl fun cdv A outer s H E hr => ?_
    have nd := sc__law_term.nd
    unfold b__law_term
    exact (vss_cons (vs_if (vt_w (vw_or (vt_cmp op_lt sim_lt (vo_bor 2) (vo_of ve_int)) (vw_or (vt_cmp op_lt sim_lt (vo_bor 3) (vo_of ve_int)) (vw_or1 (vt_cmp (op_eqA hr.toRoom.units) sim_eqA (vo_of (ve_callD d__law_draw hr (var_lend 0 (var_cons ve_int var_nil)) (by omega))) (vo_of ve_int)))))) (vss_one (vs_ret (ve_ixA (RG.u65 hr) (vo_bor 1) (vo_of (ve_callD d__law_draw hr (var_lend 0 (var_cons (ve_callB call_len simc_len Z.z_len (by decide +kernel) (vos_cons (vo_bor 1) vos_nil)) var_nil)) (by omega)))))) vss_nil)
  (vss_cons (vs_par 5 6 rfl nd (ve_ixA (RG.u65 hr) (vo_of (ve_lst (vl_cons ve_str (vl_cons ve_str vl_nil)))) (vo_of (ve_callD d__law_draw hr (var_lend 0 (var_cons ve_int var_nil)) (by omega)))) (ve_bin op_addA sim_add (vo_of ve_int) (vo_of (ve_ifE (vt_cmp op_gt sim_gt (vo_bor 2) (vo_of ve_int)) (ve_callD d__law_draw hr (var_lend 0 (var_cons ve_int var_nil)) (by omega)) ve_int))))
  (vss_cons (vs_set 4 nd (ve_bin op_mulA sim_mul (vo_of (ve_lst (vl_cons (ve_bin op_fdivW sim_fdiv (vo_bor 2) (vo_bor 6)) vl_nil))) (vo_bor 6)))
  (vss_cons (vs_setIxA 4 (RG.u65 hr) (ve_bin op_sub sim_sub (vo_bor 2) (vo_of (ve_bin op_mulA sim_mul (vo_of (ve_bin op_fdivW sim_fdiv (vo_bor 2) (vo_bor 6))) (vo_of (ve_bin op_sub sim_sub (vo_bor 6) (vo_of ve_int)))))) (vo_of (ve_un un_neg sim_neg (vo_of ve_int))))
  (vss_one (vs_ret (ve_tup (vl_cons (ve_var 5) (vl_cons (ve_callTy call_tuple_of simc_tuple Z.z_tuple (by decide +kernel) (vos_cons (vo_of (ve_comp [("_law_share", 7)] rfl nd (vi_seq (ve_var 4)) (blkOk_by (own := [("_law_share", 7)]) (N := N__law_term) (sc := defScope s__law_term) (by decide +kernel)) (fun _ _ _ _ _ => (vg_name 7 nd)) (fun _ _ _ _ _ => vts_nil) (fun _ _ _ _ _ => (ve_callD dself hr (var_lend 0 (var_cons (ve_var 1) (var_cons (ve_var 7) (var_cons (ve_bin op_sub sim_sub (vo_bor 3) (vo_of ve_int)) var_nil)))) (by omega))))) vos_nil)) vl_nil)))))))))
abbrev s__law_other : Stmt := topS 14
abbrev N__law_other : List Str := ["_law_whole", "_law_part"]
theorem sc__law_other : FnScope N__law_other ["_law_whole"] (defScope s__law_other) := ⟨rfl, rfl, rfl, by decide +kernel, rfl, by decide +kernel, by decide +kernel⟩
abbrev k__law_other : Kp := fun i => false
def b__law_other (self : Fn) : FS :=
  (fSeq (fIf (fTest (fBC gIsi (foCons (fBor 0) (foCons (fOpd (fC (.ty "str"))) foNil)))) (fRet (fTake 0)) fSkip)
  (fRet (fTup (fCons (fIfE (fTest (fOp2 gEqA (fOpd (fOp2 gIxA (fBor 0) (fOpd (fC (.int 0))))) (fOpd (fC (.str "high"))))) (fC (.str "low")) (fC (.str "high"))) (fCons (fBC gTuple (foCons (fOpd (fComp (fiSeq (fOp2 gIxA (fBor 0) (fOpd (fC (.int 1))))) [1] (gfName 1) fYes (fCall self none (faCons (fVar 1) faNil)))) foNil)) fNil)))))
def f__law_other : Nat → Fn
  | 0 => fun _ => none
  | n + 1 => bodyFn N__law_other.length 1 k__law_other (b__law_other (f__law_other n))
theorem ok__law_other {P : Program} {w : World} {K : PySem.W.Frag} {mg : Str → Option Value} {base : Heap} {f : Addr} {fd : FuncData} (Z : Bn K mg) (F : L2.Fun K "_law_other" "_law_other" s__law_other f fd) (hm : mg "_law_other" = some (.ref f)) (hbi : Binds K fd ["_law_whole"] []) :
    ∀ n : Nat, Def P w K mg base "_law_other" ["_law_whole"] (0 + n) 1 (f__law_other n)
  | 0 => def_none hm F.kp hbi (fun_at F)
  | n + 1 => by
    have dself := ok__law_other (P := P) (w := w) (base := base) Z F hm hbi  n
    show Def P w K mg base _ _ _ _ (bodyFn N__law_other.length 1 k__law_other (b__law_other (f__law_other n)))
    refine def_ok (k := 0 + n) k__law_other (b__law_other (f__law_other n)) F sc__law_other hm hbi rfl fun cdv A outer s H E hr => ?_
    have nd := sc__law_other.nd
    unfold b__law_other
    exact (vss_cons (vs_if (vt_val (ve_callB call_isi simc_isi Z.z_isinstance (by decide +kernel) (vos_cons (vo_bor 0) (vos_cons (vo_of (ve_ty Z.z_str (by decide +kernel))) vos_nil)))) (vss_one (vs_ret (ve_take 0))) vss_nil)
  (vss_one (vs_ret (ve_tup (vl_cons (ve_ifE (vt_cmp (op_eqA hr.toRoom.units) sim_eqA (vo_of (ve_ixA (RG.u65 hr) (vo_bor 0) (vo_of ve_int))) (vo_of ve_str)) ve_str ve_str) (vl_cons (ve_callTy call_tuple_of simc_tuple Z.z_tuple (by decide +kernel) (vos_cons (vo_of (ve_comp [("_law_part", 1)] rfl nd (vi_seq (ve_ixA (RG.u65 hr) (vo_bor 0) (vo_of ve_int))) (blkOk_by (own := [("_law_part", 1)]) (N := N__law_other) (sc := defScope s__law_other) (by decide +kernel)) (fun _ _ _ _ _ => (vg_name 1 nd)) (fun _ _ _ _ _ => vts_nil) (fun _ _ _ _ _ => (ve_callD dself hr (var_cons (ve_var 1) var_nil) (by omega))))) vos_nil)) vl_nil))))))
abbrev s__law_put : Stmt := topS 15
abbrev N__law_put : List Str := ["_law_whole", "_law_known", "_law_part"]
theorem sc__law_put : FnScope N__law_put ["_law_whole", "_law_known"] (defScope s__law_put) := ⟨rfl, rfl, rfl, by decide +kernel, rfl, by decide +kernel, by decide +kernel⟩
abbrev k__law_put : Kp := fun i => false
def b__law_put (self : Fn) : FS :=
  (fSeq (fIf (fTest (fBC gIsi (foCons (fBor 0) (foCons (fOpd (fC (.ty "str"))) foNil)))) (fRet (fIfE (fTest (fOp2 gInB (fBor 0) (fBor 1))) (fOp2 gIxA (fBor 1) (fBor 0)) (fVar 0))) fSkip)
  (fRet (fTup (fCons (fOp2 gIxA (fBor 0) (fOpd (fC (.int 0)))) (fCons (fBC gTuple (foCons (fOpd (fComp (fiSeq (fOp2 gIxA (fBor 0) (fOpd (fC (.int 1))))) [2] (gfName 2) fYes (fCall self none (faCons (fVar 2) (faCons (fVar 1) faNil))))) foNil)) fNil)))))
def f__law_put : Nat → Fn
  | 0 => fun _ => none
  | n + 1 => bodyFn N__law_put.length 2 k__law_put (b__law_put (f__law_put n))
theorem ok__law_put {P : Program} {w : World} {K : PySem.W.Frag} {mg : Str → Option Value} {base : Heap} {f : Addr} {fd : FuncData} (Z : Bn K mg) (F : L2.Fun K "_law_put" "_law_put" s__law_put f fd) (hm : mg "_law_put" = some (.ref f)) (hbi : Binds K fd ["_law_whole", "_law_known"] []) :
    ∀ n : Nat, Def P w K mg base "_law_put" ["_law_whole", "_law_known"] (0 + n) 2 (f__law_put n)
  | 0 => def_none hm F.kp hbi (fun_at F)
  | n + 1 => by
    have dself := ok__law_put (P := P) (w := w) (base := base) Z F hm hbi  n
    show Def P w K mg base _ _ _ _ (bodyFn N__law_put.length 2 k__law_put (b__law_put (f__law_put n)))
    refine def_ok (k := 0 + n) k__law_put (b__law_put (f__law_put n)) F sc__law_put hm hbi rfl fun cdv A outer s H E hr => ?_
    have nd := sc__law_put.nd
    unfold b__law_put
    exact (vss_cons (vs_if (vt_val (ve_callB call_isi simc_isi Z.z_isinstance (by decide +kernel) (vos_cons (vo_bor 0) (vos_cons (vo_of (ve_ty Z.z_str (by decide +kernel))) vos_nil)))) (vss_one (vs_ret (ve_ifE (vt_cmp (op_inB (RG.u65 hr)) sim_inB (vo_bor 0) (vo_bor 1)) (ve_ixA (RG.u65 hr) (vo_bor 1) (vo_bor 0)) (ve_var 0)))) vss_nil)
  (vss_one (vs_ret (ve_tup (vl_cons (ve_ixA (RG.u65 hr) (vo_bor 0) (vo_of ve_int)) (vl_cons (ve_callTy call_tuple_of simc_tuple Z.z_tuple (by decide +kernel) (vos_cons (vo_of (ve_comp [("_law_part", 2)] rfl nd (vi_seq (ve_ixA (RG.u65 hr) (vo_bor 0) (vo_of ve_int))) (blkOk_by (own := [("_law_part", 2)]) (N := N__law_put) (sc := defScope s__law_put) (by decide +kernel)) (fun _ _ _ _ _ => (vg_name 2 nd)) (fun _ _ _ _ _ => vts_nil) (fun _ _ _ _ _ => (ve_callD dself hr (var_cons (ve_var 2) (var_cons (ve_var 1) var_nil)) (by omega))))) vos_nil)) vl_nil))))))
abbrev s__law_right : Stmt := topS 16
abbrev N__law_right : List Str := ["_law_pool_here", "_law_names", "_law_whole", "_law_known", "_law_letter", "_law_pairs_here", "_law_passed", "_law_due", "_law_made", "_law_some"]
theorem sc__law_right : FnScope N__law_right ["_law_pool_here"] (defScope s__law_right) := ⟨rfl, rfl, rfl, by decide +kernel, rfl, by decide +kernel, by decide +kernel⟩
abbrev k__law_right : Kp := fun i => i == 0
def b__law_right : FS :=
  (fSeq (fSet 1 (fLst (fCons (fC (.str "a")) (fCons (fC (.str "b")) (fCons (fC (.str "c")) (fCons (fC (.str "d")) fNil))))))
  (fSeq (fSet 2 (fCall (f__law_term 12) (some (0, 0)) (faLend 0 (faCons (fVar 1) (faCons (fC (.int 6)) (faCons (fC (.int 4)) faNil))))))
  (fSeq (fIf (fTest (fOp2 gNeA (fOpd (fBC gRepr (foCons (fOpd (fLst (fCons (fCall (f_exchanged 12) none (faCons (fVar 2) faNil)) (fCons (fCallK (f_exchanged 12) 0 1 [0] faNil (faCons (fVar 2) faNil)) fNil)))) foNil))) (fOpd (fBC gRepr (foCons (fOpd (fOp2 gMul (fOpd (fLst (fCons (fCall (f__law_other 12) none (faCons (fVar 2) faNil)) fNil))) (fOpd (fC (.int 2))))) foNil))))) (fRet (fC (.bl false))) fSkip)
  (fSeq (fIf (fTest (fOp2 gNeA (fOpd (fCall (f_exchanged 12) none (faCons (fCall (f_exchanged 12) none (faCons (fVar 2) faNil)) faNil))) (fBor 2))) (fRet (fC (.bl false))) fSkip)
  (fSeq (fSet 3 fDNew)
  (fSeq (fFor (fiSeq (fLst (fCons (fC (.str "d")) (fCons (fC (.str "a")) (fCons (fC (.str "e")) (fCons (fC (.str "b")) (fCons (fC (.str "c")) fNil))))))) (gfName 4) (fIf (fTest (fOp2 gEqA (fOpd (fCall f__law_draw (some (0, 0)) (faLend 0 (faCons (fC (.int 2)) faNil)))) (fOpd (fC (.int 0))))) (fSetIxA 3 (fCall (f__law_term 12) (some (0, 0)) (faLend 0 (faCons (fOp2 gAdd (fBor 1) (fOpd (fLst (fCons (fC (.str "f")) fNil)))) (faCons (fOp2 gIxA (fOpd (fLst (fCons (fC (.int 1)) (fCons (fC (.int 2)) (fCons (fC (.int 3)) fNil))))) (fOpd (fCall f__law_draw (some (0, 0)) (faLend 0 (faCons (fC (.int 3)) faNil))))) (faCons (fC (.int 3)) faNil))))) (fBor 4)) fSkip))
  (fSeq (fSet 5 (fOp1 gItems (fBor 3)))
  (fSeq (fSet 6 (fBC gList (foCons (fBor 5) foNil)))
  (fSeq (fSet 7 (fCall (f__law_put 12) none (faCons (fVar 2) (faCons (fVar 3) faNil))))
  (fSeq (fSet 8 (fLst (fCons (fCall f_put_in none (faCons (fVar 2) (faCons (fVar 6) faNil))) (fCons (fCallK f_put_in 0 2 [1, 0] faNil (faCons (fVar 6) (faCons (fVar 2) faNil))) fNil))))
  (fSeq (fIf (fOr (fTest (fOp2 gNeA (fOpd (fBC gRepr (foCons (fBor 8) foNil))) (fOpd (fBC gRepr (foCons (fOpd (fLst (fCons (fVar 7) (fCons (fVar 7) fNil)))) foNil))))) (fTest (fOp2 gNeA (fBor 6) (fBor 5)))) (fRet (fC (.bl false))) fSkip)
  (fSeq (fIf (fOr (fTest (fOp2 gNeA (fOpd (fCall f_put_in none (faCons (fVar 2) (faCons (fLst fNil) faNil)))) (fBor 2))) (fTest (fOp2 gNeA (fOpd (fCall f_put_in none (faCons (fVar 2) (faCons (fLst (fCons (fTup (fCons (fC (.str "a")) (fCons (fC (.str "b")) fNil))) (fCons (fTup (fCons (fC (.str "b")) (fCons (fC (.str "a")) fNil))) fNil))) faNil)))) (fOpd (fCall (f__law_put 12) none (faCons (fVar 2) (faCons (fDisp (fpCons (fC (.str "a")) (fC (.str "b")) (fpCons (fC (.str "b")) (fC (.str "a")) fpNil))) faNil))))))) (fRet (fC (.bl false))) fSkip)
  (fSeq (fSet 9 (fCall f_put_in none (faCons (fTup (fCons (fC (.str "low")) (fCons (fTup (fCons (fC (.str "a")) (fCons (fC (.str "b")) fNil))) fNil))) (faCons (fLst (fCons (fTup (fCons (fC (.str "a")) (fCons (fVar 2) fNil))) (fCons (fTup (fCons (fC (.str "b")) (fCons (fC (.str "a")) fNil))) fNil))) faNil))))
  (fSeq (fIf (fTest (fOp2 gNeA (fBor 9) (fOpd (fTup (fCons (fC (.str "low")) (fCons (fTup (fCons (fVar 2) (fCons (fC (.str "a")) fNil))) fNil)))))) (fRet (fC (.bl false))) fSkip)
  (fRet (fOp2 gEqA (fOpd (fCall f_put_in none (faCons (fCall (f_exchanged 12) none (faCons (fVar 2) faNil)) (faCons (fRev (fBor 6)) faNil)))) (fOpd (fCall (f__law_put 12) none (faCons (fCall (f__law_other 12) none (faCons (fVar 2) faNil)) (faCons (fVar 3) faNil))))))))))))))))))))
def f__law_right : Fn := bodyFn N__law_right.length 1 k__law_right b__law_right
theorem ok__law_right {P : Program} {w : World} {K : PySem.W.Frag} {mg : Str → Option Value} {base : Heap} {f : Addr} {fd : FuncData} (Z : Bn K mg) (F : L2.Fun K "_law_right" "_law_right" s__law_right f fd) (hm : mg "_law_right" = some (.ref f)) (hbi : Binds K fd ["_law_pool_here"] []) (d__law_term : Def P w K mg base "_law_term" ["_law_pool_here", "_law_names", "_law_wide", "_law_deep"] 13 4 (f__law_term 12)) (d__law_put : Def P w K mg base "_law_put" ["_law_whole", "_law_known"] 12 2 (f__law_put 12)) (d_put_in : Def P w K mg base "put_in" ["term", "pairs"] 14 2 f_put_in) (d_exchanged : Def P w K mg base "exchanged" ["term"] 13 1 (f_exchanged 12)) (d__law_draw : Def P w K mg base "_law_draw" ["_law_pool_here", "_law_span"] 1 2 f__law_draw) (d__law_other : Def P w K mg base "_law_other" ["_law_whole"] 12 1 (f__law_other 12)) (kw_exchanged_0_term : KwD K mg "exchanged" ["term"] ["term"] 0 [0]) (kw_put_in_0_pairs_term : KwD K mg "put_in" ["term", "pairs"] ["pairs", "term"] 0 [1, 0]) :
    Def P w K mg base "_law_right" ["_law_pool_here"] 15 1 f__law_right := by
  unfold f__law_right
  refine def_ok (k := 14) k__law_right b__law_right F sc__law_right hm hbi rfl fun cdv A outer s H E hr => ?_
  have nd := sc__law_right.nd
  unfold b__law_right
  exact (vss_cons (vs_set 1 nd (ve_lst (vl_cons ve_str (vl_cons ve_str (vl_cons ve_str (vl_cons ve_str vl_nil))))))
  (vss_cons (vs_set 2 nd (ve_callD d__law_term hr (var_lend 0 (var_cons (ve_var 1) (var_cons ve_int (var_cons ve_int var_nil)))) (by omega)))
  (vss_cons (vs_if (vt_cmp (op_neA hr.toRoom.units) sim_neA (vo_of (ve_callB (call_reprR hr.gd (RG.u65 hr)) simc_repr Z.z_repr (by decide +kernel) (vos_cons (vo_of (ve_lst (vl_cons (ve_callD d_exchanged hr (var_cons (ve_var 2) var_nil) (by omega)) (vl_cons (ve_callDK0 d_exchanged kw_exchanged_0_term hr (vks_cons (ve_var 2) vks_nil) (by omega)) vl_nil)))) vos_nil))) (vo_of (ve_callB (call_reprR hr.gd (RG.u65 hr)) simc_repr Z.z_repr (by decide +kernel) (vos_cons (vo_of (ve_bin op_mulA sim_mul (vo_of (ve_lst (vl_cons (ve_callD d__law_other hr (var_cons (ve_var 2) var_nil) (by omega)) vl_nil))) (vo_of ve_int))) vos_nil)))) (vss_one (vs_ret ve_bl)) vss_nil)
  (vss_cons (vs_if (vt_cmp (op_neA hr.toRoom.units) sim_neA (vo_of (ve_callD d_exchanged hr (var_cons (ve_callD d_exchanged hr (var_cons (ve_var 2) var_nil) (by omega)) var_nil) (by omega))) (vo_bor 2)) (vss_one (vs_ret ve_bl)) vss_nil)
  (vss_cons (vs_set 3 nd ve_dnew)
  (vss_cons (vs_for PassesOwn.never rfl (vi_seq (ve_lst (vl_cons ve_str (vl_cons ve_str (vl_cons ve_str (vl_cons ve_str (vl_cons ve_str vl_nil))))))) (vg_name 4 nd) (vss_one (vs_if (vt_cmp (op_eqA hr.toRoom.units) sim_eqA (vo_of (ve_callD d__law_draw hr (var_lend 0 (var_cons ve_int var_nil)) (by omega))) (vo_of ve_int)) (vss_one (vs_setIxA 3 (RG.u65 hr) (ve_callD d__law_term hr (var_lend 0 (var_cons (ve_bin op_addA sim_add (vo_bor 1) (vo_of (ve_lst (vl_cons ve_str vl_nil)))) (var_cons (ve_ixA (RG.u65 hr) (vo_of (ve_lst (vl_cons ve_int (vl_cons ve_int (vl_cons ve_int vl_nil))))) (vo_of (ve_callD d__law_draw hr (var_lend 0 (var_cons ve_int var_nil)) (by omega)))) (var_cons ve_int var_nil)))) (by omega)) (vo_bor 4))) vss_nil)))
  (vss_cons (vs_set 5 nd (ve_listItems rfl Z.z_list (vo_bor 3)))
  (vss_cons (vs_set 6 nd (ve_callTy call_list_of simc_list Z.z_list (by decide +kernel) (vos_cons (vo_bor 5) vos_nil)))
  (vss_cons (vs_set 7 nd (ve_callD d__law_put hr (var_cons (ve_var 2) (var_cons (ve_var 3) var_nil)) (by omega)))
  (vss_cons (vs_set 8 nd (ve_lst (vl_cons (ve_callD d_put_in hr (var_cons (ve_var 2) (var_cons (ve_var 6) var_nil)) (by omega)) (vl_cons (ve_callDK0 d_put_in kw_put_in_0_pairs_term hr (vks_cons (ve_var 6) (vks_cons (ve_var 2) vks_nil)) (by omega)) vl_nil))))
  (vss_cons (vs_if (vt_w (vw_or (vt_cmp (op_neA hr.toRoom.units) sim_neA (vo_of (ve_callB (call_reprR hr.gd (RG.u65 hr)) simc_repr Z.z_repr (by decide +kernel) (vos_cons (vo_bor 8) vos_nil))) (vo_of (ve_callB (call_reprR hr.gd (RG.u65 hr)) simc_repr Z.z_repr (by decide +kernel) (vos_cons (vo_of (ve_lst (vl_cons (ve_var 7) (vl_cons (ve_var 7) vl_nil)))) vos_nil)))) (vw_or1 (vt_cmp (op_neA hr.toRoom.units) sim_neA (vo_bor 6) (vo_bor 5))))) (vss_one (vs_ret ve_bl)) vss_nil)
  (vss_cons (vs_if (vt_w (vw_or (vt_cmp (op_neA hr.toRoom.units) sim_neA (vo_of (ve_callD d_put_in hr (var_cons (ve_var 2) (var_cons (ve_lst vl_nil) var_nil)) (by omega))) (vo_bor 2)) (vw_or1 (vt_cmp (op_neA hr.toRoom.units) sim_neA (vo_of (ve_callD d_put_in hr (var_cons (ve_var 2) (var_cons (ve_lst (vl_cons (ve_tup (vl_cons ve_str (vl_cons ve_str vl_nil))) (vl_cons (ve_tup (vl_cons ve_str (vl_cons ve_str vl_nil))) vl_nil))) var_nil)) (by omega))) (vo_of (ve_callD d__law_put hr (var_cons (ve_var 2) (var_cons (ve_disp (vps_cons ve_str ve_str (vps_cons ve_str ve_str vps_nil))) var_nil)) (by omega))))))) (vss_one (vs_ret ve_bl)) vss_nil)
  (vss_cons (vs_set 9 nd (ve_callD d_put_in hr (var_cons (ve_tup (vl_cons ve_str (vl_cons (ve_tup (vl_cons ve_str (vl_cons ve_str vl_nil))) vl_nil))) (var_cons (ve_lst (vl_cons (ve_tup (vl_cons ve_str (vl_cons (ve_var 2) vl_nil))) (vl_cons (ve_tup (vl_cons ve_str (vl_cons ve_str vl_nil))) vl_nil))) var_nil)) (by omega)))
  (vss_cons (vs_if (vt_cmp (op_neA hr.toRoom.units) sim_neA (vo_bor 9) (vo_of (ve_tup (vl_cons ve_str (vl_cons (ve_tup (vl_cons (ve_var 2) (vl_cons ve_str vl_nil))) vl_nil))))) (vss_one (vs_ret ve_bl)) vss_nil)
  (vss_one (vs_ret (ve_cmp (op_eqA hr.toRoom.units) sim_eqA (vo_of (ve_callD d_put_in hr (var_cons (ve_callD d_exchanged hr (var_cons (ve_var 2) var_nil) (by omega)) (var_cons (ve_rev (vo_bor 6)) var_nil)) (by omega))) (vo_of (ve_callD d__law_put hr (var_cons (ve_callD d__law_other hr (var_cons (ve_var 2) var_nil) (by omega)) (var_cons (ve_var 3) var_nil)) (by omega))))))))))))))))))))
abbrev s_law : Stmt := topS 17
abbrev N_law : List Str := ["_law_script", "_law_spot", "_law_pool_here", "_law_turn"]
theorem sc_law : FnScope N_law ["_law_script"] (defScope s_law) := ⟨rfl, rfl, rfl, by decide +kernel, rfl, by decide +kernel, by decide +kernel⟩
abbrev k_law : Kp := fun i => false
def b_law : FS :=
  (fSeq (fFor (fiRng1 (fOpd (fBC gMax2 (foCons (fOpd (fC (.int 1))) (foCons (fOpd (fBC gMin2 (foCons (fOpd (fC (.int 6))) (foCons (fOpd (fBC gLen (foCons (fBor 0) foNil))) foNil)))) foNil))))) (gfName 1) (fSeq (fSet 2 (fCall f__law_pool none (faCons (fVar 0) (faCons (fVar 1) faNil))))
  (fFor (fiRng1 (fOpd (fC (.int 5)))) (gfName 3) (fIf (fNot (fTest (fCall f__law_right (some (0, 2)) (faLend 2 faNil)))) (fRet (fC (.bl false))) fSkip))))
  (fRet (fC (.bl true))))
def f_law : Fn := bodyFn N_law.length 1 k_law b_law
theorem ok_law {P : Program} {w : World} {K : PySem.W.Frag} {mg : Str → Option Value} {base : Heap} {f : Addr} {fd : FuncData} (Z : Bn K mg) (F : L2.Fun K "law" "law" s_law f fd) (hm : mg "law" = some (.ref f)) (hbi : Binds K fd ["_law_script"] []) (d__law_pool : Def P w K mg base "_law_pool" ["_law_script", "_law_spot"] 1 2 f__law_pool) (d__law_right : Def P w K mg base "_law_right" ["_law_pool_here"] 15 1 f__law_right) :
    Def P w K mg base "law" ["_law_script"] 16 1 f_law := by
  unfold f_law
  refine def_ok (k := 15) k_law b_law F sc_law hm hbi rfl fun cdv A outer s H E hr => ?_
  have nd := sc_law.nd
  unfold b_law
  exact (vss_cons (vs_for PassesOwn.never rfl (vi_range1 Z.z_range (vo_of (ve_callB (call_max2 rfl) simc_max2 Z.z_max (by decide +kernel) (vos_cons (vo_of ve_int) (vos_cons (vo_of (ve_callB (call_min2 rfl) simc_min2 Z.z_min (by decide +kernel) (vos_cons (vo_of ve_int) (vos_cons (vo_of (ve_callB call_len simc_len Z.z_len (by decide +kernel) (vos_cons (vo_bor 0) vos_nil))) vos_nil)))) vos_nil))))) (vg_name 1 nd) (vss_cons (vs_set 2 nd (ve_callD d__law_pool hr (var_cons (ve_var 0) (var_cons (ve_var 1) var_nil)) (by omega)))
  (vss_one (vs_for PassesOwn.never rfl (vi_range1 Z.z_range (vo_of ve_int)) (vg_name 3 nd) (vss_one (vs_if (vt_not (vt_val (ve_callD d__law_right hr (var_lend 2 var_nil) (by omega)))) (vss_one (vs_ret ve_bl)) vss_nil))))))
  (vss_one (vs_ret ve_bl)))
end LW

set_option Elab.async false
set_option linter.all false
set_option maxRecDepth 100000
set_option maxHeartbeats 4000000
set_option exponentiation.threshold 100
namespace LW
open VL
open L2 (atI ixN)
theorem atI_nat {α : Type} (xs : List α) (i : Nat) (h : i < xs.length) : atI xs (i : Int) = xs[i]? := by
  unfold atI ixN
  rw [if_pos (by omega), if_pos (by omega)]
  simp
theorem atI0 {α : Type} (x : α) (xs : List α) : atI (x :: xs) 0 = some x := atI_nat (x :: xs) 0 (by simp)
theorem atI1 {α : Type} (x y : α) (xs : List α) : atI (x :: y :: xs) 1 = some y := atI_nat (x :: y :: xs) 1 (by simp)
theorem atI2 {α : Type} (x y z : α) (xs : List α) : atI (x :: y :: z :: xs) 2 = some z := atI_nat (x :: y :: z :: xs) 2 (by simp)
theorem draw1 {a b c n : Int} (ha : 0 < a) (hn : 0 < n) (hn2 : n < 2 ^ 64) : f__law_draw [(true, .lst [.int a, .int b, .int c]), (false, .int n)] = some ((false, .int (a % n)), [some (true, .lst [.int (a / n), .int b, .int c]), some (false, .int n)]) := by
  have h1 : n.natAbs < 2 ^ 8999 := Nat.lt_of_lt_of_le (by omega : n.natAbs < 2 ^ 64) (Nat.pow_le_pow_right (by decide) (by decide))
  simp [f__law_draw, b__law_draw, ha, hn, h1, ixN, k__law_draw, bodyFn, fSeq, fIf, fTest, fOp1, fOp2, fOpd, fBor, fC, res, gIxA, gIx, atI0, atI1, atI2, VL.tB, tI, tS, fSet, fBC, foCons, foNil, ress, fRet, fTake, fVar, backs, fSkip, fNever, fDrop, fOr, fAnd, fNot, fIfE, fAndV, fOrV, fNotV, fCall, faCons, faNil, faLend, giveB, fLst, fTup, fCons, fNil, List.getElem?_cons_zero, List.getElem?_cons_succ, fPar, gfName, gfTup, gfCons, gfNil, fAsgT, fiSeq, seqOf, gGt, gLt, gLe, gGe, gAdd, gSub, gInt, gMod, gFdiv, gLen, gNeg, fSetIxA]
theorem room_pow {m c q : Int} (hm : 0 ≤ m) (hm2 : m < 2 ^ 120) (hq : 0 ≤ q) (hq2 : q < 2 ^ 60) (hc : 0 ≤ c ∧ c < 2 ^ 900) : (m + q * (c + 1)).natAbs < 2 ^ 1024 := by
  have e1 : (2 : Int) ^ 1024 = 2 ^ 900 * 2 ^ 124 := by rw [← Int.pow_add]
  have h1 : q * (c + 1) ≤ 2 ^ 60 * 2 ^ 900 := Int.mul_le_mul (by omega) (by omega) (by omega) (by decide)
  have h0 : 0 ≤ q * (c + 1) := Int.mul_nonneg hq (by omega)
  have h2 : (2 : Int) ^ 130 ≤ 2 ^ 900 := by
    have : (2 : Int) ^ 900 = 2 ^ 130 * 2 ^ 770 := by rw [← Int.pow_add]
    rw [this]
    have h5 : (0 : Int) < 2 ^ 770 := Int.pow_pos (by decide)
    generalize (2 : Int) ^ 770 = C at h5
    omega
  generalize hB : (2 : Int) ^ 900 = B at *
  have h3 : m + q * (c + 1) < B * 2 ^ 124 := by omega
  have h4 : ((m + q * (c + 1)).natAbs : Int) < ((2 ^ 1024 : Nat) : Int) := by
    have e2 : ((2 ^ 1024 : Nat) : Int) = (2 : Int) ^ 1024 := by simp
    rw [e2, e1, Int.natAbs_of_nonneg (by omega)]
    exact h3
  exact_mod_cast h4
theorem draw2 {a b c n : Int} (ha : ¬ 0 < a) (hn : 0 < n) (hb : 0 ≤ b ∧ b < 2 ^ 70) (hc : 0 ≤ c ∧ c < 2 ^ 900) : ∃ i, f__law_draw [(true, .lst [.int a, .int b, .int c]), (false, .int n)] = some ((false, .int i), [some (true, .lst [.int a, .int b, .int (c + 1)]), some (false, .int n)]) ∧ 0 ≤ i ∧ i < n := by
  have p1 := room_pow (m := b) (q := 15485863) hb.1 (by have := hb.2; omega) (by decide) (by decide) hc
  have p2 : ∀ m : Int, 0 ≤ m → m < 162259276829213363391578010288127 → (m + 32452843 * (c + 1)).natAbs < 2 ^ 1024 := fun m hm hm2 => room_pow hm (by omega) (by decide) (by decide) hc
  have p4 : (1048576 : Nat) < 2 ^ 8999 := Nat.lt_of_lt_of_le (by decide : 1048576 < 2 ^ 21) (Nat.pow_le_pow_right (by decide) (by decide))
  have p3 := p2 ((b + 15485863 * (c + 1)) ^ 3 % 162259276829213363391578010288127) (Int.emod_nonneg _ (by decide)) (Int.emod_lt_of_pos _ (by decide))
  refine ⟨(((b + 15485863 * (c + 1)) ^ 3 % 162259276829213363391578010288127 + 32452843 * (c + 1)) ^ 3 % 170141183460469231731687303715884105727) / 1048576 % n, ?_, Int.emod_nonneg _ (by omega), Int.emod_lt_of_pos _ hn⟩
  simp [f__law_draw, b__law_draw, ha, hn, ixN, k__law_draw, gPow, gMul, p1, p3, p4, bodyFn, fSeq, fIf, fTest, fOp1, fOp2, fOpd, fBor, fC, res, gIxA, gIx, atI0, atI1, atI2, VL.tB, tI, tS, fSet, fBC, foCons, foNil, ress, fRet, fTake, fVar, backs, fSkip, fNever, fDrop, fOr, fAnd, fNot, fIfE, fAndV, fOrV, fNotV, fCall, faCons, faNil, faLend, giveB, fLst, fTup, fCons, fNil, List.getElem?_cons_zero, List.getElem?_cons_succ, fPar, gfName, gfTup, gfCons, gfNil, fAsgT, fiSeq, seqOf, gGt, gLt, gLe, gGe, gAdd, gSub, gInt, gMod, gFdiv, gLen, gNeg, fSetIxA]
/-- a pool whose count is at most k -/
def Pl (k : Nat) (d : D) : Prop := ∃ a b c : Int, d = .lst [.int a, .int b, .int c] ∧ 0 ≤ b ∧ b < 2 ^ 70 ∧ 0 ≤ c ∧ c ≤ k
theorem Pl.up {j k : Nat} {d : D} (h : Pl j d) (e : j ≤ k) : Pl k d := by
  obtain ⟨a, b, c, rfl, h1, h2, h3, h4⟩ := h
  exact ⟨a, b, c, rfl, h1, h2, h3, by omega⟩
theorem draw {k : Nat} {d : D} {n : Int} (h : Pl k d) (hk : k < 2 ^ 800) (hn : 0 < n) (hn2 : n < 2 ^ 64) : ∃ i d', f__law_draw [(true, d), (false, .int n)] = some ((false, .int i), [some (true, d'), some (false, .int n)]) ∧ 0 ≤ i ∧ i < n ∧ Pl (k + 1) d' := by
  obtain ⟨a, b, c, rfl, h1, h2, h3, h4⟩ := h
  by_cases ha : 0 < a
  · exact ⟨_, _, draw1 ha hn hn2, Int.emod_nonneg _ (by omega), Int.emod_lt_of_pos _ hn, _, _, _, rfl, h1, h2, h3, by omega⟩
  · have hc : c < 2 ^ 900 := by
      have : (k : Int) < ((2 ^ 800 : Nat) : Int) := by exact_mod_cast hk
      have h5 : ((2 ^ 800 : Nat) : Int) ≤ ((2 ^ 900 : Nat) : Int) := by exact_mod_cast Nat.pow_le_pow_right (by decide) (by decide)
      have h6 : ((2 ^ 900 : Nat) : Int) = (2 : Int) ^ 900 := by simp
      omega
    obtain ⟨i, e, i0, i1⟩ := draw2 ha hn ⟨h1, h2⟩ ⟨h3, hc⟩
    exact ⟨i, _, e, i0, i1, _, _, _, rfl, h1, h2, by omega, by omega⟩
end LW

set_option Elab.async false
set_option linter.all false
set_option maxRecDepth 100000
set_option maxHeartbeats 8000000
set_option exponentiation.threshold 100
namespace LW
open VL PySem
open L2 (atI ixN)
mutual
/-- a term: letters under A, at most n words above each other, two or three parts each -/
inductive Tm (A : Str → Prop) : Nat → D → Prop
  | leaf {s : Str} {n : Nat} : A s → Tm A n (.str s)
  | node {k : Str} {ps : List D} {n : Nat} : (k = "low" ∨ k = "high") → 2 ≤ ps.length → ps.length ≤ 3 → Tms A n ps → Tm A (n + 1) (.tup [.str k, .tup ps])
inductive Tms (A : Str → Prop) : Nat → List D → Prop
  | nil {n : Nat} : Tms A n []
  | cons {d : D} {ds : List D} {n : Nat} : Tm A n d → Tms A n ds → Tms A n (d :: ds)
end
def Nm (A : Str → Prop) (ns : List D) : Prop := ns ≠ [] ∧ ns.length ≤ 64 ∧ ∀ d ∈ ns, ∃ s : Str, d = .str s ∧ A s
theorem Nm.at {A : Str → Prop} {ns : List D} (h : Nm A ns) {i : Int} (h0 : 0 ≤ i) (h1 : i < ns.length) : ∃ s : Str, atI ns i = some (.str s) ∧ A s := by
  obtain ⟨j, rfl⟩ := Int.eq_ofNat_of_zero_le h0
  have hj : j < ns.length := by omega
  obtain ⟨s, e, a⟩ := h.2.2 ns[j] (List.getElem_mem hj)
  exact ⟨s, by rw [atI_nat ns j hj, List.getElem?_eq_getElem hj, e], a⟩
theorem Nm.pos {A : Str → Prop} {ns : List D} (h : Nm A ns) : (0 : Int) < ns.length := by
  have := List.length_pos_iff.mpr h.1
  omega
theorem term_leaf {A : Str → Prop} {ns : List D} (hN : Nm A ns) {k : Nat} {pool : D} (hP : Pl k pool) (hk : k < 2 ^ 800) (w d : D) : ∃ s pool', fOp2 gIxA (fBor 1) (fOpd (fCall f__law_draw (some (0, 0)) (faLend 0 (faCons (fBC gLen (foCons (fBor 1) foNil)) faNil)))) [some (true, pool), some (false, .lst ns), some (false, w), some (false, d), none, none, none, none] = some ((false, .str s), [some (true, pool'), some (false, .lst ns), some (false, w), some (false, d), none, none, none, none]) ∧ A s ∧ Pl (k + 1) pool' := by
  obtain ⟨i, p', e, h0, h1, h2⟩ := draw hP hk hN.pos (by have := hN.2.1; omega)
  obtain ⟨s, e2, a⟩ := hN.at h0 h1
  exact ⟨s, p', by simp [e, e2, bodyFn, fSeq, fIf, fTest, fOp1, fOp2, fOpd, fBor, fC, res, gIxA, gIx, atI0, atI1, atI2, VL.tB, tI, tS, fSet, fBC, foCons, foNil, ress, fRet, fTake, fVar, backs, fSkip, fNever, fDrop, fOr, fAnd, fNot, fIfE, fAndV, fOrV, fNotV, fCall, faCons, faNil, faLend, giveB, fLst, fTup, fCons, fNil, List.getElem?_cons_zero, List.getElem?_cons_succ, fPar, gfName, gfTup, gfCons, gfNil, fAsgT, fiSeq, seqOf, gGt, gLt, gLe, gGe, gAdd, gSub, gInt, gMod, gFdiv, gLen, gNeg, fSetIxA], a, h2⟩
theorem drawC {p p' : D} {n i : Int} {rest : VSt} (e : f__law_draw [(true, p), (false, .int n)] = some ((false, .int i), [some (true, p'), some (false, .int n)])) : fCall f__law_draw (some (0, 0)) (faLend 0 (faCons (fC (.int n)) faNil)) (some (true, p) :: rest) = some ((false, .int i), some (true, p') :: rest) := by
  simp [fCall, faLend, faCons, faNil, fC, fTake, e, giveB]
abbrev st (pool : D) (ns : List D) (w d : Int) (a b c e : Option T) : VSt := [some (true, pool), some (false, .lst ns), some (false, .int w), some (false, .int d), a, b, c, e]
theorem lt2 {pool : D} {ns : List D} {w d : Int} {a b c e : Option T} : fTest (fOp2 gLt (fBor 2) (fOpd (fC (.int 2)))) (st pool ns w d a b c e) = some (decide (w < 2), st pool ns w d a b c e) := rfl
theorem lt3 {pool : D} {ns : List D} {w d : Int} {a b c e : Option T} : fTest (fOp2 gLt (fBor 3) (fOpd (fC (.int 2)))) (st pool ns w d a b c e) = some (decide (d < 2), st pool ns w d a b c e) := rfl
theorem draw0 {p p' : D} {i : Int} {rest : VSt} (e : f__law_draw [(true, p), (false, .int 4)] = some ((false, .int i), [some (true, p'), some (false, .int 4)])) : fTest (fOp2 gEqA (fOpd (fCall f__law_draw (some (0, 0)) (faLend 0 (faCons (fC (.int 4)) faNil)))) (fOpd (fC (.int 0)))) (some (true, p) :: rest) = some (decide (i = 0), some (true, p') :: rest) :=
  fTest_of (fOp2_of (fOpd_of (drawC e)) rfl rfl rfl (gEqA_int i 0))
abbrev tIf : FS := fIf (fOr (fTest (fOp2 gLt (fBor 2) (fOpd (fC (.int 2))))) (fOr (fTest (fOp2 gLt (fBor 3) (fOpd (fC (.int 2))))) (fTest (fOp2 gEqA (fOpd (fCall f__law_draw (some (0, 0)) (faLend 0 (faCons (fC (.int 4)) faNil)))) (fOpd (fC (.int 0))))))) (fRet (fOp2 gIxA (fBor 1) (fOpd (fCall f__law_draw (some (0, 0)) (faLend 0 (faCons (fBC gLen (foCons (fBor 1) foNil)) faNil)))))) fSkip
theorem term_if {A : Str → Prop} {ns : List D} (hN : Nm A ns) {k : Nat} {wide dp : Int} {pool : D} (hP : Pl k pool) (hk : k + 2 < 2 ^ 800) :
    (∃ s p', tIf (st pool ns wide dp none none none none) = some (.ret (false, .str s) (st p' ns wide dp none none none none)) ∧ A s ∧ Pl (k + 2) p') ∨
    (¬ wide < 2 ∧ ¬ dp < 2 ∧ ∃ p', tIf (st pool ns wide dp none none none none) = some (.nx (st p' ns wide dp none none none none)) ∧ Pl (k + 1) p') := by
  by_cases c1 : wide < 2
  · obtain ⟨s, p', e, a, hp⟩ := term_leaf hN hP (by omega) (.int wide) (.int dp)
    exact .inl ⟨s, p', fIf_t (fOr_t (by rw [lt2, decide_eq_true c1])) (fRet_of e), a, hp.up (by omega)⟩
  by_cases c2 : dp < 2
  · obtain ⟨s, p', e, a, hp⟩ := term_leaf hN hP (by omega) (.int wide) (.int dp)
    exact .inl ⟨s, p', fIf_t (fOr_f (by rw [lt2, decide_eq_false c1]) (fOr_t (by rw [lt3, decide_eq_true c2]))) (fRet_of e), a, hp.up (by omega)⟩
  obtain ⟨i, p1, e1, h0, h1, hp1⟩ := draw hP (n := 4) (by omega) (by decide) (by decide)
  by_cases c3 : i = 0
  · obtain ⟨s, p', e, a, hp⟩ := term_leaf hN hp1 (by omega) (.int wide) (.int dp)
    exact .inl ⟨s, p', fIf_t (fOr_f (by rw [lt2, decide_eq_false c1]) (fOr_f (by rw [lt3, decide_eq_false c2]) (by rw [draw0 e1, decide_eq_true c3]))) (fRet_of e), a, hp⟩
  · exact .inr ⟨c1, c2, p1, fIf_f (fOr_f (by rw [lt2, decide_eq_false c1]) (fOr_f (by rw [lt3, decide_eq_false c2]) (by rw [draw0 e1, decide_eq_false c3]))) rfl, hp1⟩
theorem kind_ok {k : Nat} {p : D} (hP : Pl k p) (hk : k < 2 ^ 800) (rest : VSt) : ∃ (kd : Str) (p' : D), fOp2 gIxA (fOpd (fLst (fCons (fC (.str "low")) (fCons (fC (.str "high")) fNil)))) (fOpd (fCall f__law_draw (some (0, 0)) (faLend 0 (faCons (fC (.int 2)) faNil)))) (some (true, p) :: rest) = some ((false, .str kd), some (true, p') :: rest) ∧ (kd = "low" ∨ kd = "high") ∧ Pl (k + 1) p' := by
  obtain ⟨i, p', e, h0, h1, hp⟩ := draw hP (n := 2) hk (by decide) (by decide)
  have hi : i = 0 ∨ i = 1 := by omega
  rcases hi with rfl | rfl
  · exact ⟨"low", p', fOp2_of (o := .inl (true, .lst [.str "low", .str "high"])) rfl (fOpd_of (drawC e)) rfl rfl rfl, .inl rfl, hp⟩
  · exact ⟨"high", p', fOp2_of (o := .inl (true, .lst [.str "low", .str "high"])) rfl (fOpd_of (drawC e)) rfl rfl rfl, .inr rfl, hp⟩
theorem amount_ok {ns : List D} {w d : Int} {a b c e : Option T} {k : Nat} {p : D} (hP : Pl k p) (hk : k < 2 ^ 800) : ∃ (am : Int) (p' : D), fOp2 gAdd (fOpd (fC (.int 2))) (fOpd (fIfE (fTest (fOp2 gGt (fBor 2) (fOpd (fC (.int 2))))) (fCall f__law_draw (some (0, 0)) (faLend 0 (faCons (fC (.int 2)) faNil))) (fC (.int 0)))) (st p ns w d a b c e) = some ((false, .int am), st p' ns w d a b c e) ∧ (am = 2 ∨ am = 3) ∧ Pl (k + 1) p' := by
  have gt2 : fTest (fOp2 gGt (fBor 2) (fOpd (fC (.int 2)))) (st p ns w d a b c e) = some (decide (2 < w), st p ns w d a b c e) := rfl
  by_cases h : 2 < w
  · obtain ⟨i, p', e, h0, h1, hp⟩ := draw hP (n := 2) hk (by decide) (by decide)
    refine ⟨2 + i, p', fOp2_of (o := .inl (false, .int 2)) rfl (fOpd_of (fIfE_t (by rw [gt2, decide_eq_true h]) (drawC e))) rfl rfl rfl, by omega, hp⟩
  · exact ⟨2, p, fOp2_of (o := .inl (false, .int 2)) (o' := .inl (false, .int 0)) rfl (fOpd_of (fIfE_f (by rw [gt2, decide_eq_false h]) rfl)) rfl rfl rfl, .inl rfl, hP.up (by omega)⟩
theorem tms_of {A : Str → Prop} {n : Nat} : ∀ {rs : List D}, (∀ r ∈ rs, Tm A n r) → Tms A n rs
  | [], _ => .nil
  | r :: rs, h => .cons (h r List.mem_cons_self) (tms_of fun x hx => h x (List.mem_cons_of_mem _ hx))
abbrev tSh : FS := fSet 4 (fOp2 gMul (fOpd (fLst (fCons (fOp2 gFdiv (fBor 2) (fBor 6)) fNil))) (fBor 6))
abbrev tShl : FS := fSetIxA 4 (fOp2 gSub (fBor 2) (fOpd (fOp2 gMul (fOpd (fOp2 gFdiv (fBor 2) (fBor 6))) (fOpd (fOp2 gSub (fBor 6) (fOpd (fC (.int 1)))))))) (fOpd (fOp1 gNeg (fOpd (fC (.int 1)))))
theorem shares_ok {ns : List D} {w d am : Int} {b : Option T} {p : D} (hw : 0 ≤ w) (hw2 : w < 2 ^ 20) (ha : am = 2 ∨ am = 3) : ∃ sh s0 : List D, tSh (st p ns w d none b (some (false, .int am)) none) = some (.nx (st p ns w d (some (true, .lst s0)) b (some (false, .int am)) none)) ∧ tShl (st p ns w d (some (true, .lst s0)) b (some (false, .int am)) none) = some (.nx (st p ns w d (some (true, .lst sh)) b (some (false, .int am)) none)) ∧ 2 ≤ sh.length ∧ sh.length ≤ 3 ∧ ∀ x ∈ sh, ∃ v : Int, x = .int v ∧ 0 ≤ v ∧ v < 2 ^ 20 := by
  rcases ha with rfl | rfl
  · have q : (2 : Nat) < 2 ^ 8999 := Nat.lt_of_lt_of_le (by decide : 2 < 2 ^ 2) (Nat.pow_le_pow_right (by decide) (by decide))
    have hz : (1 : Nat) * 2 ≤ SL := by decide
    refine ⟨[.int (w / 2), .int (w - w / 2 * 1)], [.int (w / 2), .int (w / 2)], ?_, ?_, by simp, by simp, ?_⟩
    · simp [q, gMul, SL, List.replicate, bodyFn, fSeq, fIf, fTest, fOp1, fOp2, fOpd, fBor, fC, res, gIxA, gIx, atI0, atI1, atI2, VL.tB, tI, tS, fSet, fBC, foCons, foNil, ress, fRet, fTake, fVar, backs, fSkip, fNever, fDrop, fOr, fAnd, fNot, fIfE, fAndV, fOrV, fNotV, fCall, faCons, faNil, faLend, giveB, fLst, fTup, fCons, fNil, List.getElem?_cons_zero, List.getElem?_cons_succ, fPar, gfName, gfTup, gfCons, gfNil, fAsgT, fiSeq, seqOf, gGt, gLt, gLe, gGe, gAdd, gSub, gInt, gMod, gFdiv, gLen, gNeg, fSetIxA]
    · simp [q, gMul, ixN, SL, bodyFn, fSeq, fIf, fTest, fOp1, fOp2, fOpd, fBor, fC, res, gIxA, gIx, atI0, atI1, atI2, VL.tB, tI, tS, fSet, fBC, foCons, foNil, ress, fRet, fTake, fVar, backs, fSkip, fNever, fDrop, fOr, fAnd, fNot, fIfE, fAndV, fOrV, fNotV, fCall, faCons, faNil, faLend, giveB, fLst, fTup, fCons, fNil, List.getElem?_cons_zero, List.getElem?_cons_succ, fPar, gfName, gfTup, gfCons, gfNil, fAsgT, fiSeq, seqOf, gGt, gLt, gLe, gGe, gAdd, gSub, gInt, gMod, gFdiv, gLen, gNeg, fSetIxA]
    · intro x hx
      simp at hx
      rcases hx with rfl | rfl
      · exact ⟨_, rfl, by omega, by omega⟩
      · exact ⟨_, rfl, by omega, by omega⟩
  · have q : (3 : Nat) < 2 ^ 8999 := Nat.lt_of_lt_of_le (by decide : 3 < 2 ^ 2) (Nat.pow_le_pow_right (by decide) (by decide))
    refine ⟨[.int (w / 3), .int (w / 3), .int (w - w / 3 * 2)], [.int (w / 3), .int (w / 3), .int (w / 3)], ?_, ?_, by simp, by simp, ?_⟩
    · simp [q, gMul, SL, List.replicate, bodyFn, fSeq, fIf, fTest, fOp1, fOp2, fOpd, fBor, fC, res, gIxA, gIx, atI0, atI1, atI2, VL.tB, tI, tS, fSet, fBC, foCons, foNil, ress, fRet, fTake, fVar, backs, fSkip, fNever, fDrop, fOr, fAnd, fNot, fIfE, fAndV, fOrV, fNotV, fCall, faCons, faNil, faLend, giveB, fLst, fTup, fCons, fNil, List.getElem?_cons_zero, List.getElem?_cons_succ, fPar, gfName, gfTup, gfCons, gfNil, fAsgT, fiSeq, seqOf, gGt, gLt, gLe, gGe, gAdd, gSub, gInt, gMod, gFdiv, gLen, gNeg, fSetIxA]
    · simp [q, gMul, ixN, SL, bodyFn, fSeq, fIf, fTest, fOp1, fOp2, fOpd, fBor, fC, res, gIxA, gIx, atI0, atI1, atI2, VL.tB, tI, tS, fSet, fBC, foCons, foNil, ress, fRet, fTake, fVar, backs, fSkip, fNever, fDrop, fOr, fAnd, fNot, fIfE, fAndV, fOrV, fNotV, fCall, faCons, faNil, faLend, giveB, fLst, fTup, fCons, fNil, List.getElem?_cons_zero, List.getElem?_cons_succ, fPar, gfName, gfTup, gfCons, gfNil, fAsgT, fiSeq, seqOf, gGt, gLt, gLe, gGe, gAdd, gSub, gInt, gMod, gFdiv, gLen, gNeg, fSetIxA]
    · intro x hx
      simp at hx
      rcases hx with rfl | rfl | rfl
      · exact ⟨_, rfl, by omega, by omega⟩
      · exact ⟨_, rfl, by omega, by omega⟩

abbrev tC (self : Fn) : FE := fComp (fiSeq (fVar 4)) [7] (gfName 7) fYes (fCall self (some (0, 0)) (faLend 0 (faCons (fVar 1) (faCons (fVar 7) (faCons (fOp2 gSub (fBor 3) (fOpd (fC (.int 1)))) faNil)))))
def TermSpec (A : Str → Prop) (ns : List D) (self : Fn) (deep : Nat) : Prop := ∀ (k : Nat) (wide : Int) (pool : D), Pl k pool → k + 4 ^ (deep + 2) < 2 ^ 800 → 0 ≤ wide → wide < 2 ^ 20 →
  ∃ t pool', self [(true, pool), (false, .lst ns), (false, .int wide), (false, .int deep)] = some ((false, t), [some (true, pool'), some (false, .lst ns), some (false, .int wide), some (false, .int deep)]) ∧ Tm A deep t ∧ Pl (k + 4 ^ (deep + 2)) pool'
theorem parts_ok {A : Str → Prop} {ns : List D} {self : Fn} {deep : Nat} (hs : TermSpec A ns self deep) {w : Int} {k : Nat} {p : D} {sh : List D} {b c : Option T} (hP : Pl k p) (h3 : sh.length ≤ 3) (hk : k + 3 * 4 ^ (deep + 2) < 2 ^ 800) (hv : ∀ x ∈ sh, ∃ v : Int, x = .int v ∧ 0 ≤ v ∧ v < 2 ^ 20) :
    ∃ rs p', tC self (st p ns w ((deep + 1 : Nat) : Int) (some (true, .lst sh)) b c none) = some ((true, .lst rs), st p' ns w ((deep + 1 : Nat) : Int) (some (false, .lst sh)) b c none) ∧ rs.length = sh.length ∧ Tms A deep rs ∧ Pl (k + 3 * 4 ^ (deep + 2)) p' := by
  have hd : (((deep + 1 : Nat) : Int) - 1) = (deep : Int) := by omega
  obtain ⟨rs, S', e1, ⟨p', rfl, hp'⟩, hl, hr⟩ := fCompL_inv (vs := [7]) (gf := gfName 7) (f := fCall self (some (0, 0)) (faLend 0 (faCons (fVar 1) (faCons (fVar 7) (faCons (fOp2 gSub (fBor 3) (fOpd (fC (.int 1)))) faNil)))))
    (fun n S => ∃ p', S = st p' ns w ((deep + 1 : Nat) : Int) (some (false, .lst sh)) b c none ∧ Pl (k + n * 4 ^ (deep + 2)) p') (fun _ r => Tm A deep r) sh 0 (st p ns w ((deep + 1 : Nat) : Int) (some (false, .lst sh)) b c none) ⟨p, rfl, by simpa using hP⟩ (fun d hd' n S hn hJ => by
      obtain ⟨p1, rfl, h2⟩ := hJ
      obtain ⟨v, rfl, v0, v1⟩ := hv d hd'
      have hn' : n * 4 ^ (deep + 2) ≤ 2 * 4 ^ (deep + 2) := Nat.mul_le_mul_right _ (by omega)
      obtain ⟨t, p2, e, ht, hp2⟩ := hs (k + n * 4 ^ (deep + 2)) v p1 h2 (by omega) v0 v1
      refine ⟨st p1 ns w ((deep + 1 : Nat) : Int) (some (false, .lst sh)) b c (some (false, .int v)), rfl, (false, t), st p2 ns w ((deep + 1 : Nat) : Int) (some (false, .lst sh)) b c (some (false, .int v)), ?_, ht, p2, rfl, ?_⟩
      · have fa : faLend 0 (faCons (fVar 1) (faCons (fVar 7) (faCons (fOp2 gSub (fBor 3) (fOpd (fC (.int 1)))) faNil))) (st p1 ns w ((deep + 1 : Nat) : Int) (some (false, .lst sh)) b c (some (false, .int v))) = some ([(true, p1), (false, .lst ns), (false, .int v), (false, .int (((deep + 1 : Nat) : Int) - 1))], none :: (st p1 ns w ((deep + 1 : Nat) : Int) (some (false, .lst sh)) b c (some (false, .int v))).tail) := rfl
        rw [hd] at fa
        exact fCallL_of fa e rfl
      · have : k + (n + 1) * 4 ^ (deep + 2) = k + n * 4 ^ (deep + 2) + 4 ^ (deep + 2) := by rw [Nat.succ_mul]; omega
        rw [this]
        exact hp2)
  refine ⟨rs, p', fComp_of (ds := sh) rfl (by have : (3 : Nat) ≤ SL := by decide
                                              omega) e1, hl, tms_of fun r h => ?_, hp'.up ?_⟩
  · obtain ⟨d, _, h2⟩ := hr r h
    exact h2
  · have : sh.length * 4 ^ (deep + 2) ≤ 3 * 4 ^ (deep + 2) := Nat.mul_le_mul_right _ h3
    rw [Nat.zero_add]
    omega
theorem term_ok {A : Str → Prop} {ns : List D} (hN : Nm A ns) : ∀ (m deep : Nat), deep ≤ m → TermSpec A ns (f__law_term (m + 1)) deep := by
  have leaf : ∀ (self : Fn) (deep k : Nat) (wide : Int) (pool : D) (s : Str) (p' : D), tIf (st pool ns wide deep none none none none) = some (.ret (false, .str s) (st p' ns wide deep none none none none)) →
      bodyFn N__law_term.length 4 k__law_term (b__law_term self) [(true, pool), (false, .lst ns), (false, .int wide), (false, .int deep)] = some ((false, .str s), [some (true, p'), some (false, .lst ns), some (false, .int wide), some (false, .int deep)]) := fun self deep k wide pool s p' e =>
    body_ret (S := st p' ns wide deep none none none none) rfl (fSeq_ret e)
  intro m
  induction m with
  | zero =>
    intro deep hd k wide pool hP hk hw hw2
    have h4 : 4 ≤ 4 ^ (deep + 2) := by
      have := Nat.pow_le_pow_right (n := 4) (by decide) (by omega : 1 ≤ deep + 2)
      omega
    rcases term_if (dp := deep) (wide := wide) hN hP (by omega) with ⟨s, p', e, a, hp⟩ | ⟨_, c2, _⟩
    · exact ⟨.str s, p', leaf _ deep k wide pool s p' e, .leaf a, hp.up (by omega)⟩
    · omega
  | succ m ih =>
    intro deep hd k wide pool hP hk hw hw2
    have h4 : 16 ≤ 4 ^ (deep + 2) := by
      have := Nat.pow_le_pow_right (n := 4) (by decide) (by omega : 2 ≤ deep + 2)
      omega
    rcases term_if (dp := deep) (wide := wide) hN hP (by omega) with ⟨s, p', e, a, hp⟩ | ⟨c1, c2, p1, e1, hp1⟩
    · exact ⟨.str s, p', leaf _ deep k wide pool s p' e, .leaf a, hp.up (by omega)⟩
    · obtain ⟨dp, rfl⟩ : ∃ dp : Nat, deep = dp + 1 := ⟨deep - 1, by omega⟩
      have e4 : 4 ^ (dp + 1 + 2) = 4 * 4 ^ (dp + 2) := by rw [show dp + 1 + 2 = (dp + 2) + 1 from by omega, Nat.pow_succ]; omega
      have h5 : 16 ≤ 4 ^ (dp + 2) := by
        have := Nat.pow_le_pow_right (n := 4) (by decide) (by omega : 2 ≤ dp + 2)
        omega
      obtain ⟨kd, p2, e2, hkd, hp2⟩ := kind_ok hp1 (by omega) (st p1 ns wide ((dp + 1 : Nat) : Int) none none none none).tail
      obtain ⟨am, p3, e3, ham, hp3⟩ := amount_ok (ns := ns) (w := wide) (d := ((dp + 1 : Nat) : Int)) (a := none) (b := none) (c := none) (e := none) hp2 (by omega)
      obtain ⟨sh, s0, e5, e6, l1, l2, hv⟩ := shares_ok (ns := ns) (p := p3) (d := ((dp + 1 : Nat) : Int)) (b := some (false, .str kd)) hw hw2 ham
      obtain ⟨rs, p4, e7, hl, ht, hp4⟩ := parts_ok (ih dp (by omega)) (w := wide) (b := some (false, .str kd)) (c := some (false, .int am)) hp3 l2 (by omega) hv
      refine ⟨.tup [.str kd, .tup rs], p4, ?_, .node hkd (by omega) (by omega) ht, hp4.up (by omega)⟩
      refine body_ret (S := st p4 ns wide ((dp + 1 : Nat) : Int) (some (false, .lst sh)) (some (false, .str kd)) (some (false, .int am)) none) rfl ?_
      refine fSeq_nx e1 (fSeq_nx (fPar_of e2 e3 ⟨by simp, by simp⟩) (fSeq_nx e5 (fSeq_nx e6 (fRet_of ?_))))
      have z : rs.length ≤ SL := by have : (3 : Nat) ≤ SL := by decide
                                    omega
      exact fTup_of (fCons_of (t := (false, .str kd)) rfl (fCons_of (t := (false, .tup rs)) (fBC1_of (fOpd_of e7) rfl rfl) rfl)) (by show 2 ≤ SL; decide)
end LW

set_option Elab.async false
set_option linter.all false
set_option maxRecDepth 100000
set_option maxHeartbeats 8000000
set_option exponentiation.threshold 100
namespace LW
open VL PySem
open L2 (atI ixN)
theorem pool_ok {ns : List Int} {i : Nat} (h1 : i < 64) : ∃ p, f__law_pool [(false, .scr ns), (false, .int (i : Int))] = some ((true, p), [some (false, .scr ns), some (false, .int (i : Int))]) ∧ Pl 0 p := by
  have tail : ∀ c : Int, ∃ p, fRet (fLst (fCons (fBC gMax2 (foCons (fOpd (fC (.int 0))) (foCons (fOpd (fOp2 gSub (fOpd (fBC gAbs (foCons (fBor 2) foNil))) (fOpd (fOp2 gPow (fOpd (fC (.int 10))) (fOpd (fC (.int 18))))))) foNil))) (fCons (fOp2 gAdd (fOpd (fOp2 gMod (fOpd (fBC gInt (foCons (fBor 2) foNil))) (fOpd (fC (.int 2305843009213693951))))) (fOpd (fOp2 gMul (fOpd (fC (.int 7368787))) (fOpd (fOp2 gAdd (fBor 1) (fOpd (fC (.int 1)))))))) (fCons (fC (.int 0)) fNil)))) [some (false, .scr ns), some (false, .int (i : Int)), some (false, .int c)] = some (.ret (true, p) [some (false, .scr ns), some (false, .int (i : Int)), some (false, .int c)]) ∧ Pl 0 p := fun c => by
    have q1 : (10 : Nat) < 2 ^ 1024 := Nat.lt_of_lt_of_le (by decide : 10 < 2 ^ 4) (Nat.pow_le_pow_right (by decide) (by decide))
    refine ⟨.lst [.int (if 1000000000000000000 < if c < 0 then -c else c then (if c < 0 then -c else c) - 1000000000000000000 else 0), .int (c % 2305843009213693951 + 7368787 * ((i : Int) + 1)), .int 0], by simp [q1, gMax2, gAbs, gPow, gMul, SL, bodyFn, fSeq, fIf, fTest, fOp1, fOp2, fOpd, fBor, fC, res, gIxA, gIx, atI0, atI1, atI2, VL.tB, tI, tS, fSet, fBC, foCons, foNil, ress, fRet, fTake, fVar, backs, fSkip, fNever, fDrop, fOr, fAnd, fNot, fIfE, fAndV, fOrV, fNotV, fCall, faCons, faNil, faLend, giveB, fLst, fTup, fCons, fNil, List.getElem?_cons_zero, List.getElem?_cons_succ, fPar, gfName, gfTup, gfCons, gfNil, fAsgT, fiSeq, seqOf, gGt, gLt, gLe, gGe, gAdd, gSub, gInt, gMod, gFdiv, gLen, gNeg, fSetIxA], _, _, _, rfl, ?_, ?_, by decide, by decide⟩
    · have := Int.emod_nonneg c (by decide : (2305843009213693951 : Int) ≠ 0)
      omega
    · have := Int.emod_lt_of_pos c (by decide : (0 : Int) < 2305843009213693951)
      omega
  by_cases h : (i : Int) < ns.length
  · have hi : i < ns.length := by omega
    obtain ⟨p, e, hp⟩ := tail ns[i]
    refine ⟨p, body_ret rfl (fSeq_nx rfl (fSeq_nx (S1 := [some (false, .scr ns), some (false, .int (i : Int)), some (false, .int ns[i])]) (fIf_t (S1 := [some (false, .scr ns), some (false, .int (i : Int)), some (false, .int 0)]) ?_ ?_) e)), hp⟩
    · simp [gLen, h, hi, bodyFn, fSeq, fIf, fTest, fOp1, fOp2, fOpd, fBor, fC, res, gIxA, gIx, atI0, atI1, atI2, VL.tB, tI, tS, fSet, fBC, foCons, foNil, ress, fRet, fTake, fVar, backs, fSkip, fNever, fDrop, fOr, fAnd, fNot, fIfE, fAndV, fOrV, fNotV, fCall, faCons, faNil, faLend, giveB, fLst, fTup, fCons, fNil, List.getElem?_cons_zero, List.getElem?_cons_succ, fPar, gfName, gfTup, gfCons, gfNil, fAsgT, fiSeq, seqOf, gGt, gLt, gLe, gGe, gAdd, gSub, gInt, gMod, gFdiv, gLen, gNeg, fSetIxA]
    · have := atI_nat ns i hi
      rw [List.getElem?_eq_getElem hi] at this
      simp [this, bodyFn, fSeq, fIf, fTest, fOp1, fOp2, fOpd, fBor, fC, res, gIxA, gIx, atI0, atI1, atI2, VL.tB, tI, tS, fSet, fBC, foCons, foNil, ress, fRet, fTake, fVar, backs, fSkip, fNever, fDrop, fOr, fAnd, fNot, fIfE, fAndV, fOrV, fNotV, fCall, faCons, faNil, faLend, giveB, fLst, fTup, fCons, fNil, List.getElem?_cons_zero, List.getElem?_cons_succ, fPar, gfName, gfTup, gfCons, gfNil, fAsgT, fiSeq, seqOf, gGt, gLt, gLe, gGe, gAdd, gSub, gInt, gMod, gFdiv, gLen, gNeg, fSetIxA]
  · obtain ⟨p, e, hp⟩ := tail 0
    refine ⟨p, body_ret rfl (fSeq_nx rfl (fSeq_nx (S1 := [some (false, .scr ns), some (false, .int (i : Int)), some (false, .int 0)]) (fIf_f (S1 := [some (false, .scr ns), some (false, .int (i : Int)), some (false, .int 0)]) ?_ rfl) e)), hp⟩
    have h' : ns.length ≤ i := by omega
    simp [gLen, h, h', bodyFn, fSeq, fIf, fTest, fOp1, fOp2, fOpd, fBor, fC, res, gIxA, gIx, atI0, atI1, atI2, VL.tB, tI, tS, fSet, fBC, foCons, foNil, ress, fRet, fTake, fVar, backs, fSkip, fNever, fDrop, fOr, fAnd, fNot, fIfE, fAndV, fOrV, fNotV, fCall, faCons, faNil, faLend, giveB, fLst, fTup, fCons, fNil, List.getElem?_cons_zero, List.getElem?_cons_succ, fPar, gfName, gfTup, gfCons, gfNil, fAsgT, fiSeq, seqOf, gGt, gLt, gLe, gGe, gAdd, gSub, gInt, gMod, gFdiv, gLen, gNeg, fSetIxA]
/-- what each turn's check keeps -/
def RightSpec (B : Nat) (right : Fn) : Prop := ∀ (k : Nat) (p : D), Pl k p → k + B < 2 ^ 800 → ∃ p', right [(true, p)] = some ((false, .bl true), [some (true, p')]) ∧ Pl (k + B) p'
theorem rng_get {n : Nat} {i : Nat} {d : D} (h : ((List.range n).map fun j => D.int (0 + (j : Nat)))[i]? = some d) : i < n ∧ d = .int (i : Nat) := by
  rw [List.getElem?_map] at h
  by_cases hi : i < n
  · rw [List.getElem?_range hi] at h
    cases h
    exact ⟨hi, by simp⟩
  · rw [List.getElem?_eq_none (by simpa using hi)] at h
    cases h
theorem law_of {B : Nat} (hB : B ≤ 2 ^ 40) (hR : RightSpec B f__law_right) : ∀ ns : List Int, ns.length ≤ 63 → ∃ bs, f_law [(false, .scr ns)] = some ((false, .bl true), bs) := by
  intro ns hns
  have turns : ∀ (i : Nat) (p0 : D) (b : Option T), Pl 0 p0 → ∃ p' b', fFor (fiRng1 (fOpd (fC (.int 5)))) (gfName 3) (fIf (fNot (fTest (fCall f__law_right (some (0, 2)) (faLend 2 faNil)))) (fRet (fC (.bl false))) fSkip) [some (false, .scr ns), some (false, .int (i : Nat)), some (true, p0), b] = some (.nx [some (false, .scr ns), some (false, .int (i : Nat)), some (true, p'), b']) := fun i p0 b hp0 => by
    obtain ⟨S', e, p', b', rfl, _⟩ := fLoop_inv (gf := gfName 3) (b := fIf (fNot (fTest (fCall f__law_right (some (0, 2)) (faLend 2 faNil)))) (fRet (fC (.bl false))) fSkip)
      (fun n S => ∃ p' b', S = [some (false, .scr ns), some (false, .int (i : Nat)), some (true, p'), b'] ∧ Pl (n * B) p') ((List.range 5).map fun j => D.int (0 + (j : Nat))) 0 [some (false, .scr ns), some (false, .int (i : Nat)), some (true, p0), b] ⟨p0, b, rfl, by simpa using hp0⟩ (fun n d S1 h1 hJ => by
        obtain ⟨p1, b1, rfl, hp1⟩ := hJ
        obtain ⟨hn, rfl⟩ := rng_get h1
        have h5 : n * B ≤ 5 * 2 ^ 40 := Nat.mul_le_mul (by omega) hB
        rw [Nat.zero_add] at hp1
        obtain ⟨p2, e2, hp2⟩ := hR (n * B) p1 hp1 (by
          have : (2 : Nat) ^ 50 ≤ 2 ^ 800 := Nat.pow_le_pow_right (by decide) (by decide)
          omega)
        refine ⟨_, _, rfl, fIf_f (S1 := [some (false, .scr ns), some (false, .int (i : Nat)), some (true, p2), some (false, .int (n : Nat))]) ?_ rfl, p2, _, rfl, ?_⟩
        · have e3 : fCall f__law_right (some (0, 2)) (faLend 2 faNil) [some (false, .scr ns), some (false, .int (i : Nat)), some (true, p1), some (false, .int (n : Nat))] = some ((false, .bl true), [some (false, .scr ns), some (false, .int (i : Nat)), some (true, p2), some (false, .int (n : Nat))]) := fCallL_of (i := 2) (S1 := [some (false, .scr ns), some (false, .int (i : Nat)), none, some (false, .int (n : Nat))]) (u := (true, p2)) rfl e2 rfl
          exact fNot_of (b := true) (fTest_of e3)
        · rw [Nat.zero_add, Nat.succ_mul]
          exact hp2)
    exact ⟨p', b', fFor_of rfl e⟩
  have hlen : ∃ m : Nat, m ≤ 6 ∧ (fiRng1 (fOpd (fBC gMax2 (foCons (fOpd (fC (.int 1))) (foCons (fOpd (fBC gMin2 (foCons (fOpd (fC (.int 6))) (foCons (fOpd (fBC gLen (foCons (fBor 0) foNil))) foNil)))) foNil))))) [some (false, .scr ns), none, none, none] = some ((List.range m).map fun j => D.int (0 + (j : Nat)), [some (false, .scr ns), none, none, none]) := by
    have e : (fiRng1 (fOpd (fBC gMax2 (foCons (fOpd (fC (.int 1))) (foCons (fOpd (fBC gMin2 (foCons (fOpd (fC (.int 6))) (foCons (fOpd (fBC gLen (foCons (fBor 0) foNil))) foNil)))) foNil))))) [some (false, .scr ns), none, none, none] =
      (if okRg (if (if (ns.length : Int) < 6 then (ns.length : Int) else 6) > 1 then (if (ns.length : Int) < 6 then (ns.length : Int) else 6) else 1) then some ((List.range (if (if (ns.length : Int) < 6 then (ns.length : Int) else 6) > 1 then (if (ns.length : Int) < 6 then (ns.length : Int) else 6) else 1).toNat).map fun j => D.int (0 + (j : Nat)), [some (false, .scr ns), none, none, none]) else none) := rfl
    have hq : ∀ q : Int, 0 ≤ q → q ≤ 6 → okRg q = true := fun q h0 h6 => by unfold okRg; simp; omega
    have b0 : 0 ≤ (if (if (ns.length : Int) < 6 then (ns.length : Int) else 6) > 1 then (if (ns.length : Int) < 6 then (ns.length : Int) else 6) else 1) := by split <;> split <;> omega
    have b6 : (if (if (ns.length : Int) < 6 then (ns.length : Int) else 6) > 1 then (if (ns.length : Int) < 6 then (ns.length : Int) else 6) else 1) ≤ 6 := by split <;> split <;> omega
    rw [e]
    generalize (if (if (ns.length : Int) < 6 then (ns.length : Int) else 6) > 1 then (if (ns.length : Int) < 6 then (ns.length : Int) else 6) else 1) = q at b0 b6
    exact ⟨q.toNat, by omega, by rw [hq _ b0 b6]; rfl⟩
  obtain ⟨m, hm, em⟩ := hlen
  obtain ⟨S', e, sp, b2, b3, rfl⟩ := fLoop_inv (gf := gfName 1) (b := fSeq (fSet 2 (fCall f__law_pool none (faCons (fVar 0) (faCons (fVar 1) faNil)))) (fFor (fiRng1 (fOpd (fC (.int 5)))) (gfName 3) (fIf (fNot (fTest (fCall f__law_right (some (0, 2)) (faLend 2 faNil)))) (fRet (fC (.bl false))) fSkip)))
    (fun _ S => ∃ b1 b2 b3, S = [some (false, .scr ns), b1, b2, b3]) ((List.range m).map fun j => D.int (0 + (j : Nat))) 0 [some (false, .scr ns), none, none, none] ⟨_, _, _, rfl⟩ (fun n d S1 h1 hJ => by
      obtain ⟨b1, b2, b3, rfl⟩ := hJ
      obtain ⟨hn, rfl⟩ := rng_get h1
      obtain ⟨p0, e0, hp0⟩ := pool_ok (ns := ns) (i := n) (by omega)
      obtain ⟨p', b', e1⟩ := turns n p0 b3 hp0
      exact ⟨[some (false, .scr ns), some (false, .int (n : Nat)), b2, b3], _, rfl, fSeq_nx (fSet_of (fCall_of rfl e0) (by simp)) e1, _, _, _, rfl⟩)
  exact ⟨_, body_ret (N := 4) (S := [some (false, .scr ns), sp, b2, b3]) rfl (fSeq_nx (fFor_of em e) rfl)⟩
end LW

set_option Elab.async false
set_option linter.all false
set_option maxRecDepth 100000
set_option maxHeartbeats 8000000
set_option exponentiation.threshold 100
namespace LW
open VL PySem
open L2 (atI ixN)
theorem isl_str (s : Str) : f_is_letter [(false, .str s)] = some ((false, .bl true), [some (false, .str s)]) := rfl
theorem isl_tup (ds : List D) : f_is_letter [(false, .tup ds)] = some ((false, .bl false), [some (false, .tup ds)]) := rfl
def flip (k : Str) : Str := if k == "low" then "high" else "low"
theorem flip_low : flip "low" = "high" := rfl
theorem flip_high : flip "high" = "low" := rfl
/-- u is t with the words exchanged, by both -/
def ExP (n : Nat) (t u : D) : Prop := (∀ m, n < m → f_exchanged m [(false, t)] = some ((false, u), [some (false, t)])) ∧ (∀ m, n < m → f__law_other m [(false, t)] = some ((false, u), [some (false, t)])) ∧ ∀ m, n < m → f_exchanged m [(false, u)] = some ((false, t), [some (false, u)])
theorem gEq_kd {k : Str} (h : k = "low" ∨ k = "high") (j : Str) (hj : j = "low" ∨ j = "high") : gEqA (.str k) (.str j) = VL.tB (k == j) := rfl
theorem ex_step {kd : Str} {ps us : List D} {n m : Nat} (hk : kd = "low" ∨ kd = "high") (hz : us.length ≤ SL) (h : All2 (fun d r => f_exchanged m [(false, d)] = some ((false, r), [some (false, d)])) ps us) : f_exchanged (m + 1) [(false, .tup [.str kd, .tup ps])] = some ((false, .tup [.str (flip kd), .tup us]), [some (false, .tup [.str kd, .tup ps])]) := by
  refine body_ret (S := [some (false, .tup [.str kd, .tup ps]), none]) rfl (fSeq_nx (fIf_f (fTest_of (fCall_of rfl (isl_tup _))) rfl) (fRet_of (fTup_of (fCons_of (t := (false, .str (flip kd))) (S1 := [some (false, .tup [.str kd, .tup ps]), none]) ?_ (fCons_of (t := (false, .tup us)) (fBC1_of (fOpd_of (fComp_of (rs := us) rfl (by rw [h.len]; exact hz) (fCompL_all2 (by show 1 < 2; decide) rfl (h.imp fun d r e => ⟨false, fCall_of rfl e⟩)))) rfl rfl) rfl)) (by show 2 ≤ SL; decide))))
  have t0 : fTest (fOp2 gEqA (fOpd (fOp2 gIxA (fBor 0) (fOpd (fC (.int 0))))) (fOpd (fC (.str "low")))) [some (false, .tup [.str kd, .tup ps]), none] = some (kd == "low", [some (false, .tup [.str kd, .tup ps]), none]) :=
    fTest_of (fOp2_of (fOpd_of rfl) rfl rfl rfl (gEq_kd hk "low" (.inl rfl)))
  unfold flip
  rcases hk with rfl | rfl
  · exact fIfE_t t0 rfl
  · exact fIfE_f t0 rfl
theorem ot_step {kd : Str} {ps us : List D} {n m : Nat} (hk : kd = "low" ∨ kd = "high") (hz : us.length ≤ SL) (h : All2 (fun d r => f__law_other m [(false, d)] = some ((false, r), [some (false, d)])) ps us) : f__law_other (m + 1) [(false, .tup [.str kd, .tup ps])] = some ((false, .tup [.str (flip kd), .tup us]), [some (false, .tup [.str kd, .tup ps])]) := by
  refine body_ret (S := [some (false, .tup [.str kd, .tup ps]), none]) rfl (fSeq_nx (fIf_f (S1 := [some (false, .tup [.str kd, .tup ps]), none]) rfl rfl) (fRet_of (fTup_of (fCons_of (t := (false, .str (flip kd))) (S1 := [some (false, .tup [.str kd, .tup ps]), none]) ?_ (fCons_of (t := (false, .tup us)) (fBC1_of (fOpd_of (fComp_of (rs := us) rfl (by rw [h.len]; exact hz) (fCompL_all2 (by show 1 < 2; decide) rfl (h.imp fun d r e => ⟨false, fCall_of rfl e⟩)))) rfl rfl) rfl)) (by show 2 ≤ SL; decide))))
  have t0 : fTest (fOp2 gEqA (fOpd (fOp2 gIxA (fBor 0) (fOpd (fC (.int 0))))) (fOpd (fC (.str "high")))) [some (false, .tup [.str kd, .tup ps]), none] = some (kd == "high", [some (false, .tup [.str kd, .tup ps]), none]) :=
    fTest_of (fOp2_of (fOpd_of rfl) rfl rfl rfl (gEq_kd hk "high" (.inr rfl)))
  unfold flip
  rcases hk with rfl | rfl
  · exact fIfE_f t0 rfl
  · exact fIfE_t t0 rfl
theorem ex_leaf (s : Str) (m : Nat) : f_exchanged (m + 1) [(false, .str s)] = some ((false, .str s), [some (false, .str s)]) := body_ret (S := [some (false, .str s), none]) rfl (fSeq_ret (fIf_t (fTest_of (fCall_of rfl (isl_str s))) rfl))
theorem ot_leaf (s : Str) (m : Nat) : f__law_other (m + 1) [(false, .str s)] = some ((false, .str s), [some (false, .str s)]) := rfl
theorem flip_ok {k : Str} (h : k = "low" ∨ k = "high") : flip k = "low" ∨ flip k = "high" := by rcases h with rfl | rfl; exact .inr rfl; exact .inl rfl
theorem flip_flip {k : Str} (h : k = "low" ∨ k = "high") : flip (flip k) = k := by rcases h with rfl | rfl <;> rfl
theorem SL3 {n : Nat} (h : n ≤ 3) : n ≤ SL := Nat.le_trans h (by decide)
mutual
theorem ex_tm {A : Str → Prop} : ∀ {n : Nat} {t : D}, Tm A n t → ∃ u, Tm A n u ∧ ExP n t u
  | n, _, .leaf (s := s) a => by
    refine ⟨.str s, .leaf a, fun m hm => ?_, fun m hm => ?_, fun m hm => ?_⟩
    all_goals obtain ⟨q, rfl⟩ : ∃ q, m = q + 1 := ⟨m - 1, by omega⟩
    · exact ex_leaf s q
    · exact ot_leaf s q
    · exact ex_leaf s q
  | _, _, .node (k := k) (ps := ps) (n := n) hk l2 l3 h => by
    obtain ⟨us, hu, ha⟩ := ex_tms h
    have hl := ha.len
    refine ⟨.tup [.str (flip k), .tup us], .node (flip_ok hk) (by omega) (by omega) hu, fun m hm => ?_, fun m hm => ?_, fun m hm => ?_⟩
    · obtain ⟨q, rfl⟩ : ∃ q, m = q + 1 := ⟨m - 1, by omega⟩
      exact ex_step (n := n) hk (SL3 (by omega)) (ha.imp fun d r e => e.1 q (by omega))
    · obtain ⟨q, rfl⟩ : ∃ q, m = q + 1 := ⟨m - 1, by omega⟩
      exact ot_step (n := n) hk (SL3 (by omega)) (ha.imp fun d r e => e.2.1 q (by omega))
    · obtain ⟨q, rfl⟩ : ∃ q, m = q + 1 := ⟨m - 1, by omega⟩
      have := ex_step (n := n) (flip_ok hk) (SL3 (by omega)) (ha.swap.imp fun d r e => e.2.2 q (by omega))
      rw [flip_flip hk] at this
      exact this
theorem ex_tms {A : Str → Prop} : ∀ {n : Nat} {ts : List D}, Tms A n ts → ∃ us, Tms A n us ∧ All2 (ExP n) ts us
  | _, _, .nil => ⟨[], .nil, .nil⟩
  | _, _, .cons h t => by
    obtain ⟨u, hu, e⟩ := ex_tm h
    obtain ⟨us, hus, es⟩ := ex_tms t
    exact ⟨u :: us, .cons hu hus, .cons e es⟩
end
end LW

set_option Elab.async false
set_option linter.all false
set_option maxRecDepth 100000
set_option maxHeartbeats 8000000
set_option exponentiation.threshold 100
namespace LW
open VL PySem
open L2 (atI ixN)
mutual
theorem Tm.up {A : Str → Prop} : ∀ {n : Nat} {t : D}, Tm A n t → ∀ {m : Nat}, n ≤ m → Tm A m t
  | _, _, .leaf a, _, _ => .leaf a
  | _, _, .node (n := n) hk h2 h3 h, m, hm => by
    obtain ⟨q, rfl⟩ : ∃ q, m = q + 1 := ⟨m - 1, by omega⟩
    exact .node hk h2 h3 (Tms.up h (by omega))
theorem Tms.up {A : Str → Prop} : ∀ {n : Nat} {t : List D}, Tms A n t → ∀ {m : Nat}, n ≤ m → Tms A m t
  | _, _, .nil, _, _ => .nil
  | _, _, .cons h t, _, hm => .cons (Tm.up h hm) (Tms.up t hm)
end
mutual
theorem Tm.imp {A B : Str → Prop} (f : ∀ s, A s → B s) : ∀ {n : Nat} {t : D}, Tm A n t → Tm B n t
  | _, _, .leaf a => .leaf (f _ a)
  | _, _, .node hk h2 h3 h => .node hk h2 h3 (Tms.imp f h)
theorem Tms.imp {A B : Str → Prop} (f : ∀ s, A s → B s) : ∀ {n : Nat} {t : List D}, Tms A n t → Tms B n t
  | _, _, .nil => .nil
  | _, _, .cons h t => .cons (Tm.imp f h) (Tms.imp f t)
end
/-- what stands for the letter s -/
def val (kv : List (D × D)) (s : Str) : D := (dget kv (.inr s)).getD (.str s)
theorem wt_leaf (s : Str) (kv : List (D × D)) (m : Nat) : f_with_terms (m + 1) [(false, .str s), (false, .dct kv)] = some ((false, val kv s), [some (false, .str s), some (false, .dct kv)]) :=
  body_ret (S := [some (false, .str s), some (false, .dct kv), none]) rfl (fSeq_ret (fIf_t (fTest_of (fCall_of rfl (isl_str s))) rfl))
theorem pt_leaf (s : Str) (kv : List (D × D)) (m : Nat) : f__law_put (m + 1) [(false, .str s), (false, .dct kv)] = some ((false, val kv s), [some (false, .str s), some (false, .dct kv)]) := by
  refine body_ret (S := [some (false, .str s), some (false, .dct kv), none]) rfl (fSeq_ret (fIf_t (S1 := [some (false, .str s), some (false, .dct kv), none]) rfl (fRet_of ?_)))
  have t0 : fTest (fOp2 gInB (fBor 0) (fBor 1)) [some (false, .str s), some (false, .dct kv), none] = some ((dget kv (.inr s)).isSome, [some (false, .str s), some (false, .dct kv), none]) := rfl
  unfold val
  cases e : dget kv (.inr s) with
  | none =>
    rw [e] at t0
    exact fIfE_f t0 rfl
  | some d =>
    rw [e] at t0
    refine fIfE_t t0 (fOp2_of (o := .inr 1) (o' := .inr 0) rfl rfl rfl rfl ?_)
    show (match kOf (.str s) with
      | some k => (dget kv k).map fun d => (false, d)
      | none => none) = _
    show (dget kv (.inr s)).map _ = _
    rw [e]
    rfl
theorem wt_step {kd : Str} {ps us : List D} {kv : List (D × D)} {m : Nat} (hz : us.length ≤ SL) (h : All2 (fun d r => f_with_terms m [(false, d), (false, .dct kv)] = some ((false, r), [some (false, d), some (false, .dct kv)])) ps us) : f_with_terms (m + 1) [(false, .tup [.str kd, .tup ps]), (false, .dct kv)] = some ((false, .tup [.str kd, .tup us]), [some (false, .tup [.str kd, .tup ps]), some (false, .dct kv)]) := by
  exact body_ret (S := [some (false, .tup [.str kd, .tup ps]), some (false, .dct kv), none]) rfl (fSeq_nx (fIf_f (fTest_of (fCall_of rfl (isl_tup _))) rfl) (fRet_of (fTup_of (fCons_of (t := (false, .str kd)) (S1 := [some (false, .tup [.str kd, .tup ps]), some (false, .dct kv), none]) rfl (fCons_of (t := (false, .tup us)) (fBC1_of (fOpd_of (fComp_of (rs := us) rfl (by rw [h.len]; exact hz) (fCompL_all2 (by show 2 < 3; decide) rfl (h.imp fun d r e => ⟨false, fCall_of rfl e⟩)))) rfl rfl) rfl)) (by show 2 ≤ SL; decide))))
theorem pt_step {kd : Str} {ps us : List D} {kv : List (D × D)} {m : Nat} (hz : us.length ≤ SL) (h : All2 (fun d r => f__law_put m [(false, d), (false, .dct kv)] = some ((false, r), [some (false, d), some (false, .dct kv)])) ps us) : f__law_put (m + 1) [(false, .tup [.str kd, .tup ps]), (false, .dct kv)] = some ((false, .tup [.str kd, .tup us]), [some (false, .tup [.str kd, .tup ps]), some (false, .dct kv)]) := by
  exact body_ret (S := [some (false, .tup [.str kd, .tup ps]), some (false, .dct kv), none]) rfl (fSeq_nx (fIf_f (S1 := [some (false, .tup [.str kd, .tup ps]), some (false, .dct kv), none]) rfl rfl) (fRet_of (fTup_of (fCons_of (t := (false, .str kd)) (S1 := [some (false, .tup [.str kd, .tup ps]), some (false, .dct kv), none]) rfl (fCons_of (t := (false, .tup us)) (fBC1_of (fOpd_of (fComp_of (rs := us) rfl (by rw [h.len]; exact hz) (fCompL_all2 (by show 2 < 3; decide) rfl (h.imp fun d r e => ⟨false, fCall_of rfl e⟩)))) rfl rfl) rfl)) (by show 2 ≤ SL; decide))))
def PutP (kv kv2 : List (D × D)) (n : Nat) (t u : D) : Prop := (∀ m, n < m → f_with_terms m [(false, t), (false, .dct kv)] = some ((false, u), [some (false, t), some (false, .dct kv)])) ∧ ∀ m, n < m → f__law_put m [(false, t), (false, .dct kv2)] = some ((false, u), [some (false, t), some (false, .dct kv2)])
/-- both dicts say the same of the letters, terms of B -/
def Say (A B : Str → Prop) (q : Nat) (kv kv2 : List (D × D)) : Prop := ∀ s, A s → Tm B q (val kv s) ∧ val kv2 s = val kv s
mutual
theorem put_tm {A B : Str → Prop} {q : Nat} {kv kv2 : List (D × D)} (H : Say A B q kv kv2) : ∀ {n : Nat} {t : D}, Tm A n t → ∃ u, Tm B (n + q) u ∧ PutP kv kv2 n t u
  | n, _, .leaf (s := s) a => by
    obtain ⟨h1, h2⟩ := H s a
    refine ⟨val kv s, h1.up (by omega), fun m hm => ?_, fun m hm => ?_⟩
    all_goals obtain ⟨q, rfl⟩ : ∃ q, m = q + 1 := ⟨m - 1, by omega⟩
    · exact wt_leaf s kv q
    · rw [← h2]; exact pt_leaf s kv2 q
  | _, _, .node (k := k) (ps := ps) (n := n) hk l2 l3 h => by
    obtain ⟨us, hu, ha⟩ := put_tms H h
    have hl := ha.len
    have e : n + 1 + q = n + q + 1 := by omega
    refine ⟨.tup [.str k, .tup us], by rw [e]; exact .node hk (by omega) (by omega) hu, fun m hm => ?_, fun m hm => ?_⟩
    all_goals obtain ⟨q, rfl⟩ : ∃ q, m = q + 1 := ⟨m - 1, by omega⟩
    · exact wt_step (SL3 (by omega)) (ha.imp fun d r e => e.1 q (by omega))
    · exact pt_step (SL3 (by omega)) (ha.imp fun d r e => e.2 q (by omega))
theorem put_tms {A B : Str → Prop} {q : Nat} {kv kv2 : List (D × D)} (H : Say A B q kv kv2) : ∀ {n : Nat} {ts : List D}, Tms A n ts → ∃ us, Tms B (n + q) us ∧ All2 (PutP kv kv2 n) ts us
  | _, _, .nil => ⟨[], .nil, .nil⟩
  | _, _, .cons h t => by
    obtain ⟨u, hu, e⟩ := put_tm H h
    obtain ⟨us, hus, es⟩ := put_tms H t
    exact ⟨u :: us, .cons hu hus, .cons e es⟩
end
/-! ### put_in -/
def kvD (l : List (Str × D)) : List (D × D) := l.map fun p => (.str p.1, p.2)
def prD (l : List (Str × D)) : List D := l.map fun p => .tup [.str p.1, p.2]
theorem isKey_str (s z : Str) : isKey (.inr s) (.str z) = decide (z = s) := isKey_keyD (.inr s) (.inr z) |>.trans (by simp)
theorem dget_kvD (s : Str) : ∀ l : List (Str × D), dget (kvD l) (.inr s) = (l.find? fun p => decide (p.1 = s)).map (·.2)
  | [] => rfl
  | p :: l => by
    have ih := dget_kvD s l
    unfold dget kvD at ih ⊢
    rw [List.map_cons, List.find?_cons, List.find?_cons]
    rw [isKey_str]
    cases decide (p.1 = s) with
    | true => rfl
    | false => exact ih
theorem dget_none {s : Str} {l : List (Str × D)} (h : ∀ p ∈ l, p.1 ≠ s) : dget (kvD l) (.inr s) = none := by
  rw [dget_kvD, List.find?_eq_none.mpr (fun p hp => by simpa using h p hp)]
  rfl
theorem dput_new {s : Str} {d : D} {l : List (Str × D)} (h : ∀ p ∈ l, p.1 ≠ s) : dput (kvD l) (.inr s) d = kvD (l ++ [(s, d)]) := by
  unfold dput
  rw [if_neg]
  · simp [kvD, keyD]
  · intro z
    rw [List.any_eq_true] at z
    obtain ⟨p, hp, e⟩ := z
    unfold kvD at hp
    rw [List.mem_map] at hp
    obtain ⟨p', hp', rfl⟩ := hp
    rw [isKey_str] at e
    exact h p' hp' (by simpa using e)
abbrev pIn : FS := fSeq (fIf (fTest (fOp2 gInB (fBor 3) (fBor 2))) fNever fSkip) (fSetIxA 2 (fVar 4) (fBor 3))
abbrev pTg : FG := gfTup 2 (gfCons (gfName 3) (gfCons (gfName 4) gfNil))
theorem put_loop {t P : D} : ∀ (rest acc : List (Str × D)) (x y : Option T), ((acc ++ rest).map (·.1)).Nodup → (acc ++ rest).length < SL → ∃ x' y', fLoop pTg pIn (prD rest) [some (false, t), some (false, P), some (true, .dct (kvD acc)), x, y] = some (.nx [some (false, t), some (false, P), some (true, .dct (kvD (acc ++ rest))), x', y'])
  | [], acc, x, y, _, _ => ⟨x, y, by rw [List.append_nil]; rfl⟩
  | (s, d) :: rest, acc, x, y, nd, hl => by
    have e : acc ++ (s, d) :: rest = (acc ++ [(s, d)]) ++ rest := by simp
    have fresh : ∀ p ∈ acc, p.1 ≠ s := fun p hp z => by
      rw [List.map_append, List.nodup_append] at nd
      exact nd.2.2 p.1 (List.mem_map_of_mem hp) s (by simp) z
    obtain ⟨x', y', h⟩ := put_loop rest (acc ++ [(s, d)]) (some (false, .str s)) (some (false, d)) (by rw [← e]; exact nd) (by rw [← e]; exact hl)
    refine ⟨x', y', ?_⟩
    rw [e]
    refine fLoop_cons (S1 := [some (false, t), some (false, P), some (true, .dct (kvD acc)), some (false, .str s), some (false, d)]) rfl (fSeq_nx (S1 := [some (false, t), some (false, P), some (true, .dct (kvD acc)), some (false, .str s), some (false, d)]) (fIf_f ?_ rfl) ?_) h
    · have : fTest (fOp2 gInB (fBor 3) (fBor 2)) [some (false, t), some (false, P), some (true, .dct (kvD acc)), some (false, .str s), some (false, d)] = some ((dget (kvD acc) (.inr s)).isSome, [some (false, t), some (false, P), some (true, .dct (kvD acc)), some (false, .str s), some (false, d)]) := rfl
      rw [this, dget_none fresh]
      rfl
    · have hz : (kvD acc).length < SL := by
        unfold kvD
        rw [List.length_map]
        rw [List.length_append] at hl
        omega
      have : fSetIxA 2 (fVar 4) (fBor 3) [some (false, t), some (false, P), some (true, .dct (kvD acc)), some (false, .str s), some (false, d)] = if (kvD acc).length < SL then some (.nx [some (false, t), some (false, P), some (true, .dct (dput (kvD acc) (.inr s) d)), some (false, .str s), some (false, d)]) else none := rfl
      rw [this, if_pos hz, dput_new fresh]
theorem put_ok {A B : Str → Prop} {q n : Nat} {l : List (Str × D)} {kv2 : List (D × D)} {t : D} (nd : (l.map (·.1)).Nodup) (hl : l.length < SL) (H : Say A B q (kvD l) kv2) (h : Tm A n t) (hn : n < 12) : ∃ u, Tm B (n + q) u ∧ f_put_in [(false, t), (false, .lst (prD l))] = some ((false, u), [some (false, t), some (false, .lst (prD l))]) ∧ f__law_put 12 [(false, t), (false, .dct kv2)] = some ((false, u), [some (false, t), some (false, .dct kv2)]) := by
  obtain ⟨u, hu, p1, p2⟩ := put_tm H h
  refine ⟨u, hu, ?_, p2 12 hn⟩
  obtain ⟨x, y, e⟩ := put_loop (t := t) (P := .lst (prD l)) l [] none none nd hl
  exact body_ret (S := [some (false, t), some (false, .lst (prD l)), some (false, .dct (kvD l)), x, y]) rfl (fSeq_nx rfl (fSeq_nx (fFor_of rfl e) (fRet_of (fCall_of rfl (p1 12 hn)))))
end LW

set_option Elab.async false
set_option linter.all false
set_option maxRecDepth 100000
set_option maxHeartbeats 8000000
set_option exponentiation.threshold 100
namespace LW
open VL PySem
open L2 (atI ixN)
theorem Sh.str {s : Str} {m : Nat} (h : (reprText s).length ≤ m) : Sh m (.str s) := ⟨by simp only [D.py, PyData.showable], by simp only [D.py, PyData.shown]; exact h⟩
theorem kd_ok {k : Str} (h : k = "low" ∨ k = "high") : PyData.strOk k = true ∧ (reprText k).length ≤ 10 := by rcases h with rfl | rfl <;> decide +kernel
theorem Sh.node {k : Str} {ps : List D} {m : Nat} (hk : (reprText k).length ≤ 10) (h3 : ps.length ≤ 3) (hm : 40 ≤ m) (h : ∀ d ∈ ps, Sh m d) : Sh (4 * m) (.tup [.str k, .tup ps]) := by
  obtain ⟨h1, h2⟩ := Sh.tup h
  refine ⟨?_, ?_⟩
  · have e : (D.tup [.str k, .tup ps]).py = .tuple [.str k, (D.tup ps).py] := by simp only [D.py, pys]
    rw [e]
    simp only [PyData.showable, PyData.showableAll, h1, Bool.and_self, Bool.and_true, Bool.true_and]
  · have e : (D.tup [.str k, .tup ps]).py.shown = tupleText [reprText k, (D.tup ps).py.shown] := by simp only [D.py, pys, PyData.shown, PyData.shownAll]
    rw [e]
    have h5 := tuple_le [reprText k, (D.tup ps).py.shown]
    rw [piled_cons, piled_cons, piled_nil] at h5
    have h6 : (m + 2) * ps.length ≤ (m + 2) * 3 := Nat.mul_le_mul_left _ h3
    omega
mutual
theorem tm_ok {A : Str → Prop} (hA : ∀ s, A s → PyData.strOk s = true ∧ (reprText s).length ≤ 10) : ∀ {n : Nat} {t : D}, Tm A n t → Ok (2 * n) t ∧ Sh (40 * 4 ^ n) t
  | n, _, .leaf (s := s) a => ⟨.str (hA s a).1, Sh.str (by have := (hA s a).2; have h4 : 1 ≤ 4 ^ n := Nat.one_le_pow _ _ (by decide); omega)⟩
  | _, _, .node (k := k) (ps := ps) (n := n) hk l2 l3 h => by
    obtain ⟨h1, h2⟩ := tms_ok hA h
    have q := kd_ok hk
    have h4 : 1 ≤ 4 ^ n := Nat.one_le_pow _ _ (by decide)
    refine ⟨(Ok.tup (n := 2 * n + 1) (.cons (.str q.1) (.cons (.tup h1) .nil))).up (by omega), ?_⟩
    have := Sh.node q.2 l3 (by omega) h2
    rw [Nat.pow_succ]
    exact this.up (by omega)
theorem tms_ok {A : Str → Prop} (hA : ∀ s, A s → PyData.strOk s = true ∧ (reprText s).length ≤ 10) : ∀ {n : Nat} {ts : List D}, Tms A n ts → Oks (2 * n) ts ∧ ∀ d ∈ ts, Sh (40 * 4 ^ n) d
  | _, _, .nil => ⟨.nil, fun d h => by cases h⟩
  | _, _, .cons h t => by
    obtain ⟨h1, h2⟩ := tm_ok hA h
    obtain ⟨h3, h4⟩ := tms_ok hA t
    exact ⟨.cons h1 h3, fun d hd => by
      rcases List.mem_cons.mp hd with z | z
      · subst z; exact h2
      · exact h4 d z⟩
end
abbrev L4 : List Str := ["a", "b", "c", "d"]
abbrev L5 : List Str := ["a", "b", "c", "d", "f"]
abbrev LK : List Str := ["d", "a", "e", "b", "c"]
def A4 (s : Str) : Prop := s ∈ L4
def A5 (s : Str) : Prop := s ∈ L5
theorem a5_ok : ∀ s, A5 s → PyData.strOk s = true ∧ (reprText s).length ≤ 10 := by
  have : ∀ s ∈ L5, PyData.strOk s = true ∧ (reprText s).length ≤ 10 := by decide +kernel
  exact this
theorem a45 : ∀ s, A4 s → A5 s := by
  have : ∀ s ∈ L4, s ∈ L5 := by decide +kernel
  exact this
theorem a4_ok : ∀ s, A4 s → PyData.strOk s = true ∧ (reprText s).length ≤ 10 := fun s h => a5_ok s (a45 s h)
theorem lk_ok : ∀ s ∈ LK, PyData.strOk s = true := by decide +kernel
abbrev nsA : List D := L4.map .str
abbrev nsB : List D := L5.map .str
theorem nm_of {L : List Str} (h : L ≠ []) (h64 : L.length ≤ 64) : Nm (fun s => s ∈ L) (L.map .str) := ⟨by simpa using h, by simpa using h64, fun d hd => by
  obtain ⟨s, hs, rfl⟩ := List.mem_map.mp hd
  exact ⟨s, rfl, hs⟩⟩
theorem val_hd (s : Str) (d : D) (l : List (Str × D)) : val (kvD ((s, d) :: l)) s = d := by
  unfold val
  rw [dget_kvD, List.find?_cons]
  simp
theorem val_tl {s z : Str} (d : D) (l : List (Str × D)) (h : z ≠ s) : val (kvD ((z, d) :: l)) s = val (kvD l) s := by
  unfold val
  rw [dget_kvD, dget_kvD, List.find?_cons]
  simp [h]
theorem val_mem {s : Str} : ∀ {l : List (Str × D)}, val (kvD l) s = .str s ∧ (∀ p ∈ l, p.1 ≠ s) ∨ ∃ d, (s, d) ∈ l ∧ val (kvD l) s = d
  | [] => .inl ⟨rfl, fun p h => by cases h⟩
  | (z, d) :: l => by
    by_cases h : z = s
    · subst h
      exact .inr ⟨d, List.mem_cons_self, val_hd z d l⟩
    · rw [val_tl d l h]
      rcases val_mem (s := s) (l := l) with ⟨h1, h2⟩ | ⟨d', h1, h2⟩
      · exact .inl ⟨h1, fun p hp => (List.mem_cons.mp hp).elim (fun e => by subst e; exact h) (h2 p)⟩
      · exact .inr ⟨d', List.mem_cons_of_mem _ h1, h2⟩
theorem key_one : ∀ {l : List (Str × D)} {s : Str} {d e : D}, (l.map (·.1)).Nodup → (s, d) ∈ l → (s, e) ∈ l → d = e
  | [], _, _, _, _, h, _ => by cases h
  | p :: l, s, d, e, nd, h1, h2 => by
    rw [List.map_cons, List.nodup_cons] at nd
    rcases List.mem_cons.mp h1 with z | z
    · rcases List.mem_cons.mp h2 with y | y
      · have := z.trans y.symm
        cases this
        rfl
      · exact (nd.1 (List.mem_map.mpr ⟨(s, e), y, by rw [← z]⟩)).elim
    · rcases List.mem_cons.mp h2 with y | y
      · exact (nd.1 (List.mem_map.mpr ⟨(s, d), z, by rw [← y]⟩)).elim
      · exact key_one nd.2 z y
theorem val_rev {l : List (Str × D)} (nd : (l.map (·.1)).Nodup) (s : Str) : val (kvD l.reverse) s = val (kvD l) s := by
  rcases val_mem (s := s) (l := l) with ⟨h1, h2⟩ | ⟨d, h1, h2⟩
  · rcases val_mem (s := s) (l := l.reverse) with ⟨h3, _⟩ | ⟨d, h3, _⟩
    · rw [h1, h3]
    · exact (h2 _ (List.mem_reverse.mp h3) rfl).elim
  · rcases val_mem (s := s) (l := l.reverse) with ⟨_, h4⟩ | ⟨e, h3, h4⟩
    · exact (h4 _ (List.mem_reverse.mpr h1) rfl).elim
    · rw [h2, h4]
      exact key_one nd (List.mem_reverse.mp h3) h1
/-- what stands in a known dict -/
structure Kn (l : List (Str × D)) : Prop where
  nd : (l.map (·.1)).Nodup
  len : l.length ≤ 5
  key : ∀ p ∈ l, p.1 ∈ LK
  tm : ∀ p ∈ l, Tm A5 3 p.2
theorem Kn.say {l : List (Str × D)} (h : Kn l) : Say A4 A5 3 (kvD l) (kvD l) := fun s a => ⟨by
  rcases val_mem (s := s) (l := l) with ⟨h1, _⟩ | ⟨d, h1, h2⟩
  · rw [h1]; exact .leaf (a45 s a)
  · rw [h2]; exact h.tm _ h1, rfl⟩
theorem Kn.sayR {l : List (Str × D)} (h : Kn l) : Say A4 A5 3 (kvD l.reverse) (kvD l) := fun s a => ⟨by rw [val_rev h.nd]; exact (h.say s a).1, (val_rev h.nd s).symm⟩
theorem SL100 {n : Nat} (h : n ≤ 100) : n < SL := Nat.lt_of_le_of_lt h (by decide)
mutual
theorem wt_id {A : Str → Prop} : ∀ {n : Nat} {t : D}, Tm A n t → ∀ m, n < m → f_with_terms m [(false, t), (false, .dct [])] = some ((false, t), [some (false, t), some (false, .dct [])])
  | _, _, .leaf (s := s) _, m, hm => by
    obtain ⟨q, rfl⟩ : ∃ q, m = q + 1 := ⟨m - 1, by omega⟩
    exact wt_leaf s [] q
  | _, _, .node hk l2 l3 h, m, hm => by
    obtain ⟨q, rfl⟩ : ∃ q, m = q + 1 := ⟨m - 1, by omega⟩
    exact wt_step (SL3 (by omega)) (wts_id h q (by omega))
theorem wts_id {A : Str → Prop} : ∀ {n : Nat} {ts : List D}, Tms A n ts → ∀ m, n < m → All2 (fun d r => f_with_terms m [(false, d), (false, .dct [])] = some ((false, r), [some (false, d), some (false, .dct [])])) ts ts
  | _, _, .nil, _, _ => .nil
  | _, _, .cons h t, m, hm => .cons (wt_id h m hm) (wts_id t m hm)
end
/-- put_in by with_terms -/
theorem put_of {l : List (Str × D)} {t u : D} (nd : (l.map (·.1)).Nodup) (hl : l.length < SL) (h : f_with_terms 12 [(false, t), (false, .dct (kvD l))] = some ((false, u), [some (false, t), some (false, .dct (kvD l))])) : f_put_in [(false, t), (false, .lst (prD l))] = some ((false, u), [some (false, t), some (false, .lst (prD l))]) := by
  obtain ⟨x, y, e⟩ := put_loop (t := t) (P := .lst (prD l)) l [] none none nd hl
  exact body_ret (S := [some (false, t), some (false, .lst (prD l)), some (false, .dct (kvD l)), x, y]) rfl (fSeq_nx rfl (fSeq_nx (fFor_of rfl e) (fRet_of (fCall_of rfl h))))
end LW

set_option Elab.async false
set_option linter.all false
set_option maxRecDepth 100000
set_option maxHeartbeats 8000000
set_option exponentiation.threshold 100
namespace LW
open VL PySem
open L2 (atI ixN)
abbrev R (p t : D) (kn le pa ps du ma so : Option T) : VSt := [some (true, p), some (false, .lst nsA), some (false, t), kn, le, pa, ps, du, ma, so]
theorem drawT {p p' : D} {i : Int} {rest : VSt} (e : f__law_draw [(true, p), (false, .int 2)] = some ((false, .int i), [some (true, p'), some (false, .int 2)])) : fTest (fOp2 gEqA (fOpd (fCall f__law_draw (some (0, 0)) (faLend 0 (faCons (fC (.int 2)) faNil)))) (fOpd (fC (.int 0)))) (some (true, p) :: rest) = some (decide (i = 0), some (true, p') :: rest) :=
  fTest_of (fOp2_of (fOpd_of (drawC e)) rfl rfl rfl (gEqA_int i 0))
abbrev kLoop : FS := fIf (fTest (fOp2 gEqA (fOpd (fCall f__law_draw (some (0, 0)) (faLend 0 (faCons (fC (.int 2)) faNil)))) (fOpd (fC (.int 0))))) (fSetIxA 3 (fCall (f__law_term 12) (some (0, 0)) (faLend 0 (faCons (fOp2 gAdd (fBor 1) (fOpd (fLst (fCons (fC (.str "f")) fNil)))) (faCons (fOp2 gIxA (fOpd (fLst (fCons (fC (.int 1)) (fCons (fC (.int 2)) (fCons (fC (.int 3)) fNil))))) (fOpd (fCall f__law_draw (some (0, 0)) (faLend 0 (faCons (fC (.int 3)) faNil))))) (faCons (fC (.int 3)) faNil))))) (fBor 4)) fSkip
theorem widths {k : Nat} {p : D} (hP : Pl k p) (hk : k < 2 ^ 800) (rest : VSt) : ∃ (w : Int) (p' : D), fOp2 gIxA (fOpd (fLst (fCons (fC (.int 1)) (fCons (fC (.int 2)) (fCons (fC (.int 3)) fNil))))) (fOpd (fCall f__law_draw (some (0, 0)) (faLend 0 (faCons (fC (.int 3)) faNil)))) (some (true, p) :: rest) = some ((false, .int w), some (true, p') :: rest) ∧ 0 ≤ w ∧ w < 4 ∧ Pl (k + 1) p' := by
  obtain ⟨i, p', e, h0, h1, hp⟩ := draw hP (n := 3) hk (by decide) (by decide)
  have hi : i = 0 ∨ i = 1 ∨ i = 2 := by omega
  rcases hi with rfl | rfl | rfl
  · exact ⟨1, p', fOp2_of (o := .inl (true, .lst [.int 1, .int 2, .int 3])) rfl (fOpd_of (drawC e)) rfl rfl rfl, by decide, by decide, hp⟩
  · exact ⟨2, p', fOp2_of (o := .inl (true, .lst [.int 1, .int 2, .int 3])) rfl (fOpd_of (drawC e)) rfl rfl rfl, by decide, by decide, hp⟩
  · exact ⟨3, p', fOp2_of (o := .inl (true, .lst [.int 1, .int 2, .int 3])) rfl (fOpd_of (drawC e)) rfl rfl rfl, by decide, by decide, hp⟩
theorem nmB : Nm A5 nsB := nm_of (by decide) (by decide)
theorem nmA : Nm A4 nsA := nm_of (by decide) (by decide)
theorem k_turn {n k : Nat} {p t : D} {x : Option T} {l : List (Str × D)} (hn : n < 5) {s : Str} (hs : LK[n]? = some s) (hP : Pl k p) (hk : k + 2000 < 2 ^ 800) (hl : Kn l) (hln : l.length ≤ n) (hx : ∀ q ∈ l, q.1 ∈ LK.take n) :
    ∃ p' l', kLoop (R p t (some (true, .dct (kvD l))) (some (false, .str s)) none none none none none) = some (.nx (R p' t (some (true, .dct (kvD l'))) (some (false, .str s)) none none none none none)) ∧ Pl (k + 2000) p' ∧ Kn l' ∧ l'.length ≤ n + 1 ∧ ∀ q ∈ l', q.1 ∈ LK.take (n + 1) := by
  have up : ∀ q : Str, q ∈ LK.take n → q ∈ LK.take (n + 1) := fun q h => (List.take_subset_take_left LK (by omega)) h
  obtain ⟨i, p1, e1, _, _, hp1⟩ := draw hP (n := 2) (by omega) (by decide) (by decide)
  by_cases c : i = 0
  · obtain ⟨w, p2, e2, w0, w1, hp2⟩ := widths hp1 (by omega) (R p1 t (some (true, .dct (kvD l))) (some (false, .str s)) none none none none none).tail
    obtain ⟨d, p3, e3, hd, hp3⟩ := term_ok nmB 11 3 (by decide) (k + 1 + 1) w p2 hp2 (by
      have : (4 : Nat) ^ (3 + 2) = 1024 := by decide
      omega) w0 (by omega)
    have fresh : ∀ q ∈ l, q.1 ≠ s := fun q hq z => by
      have h1 := hx q hq
      rw [z] at h1
      have key : ∀ n < 5, ∀ s, LK[n]? = some s → ¬ s ∈ LK.take n := by
        intro n hn s hs
        have : n = 0 ∨ n = 1 ∨ n = 2 ∨ n = 3 ∨ n = 4 := by omega
        rcases this with rfl | rfl | rfl | rfl | rfl <;> (cases hs; decide +kernel)
      exact key n hn s hs h1
    have hm : s ∈ LK.take (n + 1) := by
      rw [List.take_add_one, hs]
      simp
    have hsz : (kvD l).length < SL := by unfold kvD; rw [List.length_map]; exact SL100 (by omega)
    have z : p3 = p3 := rfl
    refine ⟨p3, l ++ [(s, d)], ?_, hp3.up (by have : (4 : Nat) ^ (3 + 2) = 1024 := by decide
                                              omega), ⟨?_, by rw [List.length_append]; simp; omega, ?_, ?_⟩, by rw [List.length_append]; simp; omega, ?_⟩
    · refine fIf_t (S1 := R p1 t (some (true, .dct (kvD l))) (some (false, .str s)) none none none none none) (by rw [drawT e1, decide_eq_true c]) ?_
      have fa : faLend 0 (faCons (fOp2 gAdd (fBor 1) (fOpd (fLst (fCons (fC (.str "f")) fNil)))) (faCons (fOp2 gIxA (fOpd (fLst (fCons (fC (.int 1)) (fCons (fC (.int 2)) (fCons (fC (.int 3)) fNil))))) (fOpd (fCall f__law_draw (some (0, 0)) (faLend 0 (faCons (fC (.int 3)) faNil))))) (faCons (fC (.int 3)) faNil))) (R p1 t (some (true, .dct (kvD l))) (some (false, .str s)) none none none none none) =
          some ([(true, p2), (false, .lst nsB), (false, .int w), (false, .int ((3 : Nat) : Int))], none :: (R p1 t (some (true, .dct (kvD l))) (some (false, .str s)) none none none none none).tail) :=
        faLend_of rfl (faCons_of (t := (true, .lst nsB)) (S1 := R p1 t (some (true, .dct (kvD l))) (some (false, .str s)) none none none none none) rfl (faCons_of e2 rfl)) rfl
      have hc : fCall (f__law_term 12) (some (0, 0)) (faLend 0 (faCons (fOp2 gAdd (fBor 1) (fOpd (fLst (fCons (fC (.str "f")) fNil)))) (faCons (fOp2 gIxA (fOpd (fLst (fCons (fC (.int 1)) (fCons (fC (.int 2)) (fCons (fC (.int 3)) fNil))))) (fOpd (fCall f__law_draw (some (0, 0)) (faLend 0 (faCons (fC (.int 3)) faNil))))) (faCons (fC (.int 3)) faNil)))) (R p1 t (some (true, .dct (kvD l))) (some (false, .str s)) none none none none none) = some ((false, d), R p3 t (some (true, .dct (kvD l))) (some (false, .str s)) none none none none none) := fCallL_of (i := 0) (k := 0) (u := (true, p3)) fa e3 rfl
      have st := fSetIxA_dct (i := 3) (g := fBor 4) (S2 := R p3 t (some (true, .dct (kvD l))) (some (false, .str s)) none none none none none) hc (x := .dct (kvD l)) rfl (o := .inr 4) rfl (ds := kvD l) rfl (y := .str s) rfl (k := .inr s) rfl hsz
      rw [dput_new fresh] at st
      exact st
    · rw [List.map_append, List.nodup_append]
      refine ⟨hl.nd, by simp, fun a ha b hb => ?_⟩
      obtain ⟨q, hq, rfl⟩ := List.mem_map.mp ha
      simp at hb
      subst hb
      exact fresh q hq
    · intro q hq
      rcases List.mem_append.mp hq with h | h
      · exact hl.key q h
      · simp at h
        subst h
        exact List.mem_of_mem_take hm
    · intro q hq
      rcases List.mem_append.mp hq with h | h
      · exact hl.tm q h
      · simp at h
        subst h
        exact hd
    · intro q hq
      rcases List.mem_append.mp hq with h | h
      · exact up _ (hx q h)
      · simp at h
        subst h
        exact hm
  · exact ⟨p1, l, fIf_f (by rw [drawT e1, decide_eq_false c]) rfl, hp1.up (by omega), hl, by omega, fun q hq => up _ (hx q hq)⟩
end LW

set_option Elab.async false
set_option linter.all false
set_option maxRecDepth 100000
set_option maxHeartbeats 8000000
set_option exponentiation.threshold 100
namespace LW
open VL PySem
open L2 (atI ixN)
theorem gMul2 (u : D) : gMul (.lst [u]) (.int 2) = some (true, .lst [u, u]) := by simp [gMul, SL, List.replicate]
theorem repr2 {d : D} {n m : Nat} (h : Ok n d) (hn : n ≤ 59) (s : Sh m d) (hm : (m + 2) * 2 + 2 ≤ SL) : gRepr [.lst [d, d]] = VL.tS (.str (D.lst [d, d]).py.shown) :=
  gRepr_of (Ok.lst (.cons h (.cons h .nil))) (by omega) (Sh.lst (m := m) fun x hx => by simp at hx; subst hx; exact s) hm
theorem items_kv {l : List (Str × D)} (h : l.length ≤ SL) : gItems (.dct (kvD l)) = some (true, .lst (prD l)) := by
  unfold gItems
  simp only []
  rw [if_pos (by unfold kvD; rw [List.length_map]; exact h)]
  simp [kvD, prD]
theorem fDisp_of {f : FPs} {S S1 : VSt} {ps : List (D × D)} {ks : List (L2.Key × D)} (h : f S = some (ps, S1)) (h2 : keysOf ps = some ks) (hz : ks.length ≤ 15) : fDisp f S = some ((true, .dct (dmerge [] ks)), S1) := by
  unfold fDisp; rw [h]; simp only []; rw [h2]; exact if_pos hz
theorem fRev_of {f : FO} {S S1 : VSt} {o : Opd} {ds : List D} (h : f S = some (o, S1)) (h2 : res S1 o = some (.lst ds)) : fRev f S = some ((true, .lst ds.reverse), S1) := by
  unfold fRev; rw [h]; simp only []; rw [h2]
theorem kn2 : Kn [("a", .str "b"), ("b", .str "a")] := ⟨by decide +kernel, by decide, by
  intro p hp
  simp at hp
  rcases hp with rfl | rfl <;> decide +kernel, by
  intro p hp
  simp at hp
  rcases hp with rfl | rfl
  · exact .leaf (show ("b" : Str) ∈ L5 by decide +kernel)
  · exact .leaf (show ("a" : Str) ∈ L5 by decide +kernel)⟩
theorem disp2 : dmerge [] [(.inr "a", .str "b"), (.inr "b", .str "a")] = kvD [("a", .str "b"), ("b", .str "a")] := by
  show dput (dput (kvD []) (.inr "a") (.str "b")) (.inr "b") (.str "a") = _
  rw [dput_new (l := []) (fun p hp => by cases hp), dput_new (fun p hp => by
    simp at hp
    subst hp
    decide +kernel)]
  rfl
theorem prs_ok {l : List (Str × D)} (h : Kn l) : Ok 8 (.lst (prD l)) := by
  refine Ok.lst fun d hd => ?_
  unfold prD at hd
  obtain ⟨p, hp, rfl⟩ := List.mem_map.mp hd
  exact Ok.tup (.cons (.str (lk_ok _ (h.key p hp))) (.cons (tm_ok a5_ok (h.tm p hp)).1 .nil))
theorem right_ok : RightSpec (2 ^ 15) f__law_right := by
  intro k p hP hk
  have c46 : (4 : Nat) ^ (4 + 2) = 4096 := by decide
  obtain ⟨t, p1, e1, ht, hp1⟩ := term_ok nmA 11 4 (by decide) k 6 p hP (by omega) (by decide) (by decide)
  obtain ⟨u, hu, x1, x2, x3⟩ := ex_tm ht
  obtain ⟨S', e2, p2, l, x, rfl, hp2, hl, hln, hlk⟩ := fLoop_inv (gf := gfName 4) (b := kLoop) (fun n S => ∃ p' l x, S = R p' t (some (true, .dct (kvD l))) x none none none none none ∧ Pl (k + 4096 + n * 2000) p' ∧ Kn l ∧ l.length ≤ n ∧ ∀ q ∈ l, q.1 ∈ LK.take n)
    (LK.map .str) 0 (R p1 t (some (true, .dct (kvD []))) none none none none none none) ⟨p1, [], none, rfl, by rw [c46] at hp1; simpa using hp1, ⟨by simp, by simp, by simp, by simp⟩, by simp, by simp⟩ (fun n d S1 h1 hJ => by
      obtain ⟨p', l, x, rfl, h2, h3, h4, h5⟩ := hJ
      rw [Nat.zero_add] at h2 h4 h5
      rw [List.getElem?_map] at h1
      cases hs : LK[n]? with
      | none => rw [hs] at h1; cases h1
      | some s =>
        rw [hs] at h1
        cases h1
        have hn : n < 5 := (List.getElem?_eq_some_iff.mp hs).1
        obtain ⟨p3, l3, e, g1, g2, g3, g4⟩ := k_turn (t := t) (x := x) hn hs h2 (by omega) h3 h4 h5
        exact ⟨R p' t (some (true, .dct (kvD l))) (some (false, .str s)) none none none none none, _, rfl, e, p3, l3, _, rfl, by rw [Nat.zero_add, Nat.succ_mul]; exact g1.up (by omega), g2, by omega, by rw [Nat.zero_add]; exact g4⟩)
  have hlen : l.length < SL := SL100 (by have := hl.len; omega)
  obtain ⟨v, hv, w1, w2⟩ := put_ok (kv2 := kvD l) hl.nd hlen hl.say ht (by decide)
  obtain ⟨v2, hv2, y1, y2⟩ := put_ok (kv2 := kvD [("a", .str "b"), ("b", .str "a")]) kn2.nd (SL100 (by decide)) kn2.say ht (by decide)
  obtain ⟨v3, hv3, z1, z2⟩ := put_ok (l := l.reverse) (kv2 := kvD l) (by rw [List.map_reverse]; exact List.pairwise_reverse.mpr (hl.nd.imp fun h => Ne.symm h)) (by rw [List.length_reverse]; exact hlen) hl.sayR hu (by decide)
  have ok_t := (tm_ok a4_ok ht).1
  have ok_u := tm_ok a4_ok hu
  have ok_v := tm_ok a5_ok hv
  have ok_v2 := tm_ok a5_ok hv2
  have ok_v3 := tm_ok a5_ok hv3
  have re_u := repr2 ok_u.1 (by decide) ok_u.2 (by decide)
  have re_v := repr2 ok_v.1 (by decide) ok_v.2 (by decide)
  have sz2 : (2 : Nat) ≤ SL := by decide
  have sz1 : (1 : Nat) ≤ SL := by decide
  have t0 := put_of (l := []) (t := t) (u := t) (by simp) (SL100 (by decide)) (wt_id ht 12 (by decide))
  have nd3 : (([("a", t), ("b", D.str "a")] : List (Str × D)).map (·.1)).Nodup := by
    show (["a", "b"] : List Str).Nodup
    decide +kernel
  have t3 : f_put_in [(false, .tup [.str "low", .tup [.str "a", .str "b"]]), (false, .lst (prD [("a", t), ("b", .str "a")]))] = some ((false, .tup [.str "low", .tup [t, .str "a"]]), [some (false, .tup [.str "low", .tup [.str "a", .str "b"]]), some (false, .lst (prD [("a", t), ("b", .str "a")]))]) := by
    refine put_of nd3 (SL100 (by show 2 ≤ 100; decide)) (wt_step (m := 11) sz2 (.cons ?_ (.cons ?_ .nil)))
    · have := wt_leaf "a" (kvD [("a", t), ("b", .str "a")]) 10
      rwa [val_hd] at this
    · have := wt_leaf "b" (kvD [("a", t), ("b", .str "a")]) 10
      rwa [val_tl _ _ (by decide +kernel), val_hd] at this
  -- the statements, one behind the other
  have st2 : fSet 2 (fCall (f__law_term 12) (some (0, 0)) (faLend 0 (faCons (fVar 1) (faCons (fC (.int 6)) (faCons (fC (.int 4)) faNil))))) [some (true, p), some (true, .lst nsA), none, none, none, none, none, none, none, none] = some (.nx (R p1 t none none none none none none none)) :=
    fSet_of (S1 := [some (true, p1), some (false, .lst nsA), none, none, none, none, none, none, none, none]) (t := (false, t)) (fCallL_of (i := 0) (k := 0) (u := (true, p1)) (S1 := [none, some (false, .lst nsA), none, none, none, none, none, none, none, none]) (ts := [(true, p), (false, .lst nsA), (false, .int 6), (false, .int ((4 : Nat) : Int))]) rfl e1 rfl) (by show 2 < 10; decide)
  have c3 : fTest (fOp2 gNeA (fOpd (fBC gRepr (foCons (fOpd (fLst (fCons (fCall (f_exchanged 12) none (faCons (fVar 2) faNil)) (fCons (fCallK (f_exchanged 12) 0 1 [0] faNil (faCons (fVar 2) faNil)) fNil)))) foNil))) (fOpd (fBC gRepr (foCons (fOpd (fOp2 gMul (fOpd (fLst (fCons (fCall (f__law_other 12) none (faCons (fVar 2) faNil)) fNil))) (fOpd (fC (.int 2))))) foNil)))) (R p1 t none none none none none none none) = some (false, R p1 t none none none none none none none) :=
    fTest_of (fOp2_of (fOpd_of (fBC1_of (fOpd_of (fLst_of (fCons_of (t := (false, u)) (fCall_of rfl (x1 12 (by decide))) (fCons_of (t := (false, u)) (fCallK_of (ts := []) (us := [(false, t)]) rfl rfl ⟨rfl, rfl⟩ (x1 12 (by decide))) rfl)) sz2)) rfl re_u))
      (fOpd_of (fBC1_of (fOpd_of (fOp2_of (o := .inl (true, .lst [u])) (fOpd_of (fLst_of (fCons_of (t := (false, u)) (fCall_of rfl (x2 12 (by decide))) rfl) sz1)) rfl rfl rfl (gMul2 u))) rfl re_u)) rfl rfl (gNeA_str rfl))
  have c4 : fTest (fOp2 gNeA (fOpd (fCall (f_exchanged 12) none (faCons (fCall (f_exchanged 12) none (faCons (fVar 2) faNil)) faNil))) (fBor 2)) (R p1 t none none none none none none none) = some (false, R p1 t none none none none none none none) :=
    fTest_of (fOp2_of (o' := .inr 2) (fOpd_of (fCall_of (faCons_of (t := (false, u)) (fCall_of rfl (x1 12 (by decide))) rfl) (x3 12 (by decide)))) rfl rfl rfl (gNeA_same ok_t (by decide) rfl))
  have st7 : fSet 5 (fOp1 gItems (fBor 3)) (R p2 t (some (true, .dct (kvD l))) x none none none none none) = some (.nx (R p2 t (some (true, .dct (kvD l))) x (some (true, .lst (prD l))) none none none none)) :=
    fSet_of (S1 := R p2 t (some (true, .dct (kvD l))) x none none none none none) (fOp1_of (o := .inr 3) rfl rfl (items_kv (Nat.le_of_lt hlen))) (by show 5 < 10; decide)
  have st9 : fSet 7 (fCall (f__law_put 12) none (faCons (fVar 2) (faCons (fVar 3) faNil))) (R p2 t (some (true, .dct (kvD l))) x (some (true, .lst (prD l))) (some (true, .lst (prD l))) none none none) = some (.nx (R p2 t (some (false, .dct (kvD l))) x (some (true, .lst (prD l))) (some (true, .lst (prD l))) (some (false, v)) none none)) :=
    fSet_of (S1 := R p2 t (some (false, .dct (kvD l))) x (some (true, .lst (prD l))) (some (true, .lst (prD l))) none none none) (fCall_of rfl w2) (by show 7 < 10; decide)
  have st10 : fSet 8 (fLst (fCons (fCall f_put_in none (faCons (fVar 2) (faCons (fVar 6) faNil))) (fCons (fCallK f_put_in 0 2 [1, 0] faNil (faCons (fVar 6) (faCons (fVar 2) faNil))) fNil))) (R p2 t (some (false, .dct (kvD l))) x (some (true, .lst (prD l))) (some (true, .lst (prD l))) (some (false, v)) none none) = some (.nx (R p2 t (some (false, .dct (kvD l))) x (some (true, .lst (prD l))) (some (false, .lst (prD l))) (some (false, v)) (some (true, .lst [v, v])) none)) :=
    fSet_of (S1 := R p2 t (some (false, .dct (kvD l))) x (some (true, .lst (prD l))) (some (false, .lst (prD l))) (some (false, v)) none none) (fLst_of (fCons_of (t := (false, v)) (fCall_of rfl w1) (fCons_of (t := (false, v)) (fCallK_of (ts := []) (us := [(false, .lst (prD l)), (false, t)]) rfl rfl ⟨rfl, rfl⟩ w1) rfl)) sz2) (by show 8 < 10; decide)
  have c11 : fOr (fTest (fOp2 gNeA (fOpd (fBC gRepr (foCons (fBor 8) foNil))) (fOpd (fBC gRepr (foCons (fOpd (fLst (fCons (fVar 7) (fCons (fVar 7) fNil)))) foNil))))) (fTest (fOp2 gNeA (fBor 6) (fBor 5))) (R p2 t (some (false, .dct (kvD l))) x (some (true, .lst (prD l))) (some (false, .lst (prD l))) (some (false, v)) (some (true, .lst [v, v])) none) = some (false, R p2 t (some (false, .dct (kvD l))) x (some (true, .lst (prD l))) (some (false, .lst (prD l))) (some (false, v)) (some (true, .lst [v, v])) none) :=
    fOr_f (fTest_of (fOp2_of (fOpd_of (fBC1_of (o := .inr 8) rfl rfl re_v)) (fOpd_of (fBC1_of (fOpd_of (fLst_of (fCons_of (t := (false, v)) rfl (fCons_of (t := (false, v)) rfl rfl)) sz2)) rfl re_v)) rfl rfl (gNeA_str rfl))) (fTest_of (fOp2_of (o := .inr 6) (o' := .inr 5) rfl rfl rfl rfl (gNeA_same (prs_ok hl) (by decide) rfl)))
  have c12 : ∀ S : VSt, S = R p2 t (some (false, .dct (kvD l))) x (some (true, .lst (prD l))) (some (false, .lst (prD l))) (some (false, v)) (some (true, .lst [v, v])) none → fOr (fTest (fOp2 gNeA (fOpd (fCall f_put_in none (faCons (fVar 2) (faCons (fLst fNil) faNil)))) (fBor 2))) (fTest (fOp2 gNeA (fOpd (fCall f_put_in none (faCons (fVar 2) (faCons (fLst (fCons (fTup (fCons (fC (.str "a")) (fCons (fC (.str "b")) fNil))) (fCons (fTup (fCons (fC (.str "b")) (fCons (fC (.str "a")) fNil))) fNil))) faNil)))) (fOpd (fCall (f__law_put 12) none (faCons (fVar 2) (faCons (fDisp (fpCons (fC (.str "a")) (fC (.str "b")) (fpCons (fC (.str "b")) (fC (.str "a")) fpNil))) faNil)))))) S = some (false, S) := by
    rintro S rfl
    refine fOr_f (fTest_of (fOp2_of (o' := .inr 2) (fOpd_of (fCall_of rfl t0)) rfl rfl rfl (gNeA_same ok_t (by decide) rfl))) (fTest_of (fOp2_of (fOpd_of (fCall_of (ts := [(false, t), (false, .lst (prD [("a", .str "b"), ("b", .str "a")]))]) rfl y1)) (fOpd_of (fCall_of (ts := [(false, t), (false, .dct (kvD [("a", .str "b"), ("b", .str "a")]))]) (faCons_of (t := (false, t)) rfl (faCons_of (t := (true, .dct (kvD [("a", .str "b"), ("b", .str "a")]))) ?_ rfl)) y2)) rfl rfl (gNeA_same ok_v2.1 (by decide) rfl)))
    rw [← disp2]
    exact fDisp_of rfl rfl (by decide)
  have st13 : ∀ S : VSt, S = R p2 t (some (false, .dct (kvD l))) x (some (true, .lst (prD l))) (some (false, .lst (prD l))) (some (false, v)) (some (true, .lst [v, v])) none → fSet 9 (fCall f_put_in none (faCons (fTup (fCons (fC (.str "low")) (fCons (fTup (fCons (fC (.str "a")) (fCons (fC (.str "b")) fNil))) fNil))) (faCons (fLst (fCons (fTup (fCons (fC (.str "a")) (fCons (fVar 2) fNil))) (fCons (fTup (fCons (fC (.str "b")) (fCons (fC (.str "a")) fNil))) fNil))) faNil))) S = some (.nx (R p2 t (some (false, .dct (kvD l))) x (some (true, .lst (prD l))) (some (false, .lst (prD l))) (some (false, v)) (some (true, .lst [v, v])) (some (false, .tup [.str "low", .tup [t, .str "a"]])))) := by
    rintro S rfl
    exact fSet_of (S1 := R p2 t (some (false, .dct (kvD l))) x (some (true, .lst (prD l))) (some (false, .lst (prD l))) (some (false, v)) (some (true, .lst [v, v])) none) (fCall_of (ts := [(false, .tup [.str "low", .tup [.str "a", .str "b"]]), (false, .lst (prD [("a", t), ("b", .str "a")]))]) rfl t3) (by show 9 < 10; decide)
  have okq : Ok 12 (.tup [.str "low", .tup [t, .str "a"]]) := (Ok.tup (n := 10) (.cons (.str (by decide +kernel)) (.cons (Ok.tup (n := 9) (.cons (ok_t.up (by decide)) (.cons (.str (by decide +kernel)) .nil))) .nil))).up (by decide)
  have c14 : ∀ S : VSt, S = R p2 t (some (false, .dct (kvD l))) x (some (true, .lst (prD l))) (some (false, .lst (prD l))) (some (false, v)) (some (true, .lst [v, v])) (some (false, .tup [.str "low", .tup [t, .str "a"]])) → fTest (fOp2 gNeA (fBor 9) (fOpd (fTup (fCons (fC (.str "low")) (fCons (fTup (fCons (fVar 2) (fCons (fC (.str "a")) fNil))) fNil))))) S = some (false, S) := by
    rintro S rfl
    exact fTest_of (fOp2_of (o := .inr 9) rfl (fOpd_of (t := (false, .tup [.str "low", .tup [t, .str "a"]])) rfl) rfl rfl (gNeA_same okq (by decide) rfl))
  have r15 : ∀ S : VSt, S = R p2 t (some (false, .dct (kvD l))) x (some (true, .lst (prD l))) (some (false, .lst (prD l))) (some (false, v)) (some (true, .lst [v, v])) (some (false, .tup [.str "low", .tup [t, .str "a"]])) → fRet (fOp2 gEqA (fOpd (fCall f_put_in none (faCons (fCall (f_exchanged 12) none (faCons (fVar 2) faNil)) (faCons (fRev (fBor 6)) faNil)))) (fOpd (fCall (f__law_put 12) none (faCons (fCall (f__law_other 12) none (faCons (fVar 2) faNil)) (faCons (fVar 3) faNil))))) S = some (.ret (false, .bl true) S) := by
    rintro S rfl
    have er : prD l.reverse = (prD l).reverse := by unfold prD; rw [List.map_reverse]
    rw [er] at z1
    exact fRet_of (fOp2_of (fOpd_of (fCall_of (ts := [(false, u), (false, .lst (prD l).reverse)]) (faCons_of (t := (false, u)) (fCall_of rfl (x1 12 (by decide))) (faCons_of (t := (true, .lst (prD l).reverse)) (fRev_of (o := .inr 6) rfl rfl) rfl)) z1)) (fOpd_of (fCall_of (ts := [(false, u), (false, .dct (kvD l))]) (faCons_of (t := (false, u)) (fCall_of rfl (x2 12 (by decide))) rfl) z2)) rfl rfl (gEqA_same ok_v3.1 (by decide) rfl))
  refine ⟨p2, body_ret (N := 10) (S := R p2 t (some (false, .dct (kvD l))) x (some (true, .lst (prD l))) (some (false, .lst (prD l))) (some (false, v)) (some (true, .lst [v, v])) (some (false, .tup [.str "low", .tup [t, .str "a"]]))) rfl ?_, hp2.up (by simp)⟩
  refine fSeq_nx rfl (fSeq_nx st2 (fSeq_nx (fIf_f c3 rfl) (fSeq_nx (fIf_f c4 rfl) (fSeq_nx rfl (fSeq_nx (fFor_of rfl e2) (fSeq_nx st7 (fSeq_nx rfl (fSeq_nx st9 (fSeq_nx st10 (fSeq_nx (fIf_f c11 rfl) (fSeq_nx (fIf_f (c12 _ rfl) rfl) (fSeq_nx (st13 _ rfl) (fSeq_nx (fIf_f (c14 _ rfl) rfl) (r15 _ rfl))))))))))))))
theorem law_holds : ∀ ns : List Int, ns.length ≤ 63 → ∃ bs, f_law [(false, .scr ns)] = some ((false, .bl true), bs) := law_of (by decide) right_ok
end LW

namespace LW
open PySem PySem.Spec PyProof.Rows L2 VL
theorem all_mk {l : PySem.W.OpenLaw} {w : World} {K : PySem.W.Frag} {h : Heap} {mg : Str → Option Value} {fa : Addr} (X : K.In h) (G : h.Ns mainGlobals mg) (hfa : mg "law" = some (.ref fa))
    {e0 e1 e2 e3 e4 e5 e6 e7 e8 e9 e10 : Addr} {od0 an0 od1 an1 od2 an2 od3 an3 od4 an4 od5 an5 od6 an6 od7 an7 od8 an8 od9 an9 od10 an10 : Option Addr} {sl0 sl1 sl2 sl3 sl4 sl5 sl6 sl7 sl8 sl9 sl10 : Array (Option Value)} {oc0 kV0 dc0 pm0 cd0 ct0 oc1 kV1 dc1 pm1 cd1 ct1 oc2 kV2 dc2 pm2 cd2 ct2 oc3 kV3 dc3 pm3 cd3 ct3 oc4 kV4 dc4 pm4 cd4 ct4 oc5 kV5 dc5 pm5 cd5 ct5 oc6 kV6 dc6 pm6 cd6 ct6 oc7 kV7 dc7 pm7 cd7 ct7 oc8 kV8 dc8 pm8 cd8 ct8 oc9 kV9 dc9 pm9 cd9 ct9 oc10 kV10 dc10 pm10 cd10 ct10 : Value} {t_HIGH t_LOW : Tok}
    (a0 : PySem.W.nsIn K mainGlobals "_law_pool" = some (some (.ref e0))) (l0 : K.lookup e0 = some ⟨oc0, od0, .func (PySem.W.fnOf "_law_pool" "_law_pool" (defArgs s__law_pool) (defBody s__law_pool) (defScope s__law_pool) .none kV0 dc0 pm0 an0 cd0 ct0), sl0⟩) (c0 : PySem.W.codeIn K cd0 "_law_pool" = true) (k0 : PySem.W.keepIn K (.ref e0) = true)
    (a1 : PySem.W.nsIn K mainGlobals "_law_draw" = some (some (.ref e1))) (l1 : K.lookup e1 = some ⟨oc1, od1, .func (PySem.W.fnOf "_law_draw" "_law_draw" (defArgs s__law_draw) (defBody s__law_draw) (defScope s__law_draw) .none kV1 dc1 pm1 an1 cd1 ct1), sl1⟩) (c1 : PySem.W.codeIn K cd1 "_law_draw" = true) (k1 : PySem.W.keepIn K (.ref e1) = true)
    (a2 : PySem.W.nsIn K mainGlobals "_law_term" = some (some (.ref e2))) (l2 : K.lookup e2 = some ⟨oc2, od2, .func (PySem.W.fnOf "_law_term" "_law_term" (defArgs s__law_term) (defBody s__law_term) (defScope s__law_term) .none kV2 dc2 pm2 an2 cd2 ct2), sl2⟩) (c2 : PySem.W.codeIn K cd2 "_law_term" = true) (k2 : PySem.W.keepIn K (.ref e2) = true)
    (a3 : PySem.W.nsIn K mainGlobals "_law_put" = some (some (.ref e3))) (l3 : K.lookup e3 = some ⟨oc3, od3, .func (PySem.W.fnOf "_law_put" "_law_put" (defArgs s__law_put) (defBody s__law_put) (defScope s__law_put) .none kV3 dc3 pm3 an3 cd3 ct3), sl3⟩) (c3 : PySem.W.codeIn K cd3 "_law_put" = true) (k3 : PySem.W.keepIn K (.ref e3) = true)
    (a4 : PySem.W.nsIn K mainGlobals "is_letter" = some (some (.ref e4))) (l4 : K.lookup e4 = some ⟨oc4, od4, .func (PySem.W.fnOf "is_letter" "is_letter" (defArgs s_is_letter) (defBody s_is_letter) (defScope s_is_letter) .none kV4 dc4 pm4 an4 cd4 ct4), sl4⟩) (c4 : PySem.W.codeIn K cd4 "is_letter" = true) (k4 : PySem.W.keepIn K (.ref e4) = true)
    (a5 : PySem.W.nsIn K mainGlobals "with_terms" = some (some (.ref e5))) (l5 : K.lookup e5 = some ⟨oc5, od5, .func (PySem.W.fnOf "with_terms" "with_terms" (defArgs s_with_terms) (defBody s_with_terms) (defScope s_with_terms) .none kV5 dc5 pm5 an5 cd5 ct5), sl5⟩) (c5 : PySem.W.codeIn K cd5 "with_terms" = true) (k5 : PySem.W.keepIn K (.ref e5) = true)
    (a6 : PySem.W.nsIn K mainGlobals "put_in" = some (some (.ref e6))) (l6 : K.lookup e6 = some ⟨oc6, od6, .func (PySem.W.fnOf "put_in" "put_in" (defArgs s_put_in) (defBody s_put_in) (defScope s_put_in) .none kV6 dc6 pm6 an6 cd6 ct6), sl6⟩) (c6 : PySem.W.codeIn K cd6 "put_in" = true) (k6 : PySem.W.keepIn K (.ref e6) = true)
    (a7 : PySem.W.nsIn K mainGlobals "exchanged" = some (some (.ref e7))) (l7 : K.lookup e7 = some ⟨oc7, od7, .func (PySem.W.fnOf "exchanged" "exchanged" (defArgs s_exchanged) (defBody s_exchanged) (defScope s_exchanged) .none kV7 dc7 pm7 an7 cd7 ct7), sl7⟩) (c7 : PySem.W.codeIn K cd7 "exchanged" = true) (k7 : PySem.W.keepIn K (.ref e7) = true)
    (a8 : PySem.W.nsIn K mainGlobals "_law_other" = some (some (.ref e8))) (l8 : K.lookup e8 = some ⟨oc8, od8, .func (PySem.W.fnOf "_law_other" "_law_other" (defArgs s__law_other) (defBody s__law_other) (defScope s__law_other) .none kV8 dc8 pm8 an8 cd8 ct8), sl8⟩) (c8 : PySem.W.codeIn K cd8 "_law_other" = true) (k8 : PySem.W.keepIn K (.ref e8) = true)
    (a9 : PySem.W.nsIn K mainGlobals "_law_right" = some (some (.ref e9))) (l9 : K.lookup e9 = some ⟨oc9, od9, .func (PySem.W.fnOf "_law_right" "_law_right" (defArgs s__law_right) (defBody s__law_right) (defScope s__law_right) .none kV9 dc9 pm9 an9 cd9 ct9), sl9⟩) (c9 : PySem.W.codeIn K cd9 "_law_right" = true) (k9 : PySem.W.keepIn K (.ref e9) = true)
    (a10 : PySem.W.nsIn K mainGlobals "law" = some (some (.ref e10))) (l10 : K.lookup e10 = some ⟨oc10, od10, .func (PySem.W.fnOf "law" "law" (defArgs s_law) (defBody s_law) (defScope s_law) .none kV10 dc10 pm10 an10 cd10 ct10), sl10⟩) (c10 : PySem.W.codeIn K cd10 "law" = true) (k10 : PySem.W.keepIn K (.ref e10) = true)
    (z_abs : PySem.W.nsIn K mainGlobals "abs" = some none)
    (z_int : PySem.W.nsIn K mainGlobals "int" = some none)
    (z_isinstance : PySem.W.nsIn K mainGlobals "isinstance" = some none)
    (z_len : PySem.W.nsIn K mainGlobals "len" = some none)
    (z_list : PySem.W.nsIn K mainGlobals "list" = some none)
    (z_max : PySem.W.nsIn K mainGlobals "max" = some none)
    (z_min : PySem.W.nsIn K mainGlobals "min" = some none)
    (z_range : PySem.W.nsIn K mainGlobals "range" = some none)
    (z_repr : PySem.W.nsIn K mainGlobals "repr" = some none)
    (z_str : PySem.W.nsIn K mainGlobals "str" = some none)
    (z_tuple : PySem.W.nsIn K mainGlobals "tuple" = some none)
    (c_HIGH : PySem.W.nsIn K mainGlobals "HIGH" = some (some (.str "high" t_HIGH)))
    (c_LOW : PySem.W.nsIn K mainGlobals "LOW" = some (some (.str "low" t_LOW))) :
    ∃ fd : FuncData, (∀ (s : Shared) (v : Value), BindsTo s fd ⟨[v], []⟩ [("_law_script", v)]) ∧ ∀ base : Heap, K.In base → base.Ns mainGlobals mg → FnG l.prog w K mg base 16 fa fd ["_law_script"] (spF K 1 f_law) := by
  have e := hfa.symm.trans (PySem.W.mg_of X G a10)
  cases e
  have F0 := fun_mk (st := s__law_pool) l0 c0 k0
  have b0 := F0.binds (ps := ["_law_script", "_law_spot"]) fun _ _ _ _ _ _ us hl => match us, hl with | [_, _], _ => rfl
  have m0 := PySem.W.mg_of X G a0
  have F1 := fun_mk (st := s__law_draw) l1 c1 k1
  have b1 := F1.binds (ps := ["_law_pool_here", "_law_span"]) fun _ _ _ _ _ _ us hl => match us, hl with | [_, _], _ => rfl
  have m1 := PySem.W.mg_of X G a1
  have F2 := fun_mk (st := s__law_term) l2 c2 k2
  have b2 := F2.binds (ps := ["_law_pool_here", "_law_names", "_law_wide", "_law_deep"]) fun _ _ _ _ _ _ us hl => match us, hl with | [_, _, _, _], _ => rfl
  have m2 := PySem.W.mg_of X G a2
  have F3 := fun_mk (st := s__law_put) l3 c3 k3
  have b3 := F3.binds (ps := ["_law_whole", "_law_known"]) fun _ _ _ _ _ _ us hl => match us, hl with | [_, _], _ => rfl
  have m3 := PySem.W.mg_of X G a3
  have F4 := fun_mk (st := s_is_letter) l4 c4 k4
  have b4 := F4.binds (ps := ["term"]) fun _ _ _ _ _ _ us hl => match us, hl with | [_], _ => rfl
  have m4 := PySem.W.mg_of X G a4
  have F5 := fun_mk (st := s_with_terms) l5 c5 k5
  have b5 := F5.binds (ps := ["term", "known"]) fun _ _ _ _ _ _ us hl => match us, hl with | [_, _], _ => rfl
  have m5 := PySem.W.mg_of X G a5
  have F6 := fun_mk (st := s_put_in) l6 c6 k6
  have b6 := F6.binds (ps := ["term", "pairs"]) fun _ _ _ _ _ _ us hl => match us, hl with | [_, _], _ => rfl
  have m6 := PySem.W.mg_of X G a6
  have F7 := fun_mk (st := s_exchanged) l7 c7 k7
  have b7 := F7.binds (ps := ["term"]) fun _ _ _ _ _ _ us hl => match us, hl with | [_], _ => rfl
  have m7 := PySem.W.mg_of X G a7
  have F8 := fun_mk (st := s__law_other) l8 c8 k8
  have b8 := F8.binds (ps := ["_law_whole"]) fun _ _ _ _ _ _ us hl => match us, hl with | [_], _ => rfl
  have m8 := PySem.W.mg_of X G a8
  have F9 := fun_mk (st := s__law_right) l9 c9 k9
  have b9 := F9.binds (ps := ["_law_pool_here"]) fun _ _ _ _ _ _ us hl => match us, hl with | [_], _ => rfl
  have m9 := PySem.W.mg_of X G a9
  have F10 := fun_mk (st := s_law) l10 c10 k10
  have b10 := F10.binds (ps := ["_law_script"]) fun _ _ _ _ _ _ us hl => match us, hl with | [_], _ => rfl
  have m10 := PySem.W.mg_of X G a10
  have Z : Bn K mg := ⟨PySem.W.mg_none_of X G z_abs, PySem.W.mg_none_of X G z_int, PySem.W.mg_none_of X G z_isinstance, PySem.W.mg_none_of X G z_len, PySem.W.mg_none_of X G z_list, PySem.W.mg_none_of X G z_max, PySem.W.mg_none_of X G z_min, PySem.W.mg_none_of X G z_range, PySem.W.mg_none_of X G z_repr, PySem.W.mg_none_of X G z_str, PySem.W.mg_none_of X G z_tuple, ⟨_, PySem.W.mg_of X G c_HIGH⟩, ⟨_, PySem.W.mg_of X G c_LOW⟩⟩
  have kw_exchanged_0_term : KwD K mg "exchanged" ["term"] ["term"] 0 [0] := kwd_of F7 m7 (by simp) fun _ _ _ _ _ _ us ws h1 h2 => match us, ws, h1, h2 with | [], [_], _, _ => rfl
  have kw_put_in_0_pairs_term : KwD K mg "put_in" ["term", "pairs"] ["pairs", "term"] 0 [1, 0] := kwd_of F6 m6 (by simp) fun _ _ _ _ _ _ us ws h1 h2 => match us, ws, h1, h2 with | [], [_, _], _, _ => rfl
  refine ⟨(PySem.W.fnOf "law" "law" (defArgs s_law) (defBody s_law) (defScope s_law) .none kV10 dc10 pm10 an10 cd10 ct10), fun s v => .of_eq rfl, fun base _ _ => ?_⟩
  have d__law_pool := ok__law_pool (P := l.prog) (w := w) (base := base) Z F0 m0 b0
  have d__law_draw := ok__law_draw (P := l.prog) (w := w) (base := base) Z F1 m1 b1
  have d__law_term := ok__law_term (P := l.prog) (w := w) (base := base) Z F2 m2 b2 d__law_draw 12
  have d__law_put := ok__law_put (P := l.prog) (w := w) (base := base) Z F3 m3 b3 12
  have d_is_letter := ok_is_letter (P := l.prog) (w := w) (base := base) Z F4 m4 b4
  have d_with_terms := ok_with_terms (P := l.prog) (w := w) (base := base) Z F5 m5 b5 d_is_letter 12
  have d_put_in := ok_put_in (P := l.prog) (w := w) (base := base) Z F6 m6 b6 d_with_terms
  have d_exchanged := ok_exchanged (P := l.prog) (w := w) (base := base) Z F7 m7 b7 d_is_letter 12
  have d__law_other := ok__law_other (P := l.prog) (w := w) (base := base) Z F8 m8 b8 12
  have d__law_right := ok__law_right (P := l.prog) (w := w) (base := base) Z F9 m9 b9 d__law_term d__law_put d_put_in d_exchanged d__law_draw d__law_other kw_exchanged_0_term kw_put_in_0_pairs_term
  have d_law := ok_law (P := l.prog) (w := w) (base := base) Z F10 m10 b10 d__law_pool d__law_right
  obtain ⟨f, fd, ok, hm, _, _, oc, od, osl, lk⟩ := d_law.ex
  rw [m10] at hm
  cases hm
  rw [l10] at lk
  cases lk
  exact ok
end LW
open PySem PySem.W PyProof.Rows
set_option maxRecDepth 100000 in
set_option maxHeartbeats 0 in
theorem PySem.Challenge.cw_boundterms_k05_terms_exchanged_and_put_i_holds : PySem.Challenge.rw_boundterms_k05_terms_exchanged_and_put_i.Holds := by
  w_on; o_law; k_head; (case hw => w_witness2)
  k_fill
  refine VL.walkVL (l := PySem.Challenge.rw_boundterms_k05_terms_exchanged_and_put_i) (x := "_law_script") (Fl := LW.f_law) (k := 16) rfl rfl ⟨⟨rfl, by decide, by decide⟩, rfl⟩ (fun w h Y => PySem.W.kIn_of Y) ?F LW.law_holds
  case F =>
    intro w mg fa h KX G hmg
    refine' LW.all_mk KX G hmg ?a0 ?l0 ?c0 ?k0 ?a1 ?l1 ?c1 ?k1 ?a2 ?l2 ?c2 ?k2 ?a3 ?l3 ?c3 ?k3 ?a4 ?l4 ?c4 ?k4 ?a5 ?l5 ?c5 ?k5 ?a6 ?l6 ?c6 ?k6 ?a7 ?l7 ?c7 ?k7 ?a8 ?l8 ?c8 ?k8 ?a9 ?l9 ?c9 ?k9 ?a10 ?l10 ?c10 ?k10 ?z_abs ?z_int ?z_isinstance ?z_len ?z_list ?z_max ?z_min ?z_range ?z_repr ?z_str ?z_tuple ?c_HIGH ?c_LOW
    (case a0 => k_is)
    (case l0 => k_is)
    (case c0 => k_is)
    (case k0 => k_is)
    (case a1 => k_is)
    (case l1 => k_is)
    (case c1 => k_is)
    (case k1 => k_is)
    (case a2 => k_is)
    (case l2 => k_is)
    (case c2 => k_is)
    (case k2 => k_is)
    (case a3 => k_is)
    (case l3 => k_is)
    (case c3 => k_is)
    (case k3 => k_is)
    (case a4 => k_is)
    (case l4 => k_is)
    (case c4 => k_is)
    (case k4 => k_is)
    (case a5 => k_is)
    (case l5 => k_is)
    (case c5 => k_is)
    (case k5 => k_is)
    (case a6 => k_is)
    (case l6 => k_is)
    (case c6 => k_is)
    (case k6 => k_is)
    (case a7 => k_is)
    (case l7 => k_is)
    (case c7 => k_is)
    (case k7 => k_is)
    (case a8 => k_is)
    (case l8 => k_is)
    (case c8 => k_is)
    (case k8 => k_is)
    (case a9 => k_is)
    (case l9 => k_is)
    (case c9 => k_is)
    (case k9 => k_is)
    (case a10 => k_is)
    (case l10 => k_is)
    (case c10 => k_is)
    (case k10 => k_is)
    (case z_abs => k_is)
    (case z_int => k_is)
    (case z_isinstance => k_is)
    (case z_len => k_is)
    (case z_list => k_is)
    (case z_max => k_is)
    (case z_min => k_is)
    (case z_range => k_is)
    (case z_repr => k_is)
    (case z_str => k_is)
    (case z_tuple => k_is)
    (case c_HIGH => k_is)
    (case c_LOW => k_is)
#print axioms PySem.Challenge.cw_boundterms_k05_terms_exchanged_and_put_i_holds
