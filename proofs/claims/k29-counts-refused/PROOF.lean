import PyProof.Rows.All
import Wide.All
import OpenK.AllK
import Wide.FinOn
import HandS.ForMost
import HandS.Flow
import HandS.IsInst
import HandS.Walk
import KE.LtData
import HandS.Wide
import HandS.TupAny
import HandS.Zip
import KE.GoesMore
import HandS.Conv
import HandS.Star
import HandS.ClsMeth
import HandS.Property
import HandS.DictComp
import HandS.More
import HandS.Replace
import HandS.RaiseMore
import HandS.Exc
import HandS.ExcOwn
import HandS.ExcIs
import KE.GoesEnum
import PyProof.TupleOfSeq
import HandS.Steps
import HandS.SlotsOwn
import PyProof.InstNe
import HandS.Lambda
import HandS.ExcInit
import HandS.ExcField
import HandS.Small
import HandS.CallSlots
import KE.KUnpackStar
import KE.KUnpack
import HandS.Style
import HandS.WordsExc
import HandS.EndBits
import HandS.EndTab
import HandS.MakeKwOnly
import HandS.Defaults
import HandS.SortInts
import HandS.TryOnly
import HandS.DeepEq
import KE.KEqDict
import HandS.Strs
import HandS.SetFor
import HandS.StrMore
import HandS.Set
import HandS.Text
import KE.KRevSl
import PyProof.AutoSeq1
import HandS.OwnEq
import KE.DataMinMax
import KE.SortKeyHeap
import HandS.Deep
import KE.KDictZip
import KE.KEqNest
import HandS.ExcValue
import PySem.Challenge.RW_callstairs_k29_counts_refused
import KE.KStateDown
import HandS.Head0
import HandS.Head1
import HandS.Head2
import HandS.HeadHook1
import HandS.HeadHook2
import HandS.HeadHook3
set_option Elab.async false
set_option linter.all false
set_option maxRecDepth 100000
set_option maxHeartbeats 0
namespace Cs
open PySem PySem.Spec L2
theorem same_none {H H' : Hp} (e : Same H H') {l : Addr} (h : H' l = none) : H l = none := e.free h
theorem same_new {H : Hp} {p : Addr} {o : HO} (h : H p = none) : Same H (upd H p o) := fun a u e => by
  rw [upd_ne (ne_of_none e h)]; exact e
structure Grow (M : Addr → Prop) (G H G' H' : Hp) : Prop where
  h : ∀ b o, ¬ M b → H b = some o → H' b = some o
  g : Same G G'
  s : Same G' H'
  n : ∀ b, H b ≠ none → G' b = G b
  m : ∀ b, H b ≠ none → H' b ≠ none
  t : ∀ b ps, G' b = some (.tbl ps) → G b = some (.tbl ps)
  u : ∀ b ps, H' b = some (.tbl ps) → ∃ ps', H b = some (.tbl ps')
abbrev NoM : Addr → Prop := fun _ => False
section
variable {M : Addr → Prop} {G H G1 H1 G2 H2 G' H' : Hp} {p : Addr} {o : HO}
theorem Grow.refl (s : Same G H) : Grow M G H G H := ⟨fun _ _ _ e => e, Same.refl _, s, fun _ _ => rfl, fun _ h => h, fun _ _ h => h, fun _ _ h => ⟨_, h⟩⟩
theorem Grow.trans (a : Grow M G H G1 H1) (b : Grow M G1 H1 G2 H2) : Grow M G H G2 H2 :=
  ⟨fun c o hc e => b.h c o hc (a.h c o hc e), a.g.trans b.g, b.s, fun c hc => (b.n c (a.m c hc)).trans (a.n c hc), fun c hc => b.m c (a.m c hc), fun c ps h => a.t c ps (b.t c ps h), fun c ps h => let ⟨ps', h'⟩ := b.u c ps h; a.u c ps' h'⟩
theorem Grow.any (a : Grow NoM G H G' H') : Grow M G H G' H' := ⟨fun c o _ e => a.h c o (fun z => z) e, a.g, a.s, a.n, a.m, a.t, a.u⟩
theorem Grow.same (a : Grow NoM G H G' H') : Same H H' := fun c o e => a.h c o (fun z => z) e
theorem Grow.new (s : Same G H) (hp : H p = none) (no : ∀ ps, o ≠ .tbl ps := by intro _ z; cases z) : Grow M G H (upd G p o) (upd H p o) := by
  have gp : G p = none := same_none s hp
  refine ⟨fun b u _ e => same_new hp b u e, same_new gp, fun b u e => ?_, fun b hb => ?_, fun b hb => ?_, fun b ps e => ?_, fun b ps e => ?_⟩
  rotate_left 4
  · by_cases c : b = p
    · subst c; rw [upd_same] at e; exact absurd (Option.some.inj e) (no ps)
    · rw [upd_ne c] at e; exact ⟨_, e⟩
  rotate_left 3
  · by_cases c : b = p
    · subst c; rw [upd_same] at e; exact absurd (Option.some.inj e) (no ps)
    · rw [upd_ne c] at e; exact e
  · by_cases c : b = p
    · subst c; rw [upd_same] at e ⊢; exact e
    · rw [upd_ne c] at e ⊢; exact s b u e
  · exact upd_ne (fun z => hb (by rw [z]; exact hp))
  · rw [upd_ne (fun z => hb (by rw [z]; exact hp))]; exact hb
theorem Grow.own (s : Same G H) (hp : H p = none) (no : ∀ ps, o ≠ .tbl ps := by intro _ z; cases z) : Grow M G H G (upd H p o) :=
  ⟨fun b u _ e => same_new hp b u e, Same.refl _, s.trans (same_new hp), fun _ _ => rfl, fun b hb => by
    rw [upd_ne (fun z => hb (by rw [z]; exact hp))]; exact hb, fun _ _ h => h, fun b ps e => by
    by_cases c : b = p
    · subst c; rw [upd_same] at e; exact absurd (Option.some.inj e) (no ps)
    · rw [upd_ne c] at e; exact ⟨_, e⟩⟩
theorem Grow.put (a : Grow M G H G' H') (hp : H p = none ∨ M p) (gp : G' p = none) (no : ∀ ps, o ≠ .tbl ps := by intro _ z; cases z) : Grow M G H G' (upd H' p o) := by
  refine ⟨fun b u hb e => ?_, a.g, fun b u e => ?_, a.n, fun b hb => ?_, a.t, fun b ps e => by
    by_cases c : b = p
    · subst c; rw [upd_same] at e; exact absurd (Option.some.inj e) (no ps)
    · rw [upd_ne c] at e; exact a.u b ps e⟩
  · rcases hp with hp | hp
    · rw [upd_ne (ne_of_none e hp)]; exact a.h b u hb e
    · rw [upd_ne (fun z => hb (by rw [z]; exact hp))]; exact a.h b u hb e
  · rw [upd_ne (ne_of_none e gp)]; exact a.s b u e
  · by_cases c : b = p
    · subst c; rw [upd_same]; exact fun z => by cases z
    · rw [upd_ne c]; exact a.m b hb
theorem Grow.freeze (a : Grow M G H G' H') (hp : H p = none) (gp : G' p = none) (e : H' p = some o) (no : ∀ ps, o ≠ .tbl ps := by intro _ z; cases z) : Grow M G H (upd G' p o) H' := by
  refine ⟨a.h, a.g.trans (same_new gp), fun b u q => ?_, fun b hb => ?_, a.m, fun b ps q => ?_, a.u⟩
  rotate_left 2
  · by_cases c : b = p
    · subst c; rw [upd_same] at q; exact absurd (Option.some.inj q) (no ps)
    · rw [upd_ne c] at q; exact a.t b ps q
  · by_cases c : b = p
    · subst c; rw [upd_same] at q; rw [e]; exact q
    · rw [upd_ne c] at q; exact a.s b u q
  · rw [upd_ne (fun z => hb (by rw [z]; exact hp))]; exact a.n b hb
theorem Grow.fresh (a : Grow M G H G' H') (hp : H' p = none) : H p = none := by
  cases e : H p with
  | none => rfl
  | some u => exact absurd hp (a.m p (by rw [e]; exact fun z => by cases z))
theorem Grow.base (a : Grow M G H G' H') (e1 : Same G G1) (s1 : Same G1 H) (hm : ∀ b, M b → G1 b = none) : ∃ G2, Grow M G1 H G2 H' ∧ Same G' G2 := by
  refine ⟨fun b => if G1 b = none then G' b else G1 b, ⟨a.h, fun b u q => ?_, fun b u q => ?_, fun b hb => ?_, a.m, fun b ps q => ?_, a.u⟩, fun b u q => ?_⟩
  rotate_left 3
  · by_cases c : G1 b = none
    · rw [if_pos c] at q
      exact e1 _ _ (a.t b ps q)
    · rw [if_neg c] at q; exact q
  rotate_right 3
  · rw [if_neg (by rw [q]; exact fun z => by cases z)]; exact q
  · by_cases c : G1 b = none
    · rw [if_pos c] at q; exact a.s b u q
    · rw [if_neg c] at q
      exact a.h b u (fun z => c (hm b z)) (s1 b u q)
  · by_cases c : G1 b = none
    · rw [if_pos c, a.n b hb, c]
      exact same_none e1 c
    · rw [if_neg c]
  · by_cases c : G1 b = none
    · show (if G1 b = none then G' b else G1 b) = some u
      rw [if_pos c]; exact q
    · show (if G1 b = none then G' b else G1 b) = some u
      rw [if_neg c]
      have hb : H b ≠ none := fun z => c (same_none s1 z)
      have q2 : G b = some u := by rw [← a.n b hb]; exact q
      exact e1 b u q2
end
def keyD : Key → PyData
  | .inl i => .int i
  | .inr x => .str x
def dctD (ks : List Key) (ds : List PyData) : List (PyData × PyData) := List.zipWith (fun k d => (keyD k, d)) ks ds
def kvL (ks : List Key) (xs : List V) : List (Key × V) := List.zipWith (fun k x => (k, x)) ks xs
mutual
inductive Dp (K : PySem.W.Frag) (H : Hp) : V → PyData → Prop
  | non : Dp K H .non .none
  | bl (b : Bool) : Dp K H (.bl b) (.bool b)
  | int (i : Int) : Dp K H (.int i) (.int i)
  | str (x : Str) : Dp K H (.str x) (.str x)
  | lst {a : Addr} {xs : List V} {ds : List PyData} : SqL K H a xs → DpAll K H xs ds → Dp K H (.ref a) (.list ds)
  | tup {a : Addr} {xs : List V} {ds : List PyData} : SqT K H a xs → DpAll K H xs ds → Dp K H (.ref a) (.tuple ds)
  | dct {a : Addr} {ks : List Key} {xs : List V} {ds : List PyData} : Rd H a (.dK (kvL ks xs)) → ks.length = xs.length → ks.Nodup → DpAll K H xs ds → Dp K H (.ref a) (.dict (dctD ks ds))
inductive DpAll (K : PySem.W.Frag) (H : Hp) : List V → List PyData → Prop
  | nil : DpAll K H [] []
  | cons {v : V} {vs : List V} {d : PyData} {ds : List PyData} : Dp K H v d → DpAll K H vs ds → DpAll K H (v :: vs) (d :: ds)
end
mutual
theorem Dp.old {K : PySem.W.Frag} {H : Hp} : ∀ (d : PyData) (v : V), d.hasDict = false → Dp K H v d → L2.Dp K H v d
  | .none, _, _, h => by cases h; exact .non
  | .bool b, _, _, h => by cases h; exact .bl b
  | .int i, _, _, h => by cases h; exact .int i
  | .str x, _, _, h => by cases h; exact .str x
  | .list ds, _, n, h => by
    cases h with
    | lst hs ha => exact .lst hs (DpAll.old ds _ (by simpa only [PyData.hasDict] using n) ha)
  | .tuple ds, _, n, h => by
    cases h with
    | tup hs ha => exact .tup hs (DpAll.old ds _ (by simpa only [PyData.hasDict] using n) ha)
  | .dict _, _, n, h => by simp [PyData.hasDict] at n
theorem DpAll.old {K : PySem.W.Frag} {H : Hp} : ∀ (ds : List PyData) (vs : List V), PyData.hasDictAll ds = false → DpAll K H vs ds → L2.DpAll K H vs ds
  | [], _, _, h => by cases h; exact .nil
  | d :: ds, _, n, h => by
    have n' : (d.hasDict || PyData.hasDictAll ds) = false := by simpa only [PyData.hasDictAll] using n
    have n2 := Bool.or_eq_false_iff.mp n'
    cases h with
    | cons h1 h2 => exact .cons (Dp.old d _ n2.1 h1) (DpAll.old ds _ n2.2 h2)
end
theorem noDict_shaped {d : PyData} (h : SeqAt.shaped d = true) : d.hasDict = false := by
  refine PyData.hasDict_of_canLay d ?_
  unfold SeqAt.shaped at h
  simp only [Bool.and_eq_true] at h
  exact h.1
abbrev Rp := Hp → V → Prop
def Mono (R : Rp) : Prop := ∀ G G' v, Same G G' → R G v → R G' v
section
variable {K : PySem.W.Frag}
theorem sql_mono {G G' : Hp} {a : Addr} {xs : List V} (e : Same G G') (h : SqL K G a xs) : SqL K G' a xs := e.seq h
theorem sqt_mono {G G' : Hp} {a : Addr} {xs : List V} (e : Same G G') (h : SqT K G a xs) : SqT K G' a xs := by
  rcases h with (h | ⟨o, h⟩) | h
  · exact .inl (.inl (e _ _ h))
  · exact .inl (.inr ⟨o, e _ _ h⟩)
  · exact .inr h
theorem rd_same {G G' : Hp} {a : Addr} {u : HO} (e : Same G G') (h : Rd G a u) : Rd G' a u := by
  rcases h with h | ⟨o, h⟩
  · exact .inl (e _ _ h)
  · exact .inr ⟨o, e _ _ h⟩
mutual
theorem dp_monoI {G G' : Hp} (e : Same G G') : ∀ {d : PyData} {v : V}, Dp K G v d → Dp K G' v d
  | _, _, .non => .non
  | _, _, .bl b => .bl b
  | _, _, .int i => .int i
  | _, _, .str x => .str x
  | _, _, .lst hs ha => .lst (sql_mono e hs) (dpa_monoI e ha)
  | _, _, .tup hs ha => .tup (sqt_mono e hs) (dpa_monoI e ha)
  | _, _, .dct hr hl hn ha => .dct (rd_same e hr) hl hn (dpa_monoI e ha)
theorem dpa_monoI {G G' : Hp} (e : Same G G') : ∀ {ds : List PyData} {vs : List V}, DpAll K G vs ds → DpAll K G' vs ds
  | _, _, .nil => .nil
  | _, _, .cons h1 h2 => .cons (dp_monoI e h1) (dpa_monoI e h2)
end
theorem dp_mono {G G' : Hp} (e : Same G G') (d : PyData) (v : V) (h : Dp K G v d) : Dp K G' v d := dp_monoI e h
theorem dpa_mono {G G' : Hp} (e : Same G G') (ds : List PyData) (vs : List V) (h : DpAll K G vs ds) : DpAll K G' vs ds := dpa_monoI e h
theorem dpa_len {G : Hp} : ∀ {vs : List V} {ds : List PyData}, DpAll K G vs ds → vs.length = ds.length
  | _, _, .nil => rfl
  | _, _, .cons _ t => congrArg (· + 1) (dpa_len t)
theorem dpa_get {G : Hp} : ∀ {vs : List V} {ds : List PyData} {i : Nat} {d : PyData}, DpAll K G vs ds → ds[i]? = some d → ∃ v, vs[i]? = some v ∧ Dp K G v d
  | _, _, _, _, .nil, e => by simp at e
  | _, _, 0, _, .cons h _, e => by
    have e' := Option.some.inj e
    subst e'
    exact ⟨_, rfl, h⟩
  | _, _, i + 1, d, .cons _ t, e => dpa_get (i := i) t e
theorem dpa_getV {G : Hp} : ∀ {vs : List V} {ds : List PyData} {i : Nat} {v : V}, DpAll K G vs ds → vs[i]? = some v → ∃ d, ds[i]? = some d ∧ Dp K G v d
  | _, _, _, _, .nil, e => by simp at e
  | _, _, 0, _, .cons h _, e => by
    have e' := Option.some.inj e
    subst e'
    exact ⟨_, rfl, h⟩
  | _, _, i + 1, d, .cons _ t, e => dpa_getV (i := i) t e
theorem dpa_app {G : Hp} : ∀ {vs ws : List V} {ds es : List PyData}, DpAll K G vs ds → DpAll K G ws es → DpAll K G (vs ++ ws) (ds ++ es)
  | _, _, _, _, .nil, h => h
  | _, _, _, _, .cons h t, k => .cons h (dpa_app t k)
theorem dpa_take {G : Hp} : ∀ {vs : List V} {ds : List PyData} (n : Nat), DpAll K G vs ds → DpAll K G (vs.take n) (ds.take n)
  | _, _, 0, _ => .nil
  | _, _, _ + 1, .nil => .nil
  | _, _, n + 1, .cons h t => .cons h (dpa_take n t)
theorem dpa_drop {G : Hp} : ∀ {vs : List V} {ds : List PyData} (n : Nat), DpAll K G vs ds → DpAll K G (vs.drop n) (ds.drop n)
  | _, _, 0, h => h
  | _, _, _ + 1, .nil => .nil
  | _, _, n + 1, .cons _ t => dpa_drop n t
theorem dpa_erase {G : Hp} : ∀ {vs : List V} {ds : List PyData} (n : Nat), DpAll K G vs ds → DpAll K G (vs.eraseIdx n) (ds.eraseIdx n)
  | _, _, _, .nil => .nil
  | _, _, 0, .cons _ t => t
  | _, _, n + 1, .cons h t => .cons h (dpa_erase n t)
end
def EvP (te : TE) (σ : L2.St) (G : Hp) (R : Rp) : Prop := ∀ H, Same G H → ∀ Q : VK, (∀ v G' H', Grow NoM G H G' H' → R G' v → Q v H') → te σ H Q
def EvT (tt : TT) (σ : L2.St) (G : Hp) (b : Bool) : Prop := ∀ H, Same G H → ∀ Q : Bool → Hp → Prop, (∀ G' H', Grow NoM G H G' H' → Q b H') → tt σ H Q
abbrev RD (K : PySem.W.Frag) (d : PyData) : Rp := fun G v => Dp K G v d
abbrev Ev (K : PySem.W.Frag) (te : TE) (σ : L2.St) (G : Hp) (d : PyData) : Prop := EvP te σ G (RD K d)
abbrev I (i : Int) : PyData := .int i
abbrev S (s : Str) : PyData := .str s
abbrev B (b : Bool) : PyData := .bool b
abbrev T (ds : List PyData) : PyData := .tuple ds
abbrev L (ds : List PyData) : PyData := .list ds
section
variable {K : PySem.W.Frag} {σ : L2.St} {G G1 H : Hp} {b : Bool} {ta tb tc te : TE} {t u : TT} {tA : TA} {R R' X Y Z : Rp} {r r' : R2} {v : V} {i : Nat}
theorem EvP.mono (hR : Mono R) (e : Same G G1) (h : EvP te σ G R) : EvP te σ G1 R := fun H s Q q =>
  h H (e.trans s) Q fun v G' H' g r => by
    obtain ⟨G2, g2, s2⟩ := g.base e s (fun _ z => z.elim)
    exact q v G2 H' g2 (hR _ _ _ s2 r)
theorem EvT.mono {b : Bool} (e : Same G G1) (h : EvT t σ G b) : EvT t σ G1 b := fun H s Q q =>
  h H (e.trans s) Q fun G' H' g => by
    obtain ⟨G2, g2, s2⟩ := g.base e s (fun _ z => z.elim)
    exact q G2 H' g2
theorem EvP.imp (h : EvP te σ G R) (f : ∀ G v, R G v → R' G v) : EvP te σ G R' := fun H s Q q => h H s Q fun v G' H' g r => q v G' H' g (f _ _ r)
theorem EvP.to {d d' : PyData} (h : Ev K te σ G d) (e : d = d') : Ev K te σ G d' := e ▸ h
theorem EvT.to {b b' : Bool} (h : EvT t σ G b) (e : b = b') : EvT t σ G b' := e ▸ h
theorem atI_map {α β : Type} {xs : List α} {ys : List β} {i : Int} {y : β} (hl : xs.length = ys.length) (h : atI ys i = some y) : ∃ j : Nat, ys[j]? = some y ∧ ∀ x, xs[j]? = some x → atI xs i = some x := by
  unfold atI at h ⊢
  rw [hl]
  cases e : ixN ys.length i with
  | none => rw [e] at h; cases h
  | some j =>
    rw [e] at h
    exact ⟨j, h, fun x hx => hx⟩
end
end Cs
namespace Cs
open PySem PySem.Spec L2
section
variable {K : PySem.W.Frag} {σ : L2.St} {M : Addr → Prop} {G G0 G1 H H0 H1 : Hp} {b : Bool} {ta tb tc te : TE} {t u : TT} {tA : TA} {R R' X Y Z : Rp} {r r' : R2} {v : V} {i : Nat} {D : Ends} {Q : VK} {ts tS : TS} {d : PyData}
end
end Cs
namespace Cs
open PySem PySem.Spec L2
section
variable {X : Cx} {f : Value → Value → Sem Value} {r1 r2 : R2}
theorem opr_or (h1 : OpR X f r1) (h2 : OpR X f r2) : OpR X f (fun x y H Q => r1 x y H Q ∨ r2 x y H Q) := by
  intro pins s σ H x y v u Q I rx ry h
  rcases h with h | h
  · exact h1 pins s σ H x y v u Q I rx ry h
  · exact h2 pins s σ H x y v u Q I rx ry h
def rLtD (K : PySem.W.Frag) : R2 := fun x y H Q => ∃ d e, L2.Dp K H x d ∧ L2.Dp K H y e ∧ PySem.W.alike d e = true ∧ d ≠ .none ∧ d.depth ≤ 64 ∧ Q (.bl (PySem.W.dataLt d e)) H
theorem op_ltD (hu : X.A.units + 64 < cLine) : OpR X (compareOp .Lt) (rLtD X.K) := by
  intro pins s σ H x y v u Q I rx ry h
  obtain ⟨d, e, hd, he, al, nn, dp, q⟩ := h
  obtain ⟨as, r1⟩ := Dp.reads I d x v hd rx
  obtain ⟨bs, r2⟩ := Dp.reads I e y u he ry
  have R := PySem.W.rcLt_alike d e X.A s v u as bs r1 r2 al nn (by have := Nat.min_le_left d.depth e.depth; omega)
  have z : wpAny (model X.prog X.w) X.A (compareOp .Lt v u) (EP X pins σ Q) X.xe s := R X.prog X.w X.xe (EP X pins σ Q) ⟨.bl _, H, I, rfl, q⟩
  exact z
def rAddI : R2 := rI0 fun i j => .int (i + j)
def rAddS : R2 := fun x y H Q => ∃ i j, x = .str i ∧ y = .str j ∧ i.length + j.length ≤ sizeLine ∧ Q (.str (i ++ j)) H
def rCatQ (K : PySem.W.Frag) : R2 := fun x y H Q => ∃ l b xs zs, x = .ref l ∧ y = .ref b ∧ SqL K H l xs ∧ SqL K H b zs ∧ xs.length + zs.length ≤ sizeLine ∧ ∀ p, H p = none → Q (.ref p) (upd H p (.lst (xs ++ zs)))
theorem op_catQ : OpR X (binaryOp .Add) (rCatQ X.K) := by
  intro pins s σ H x y v u Q I rx ry h
  obtain ⟨l, b, xs, zs, rfl, rfl, hH, hB, hz, q⟩ := h
  cases rx
  cases ry
  obtain ⟨its, r, p1, _⟩ := I.list hH
  obtain ⟨its2, r2, p2, _⟩ := I.list hB
  obtain ⟨⟨cls, dd, data, sl⟩, ho, hc, n, hd⟩ := p1.isList
  obtain ⟨⟨cls2, dd2, data2, sl2⟩, ho2, hc2, n2, hd2⟩ := p2.isList
  simp only at hc hd hc2 hd2
  subst hc hd hc2 hd2
  have e : its.toArray ++ its2.toArray = (its ++ its2).toArray := by simp
  have l1 := r.length
  have l2 := r2.length
  refine concat_meets ⟨_, ho, rfl⟩ ⟨_, ho2, rfl⟩ noFill_list_add seq_list_add PySem.F.slot_list_add PySem.F.entry_list_add (PySem.F.args_list_add_2 _ _) (PyProof.Rows.list_addW l b its.toArray its2.toArray n n2 dd dd2 sl sl2 (by simp only [List.size_toArray]; omega)) ⟨ho, ho2, ?_⟩
  rw [e]
  exact ⟨.ref _, _, I.lnew (t' := s.toks) (r.append r2) (by rw [List.length_append]; omega), rfl, q _ I.fresh⟩
def rAddD (K : PySem.W.Frag) : R2 := fun x y H Q => rAddI x y H Q ∨ (rAddS x y H Q ∨ (rCatQ K x y H Q ∨ rCatA K x y H Q))
theorem op_addD : OpR X (binaryOp .Add) (rAddD X.K) := opr_or op_add (opr_or op_add_str (opr_or op_catQ op_catA))
def CPowW (i j : Int) : Prop := 0 ≤ j ∧ ((i.natAbs.log2 + 1 : Nat) : Int) * j ≤ 2 ^ 27
theorem op_powW : OpR X (binaryOp .Pow) (rI CPowW fun i j => .int (i ^ j.toNat)) := opI fun i j _ _ _ _ _ hc q => by
  refine PyProof.Rows.pow_int hc.1 ?_ q
  have b : Builtin.Int.intBits i ≤ i.natAbs.log2 + 1 := by
    unfold Builtin.Int.intBits
    split <;> omega
  have h1 : ((Builtin.Int.intBits i : Nat) : Int) ≤ ((i.natAbs.log2 + 1 : Nat) : Int) := Int.ofNat_le.mpr b
  exact Int.le_trans (Int.mul_le_mul_of_nonneg_right h1 hc.1) hc.2
def rMulI : R2 := rI CMulW fun i j => .int (i * j)
def rMulD : R2 := fun x y H Q => rMulI x y H Q ∨ rRep x y H Q
theorem op_mulD : OpR X (binaryOp .Mult) rMulD := opr_or op_mulW op_rep
def rInD (K : PySem.W.Frag) : R2 := fun x y H Q => rIn K false x y H Q ∨ (∃ i j, x = .str i ∧ y = .str j ∧ Q (.bl (!(Builtin.Str.occurrences j i 0 j.length 1).isEmpty)) H)
def rNiD (K : PySem.W.Frag) : R2 := fun x y H Q => rIn K true x y H Q ∨ (∃ i j, x = .str i ∧ y = .str j ∧ Q (.bl (!(!(Builtin.Str.occurrences j i 0 j.length 1).isEmpty))) H)
theorem op_inD : OpR X (compareOp .In) (rInD X.K) := opr_or op_in_seq op_in_str
theorem op_niD : OpR X (compareOp .NotIn) (rNiD X.K) := opr_or op_notIn_seq op_notin_str
theorem slr_or {r r' : V → Option Int → Option Int → Hp → VK → Prop} (h1 : SlR X r) (h2 : SlR X r') : SlR X (fun x lo hi H Q => r x lo hi H Q ∨ r' x lo hi H Q) := by
  intro pins s σ H x v vl vu lo hi sl Q I rx hs pl pu h
  rcases h with h | h
  · exact h1 pins s σ H x v vl vu lo hi sl Q I rx hs pl pu h
  · exact h2 pins s σ H x v vl vu lo hi sl Q I rx hs pl pu h
def rSlD (K : PySem.W.Frag) : V → Option Int → Option Int → Hp → VK → Prop := fun x lo hi H Q => rSlL K x lo hi H Q ∨ (rSlA K x lo hi H Q ∨ rSlS x lo hi H Q)
theorem sl_D : SlR X (rSlD X.K) := slr_or sl_list (slr_or sl_tupA sl_str)
def rLenD (K : PySem.W.Frag) : List V → Hp → VK → Prop := fun xs H Q => ∃ x n, xs = [x] ∧ LenV K x H n ∧ Q (.int n) H
theorem call_lenX : CallR X (.builtin "len") (rLenD X.K) := call_len
def rListD' (K : PySem.W.Frag) : List V → Hp → VK → Prop := fun xs H Q => ∃ p ys, xs = [.ref p] ∧ (SqL K H p ys ∨ SqT K H p ys) ∧ ∀ l, H l = none → Q (.ref l) (upd H l (.lst ys))
theorem call_listX : CallR X (.type "list") (rListD' X.K) := call_list_of
def rTupleD (K : PySem.W.Frag) : List V → Hp → VK → Prop := fun xs H Q => ∃ p ys, xs = [.ref p] ∧ ((SqL K H p ys ∧ ∀ l, H l = none → Q (.ref l) (upd H l (.tup ys))) ∨ (SqT K H p ys ∧ Q (.ref p) H))
theorem call_tupleX : CallR X (.type "tuple") (rTupleD X.K) := call_tuple_of
def rSubI : R2 := rI0 fun i j => .int (i - j)
def rModI : R2 := rI (fun _ j => j ≠ 0) fun i j => .int (i.fmod j)
def rDivI : R2 := rI CDivN fun i j => .int (i.fdiv j)
def rPowI : R2 := rI CPowW fun i j => .int (i ^ j.toNat)
def rGtI : R2 := rI0 fun i j => .bl (decide (j < i))
def rLeI : R2 := rI0 fun i j => .bl (decide (i ≤ j))
def rGeI : R2 := rI0 fun i j => .bl (decide (j ≤ i))
def rMax2 : List V → Hp → VK → Prop := fun xs H Q => ∃ i j, xs = [.int i, .int j] ∧ Q (.int (if j > i then j else i)) H
theorem call_max2X (hc : X.calm = true) : CallR X (.builtin "max") rMax2 := call_max2 hc
end
section
variable {K : PySem.W.Frag} {σ : L2.St} {G G1 H : Hp} {b : Bool} {ta tb tc te : TE} {t u : TT} {tA : TA} {X Y Z : Rp} {d d' : PyData}
def EvO (to : TO) (σ : L2.St) (G : Hp) (o : Option Int) : Prop := ∀ H, Same G H → ∀ Q : Option Int → Hp → Prop, (∀ G' H', Grow NoM G H G' H' → Q o H') → to σ H Q
theorem EvO.mono {to : TO} {o : Option Int} (e : Same G G1) (h : EvO to σ G o) : EvO to σ G1 o := fun H s Q q => h H (e.trans s) Q fun G' H' g => by
  obtain ⟨G2, g2, _⟩ := g.base e s (fun _ z => z.elim)
  exact q G2 H' g2
end
end Cs
namespace Cs
open PySem PySem.Spec L2
def LIM : Nat := 1000000
def StAt (a : Addr) (c : Nat) (H : Hp) : Prop := ∃ x y z : Int, H a = some (.lst [.int x, .int y, .int z]) ∧ 0 ≤ z ∧ z ≤ (c : Int)
abbrev At1 (a : Addr) : Addr → Prop := fun b => b = a
section
variable {K : PySem.W.Frag} {σ : L2.St} {M : Addr → Prop} {a : Addr} {c k k1 k2 n : Nat} {G G0 G1 H H0 H1 G' H' : Hp} {b : Bool} {ta tb tc te : TE} {t u : TT} {tA : TA} {R R' X Y Z : Rp} {r r' : R2} {v : V} {i : Nat} {D : Ends} {Q : VK} {ts tS : TS} {d : PyData}
theorem StAt.mono (h : StAt a c H) (e : c ≤ n) : StAt a n H := by
  obtain ⟨x, y, z, h1, h2, h3⟩ := h
  exact ⟨x, y, z, h1, h2, by omega⟩
theorem StAt.at (h : StAt a c H) (e : ∀ o, H a = some o → H' a = some o) : StAt a c H' := by
  obtain ⟨x, y, z, h1, h2, h3⟩ := h
  exact ⟨x, y, z, e _ h1, h2, h3⟩
theorem StAt.some (h : StAt a c H) : H a ≠ none := by
  obtain ⟨x, y, z, h1, _⟩ := h
  rw [h1]
  exact fun z => by cases z
theorem StAt.keep (h : StAt a c H) (g : Grow NoM G H G' H') : StAt a c H' := h.at fun o e => g.same _ _ e
theorem Grow.none (g : Grow M G H G' H') (ha : H a ≠ none) (ga : G a = none) : G' a = none := (g.n a ha).trans ga
def EvS (a : Addr) (k : Nat) (te : TE) (σ : L2.St) (G : Hp) (R : Rp) : Prop := ∀ H c, Same G H → G a = none → StAt a c H → c + k ≤ LIM → ∀ Q : VK, (∀ v G' H', Grow (At1 a) G H G' H' → StAt a (c + k) H' → R G' v → Q v H') → te σ H Q
theorem EvS.mono (hR : Mono R) (e : Same G G1) (h : EvS a k te σ G R) : EvS a k te σ G1 R := fun H c s ga sa hl Q q =>
  h H c (e.trans s) (same_none e ga) sa hl Q fun v G' H' g s2 r => by
    obtain ⟨G2, g2, s3⟩ := g.base e s (fun b z => by rw [z]; exact ga)
    exact q v G2 H' g2 s2 (hR _ _ _ s3 r)
theorem EvS.imp (h : EvS a k te σ G R) (f : ∀ G v, R G v → R' G v) : EvS a k te σ G R' := fun H c s ga sa hl Q q => h H c s ga sa hl Q fun v G' H' g s2 r => q v G' H' g s2 (f _ _ r)
end
end Cs
namespace Cs
open PySem PySem.Spec L2
section
variable {K : PySem.W.Frag} {H : Hp} {Q : VK} {E : XK} {vs : List V}
theorem mulW_of {i j : Int} {a b : Nat} (ha : i.natAbs < 2 ^ a) (hb : j.natAbs < 2 ^ b) (h0 : 0 < a) (h1 : 0 < b) (h : a + b ≤ 1000000) : CMulW i j := wide_mul ha hb h0 h1 h
theorem fmod_lt {a b : Int} (h : 0 < b) : 0 ≤ a.fmod b ∧ a.fmod b < b := by
  rw [Int.fmod_eq_emod_of_nonneg a (Int.le_of_lt h)]
  exact ⟨Int.emod_nonneg a (by omega), Int.emod_lt_of_pos a h⟩
end
end Cs
namespace Cs
open PySem PySem.Spec L2
def Shp (n : Nat) (d : PyData) : Prop := PyData.canLay0 d = true ∧ PyData.depth d ≤ n
theorem Shp.shaped {n : Nat} {d : PyData} (h : Shp n d) (hn : n ≤ 64) : SeqAt.shaped d = true := by
  unfold SeqAt.shaped
  rw [h.1, decide_eq_true (Nat.le_trans h.2 hn)]
  rfl
theorem Shp.mono {m n : Nat} {d : PyData} (h : Shp m d) (e : m ≤ n) : Shp n d := ⟨h.1, Nat.le_trans h.2 e⟩
section
variable {K : PySem.W.Frag} {H : Hp} {Q : VK} {E : XK} {vs : List V}
end
end Cs
namespace Cs
open PySem PySem.Spec L2
section
variable {K : PySem.W.Frag} {σ : L2.St} {a : Addr} {c k : Nat} {G H : Hp} {Q : VK} {E : XK} {vs : List V} {ta te : TE} {tA : TA} {tl th : TO} {lo hi : Option Int} {R : Rp}
end
end Cs
namespace Cs
open PySem PySem.Spec L2
end Cs
namespace Cs
open PySem PySem.Spec L2
def isWord (x : Str) : Bool := x.cps.toList.all fun c => decide (97 ≤ c) && decide (c ≤ 122)
section
variable {K : PySem.W.Frag} {σ : L2.St} {G H : Hp} {Q : VK} {E : XK} {vs : List V} {ta tb : TE}
end
end Cs
namespace Cs
open PySem PySem.Spec L2
abbrev names (ws : List Str) : PyData := .tuple (ws.map PyData.str)
section
variable {K : PySem.W.Frag} {σ : L2.St} {G H : Hp} {Q : VK} {E : XK} {vs : List V} {ta tb : TE}
end
end Cs
namespace Cs
open PySem PySem.Spec L2
section
variable {prog : Program} {w : World} {A : Around} {E : Value → Shared → Prop} {s : Shared} {r d : Addr} {n : Nat} {P : Nat → Value → Prop} {OK : Heap → Prop}
theorem code_tuple_new_src {Q₁ : Value → Shared → Prop} (S : PySem.W.KdlSrc prog w "dict" r d n P OK) (hh : A.handled = none) (hok : OK s.heap) (hn : n ≤ sizeLine)
    (h : ∀ (h' : Heap) (tk : Nat) (acc : Array Value), (∀ b o, s.heap.get? b = some o → h'.get? b = some o) → ItemsOf P acc n →
      Q₁ (.ref h'.objs.size) { s with heap := h'.push { cls := .type "tuple", data := .seq acc }, toks := tk }) :
    codeAny (model prog w) A (.call (.builtin "tuple.__new__") ⟨[.type "tuple", .ref r], []⟩) (wants Q₁ E) s := by
  refine codeAny_of_tree ?_
  show wpAny _ A.in1 (do checkBuiltinCall "tuple.__new__" ⟨[.type "tuple", .ref r], []⟩; again (.builtin "tuple.__new__" ⟨[.type "tuple", .ref r], []⟩)) _ _ s
  refine wpAny_bind (wpAny_of_eq (PySem.F.newCall_tuple_1 _) (wpAny_pure ⟨plainId_quiet PySem.F.plain_tuple_new _, codeAny_builtin PySem.F.entry_tuple_new ?_⟩))
  rw [Around.under_plainId PySem.F.plain_tuple_new _]
  have hsub := sub_tuple_self
  have hinit := init_tuple_lookup
  have hmh := madeHere_tuple
  have hTI : s.TypeIs (.ref r) "dict" := S.type _ hok
  have hh1 : A.in1.handled = none := hh
  wp_walk using wpAny_typeOf hTI, PySem.W.kdu_collect (A := A.in1) S hh1 hok hn
  intro h' tk acc hk hacc
  show wpAny _ _ (Builtin.Tuple.tupleExact acc.toList.toArray >>= fun v => ret v) _ _ _
  unfold Builtin.Tuple.tupleExact
  refine wpAny_bind (wpAny_newObj_type ?_ (by show acc.toList.toArray.size ≤ sizeLine; simp only [Array.toArray_toList]; rw [hacc.1]; exact hn))
  refine wpAny_pure ?_
  have e : acc.toList.toArray = acc := by simp
  rw [e]
  exact h h' tk acc hk hacc
theorem call_tuple_src {Q : Value → Shared → Prop} (S : PySem.W.KdlSrc prog w "dict" r d n P OK) (hh : A.handled = none) (hok : OK s.heap) (hn : n ≤ sizeLine)
    (hQ : ∀ (h' : Heap) (tk : Nat) (acc : Array Value), (∀ b o, s.heap.get? b = some o → h'.get? b = some o) → ItemsOf P acc n →
      Q (.ref h'.objs.size) { s with heap := h'.push { cls := .type "tuple", data := .seq acc }, toks := tk }) :
    wpAny (model prog w) A (call (.type "tuple") [.ref r]) Q E s := by
  refine callType_codes (Q₁ := fun obj s₁ => s₁.TypeIs obj "tuple" ∧ Q obj s₁) PySem.F.called_tuple (PySem.F.typeCall_tuple_1 _) PySem.F.entry_object_init
    (code_tuple_new_src (A := A.in1) S hh hok hn fun h' tk acc hk hacc => ⟨⟨_, Heap.get?_push_size _ rfl, rfl⟩, hQ h' tk acc hk hacc⟩) fun obj s₁ h₁ => ?_
  exact ⟨h₁.1, PySem.F.args_object_init_2 obj _, object_init_meets PySem.F.called_tuple.init.lookup PySem.F.called_tuple.made (by decide) prog w A.in1 _ s₁ ⟨h₁.1, rfl, h₁.2⟩⟩
end
def rTupleK : List V → Hp → VK → Prop := fun xs H Q => ∃ p kvs, xs = [.ref p] ∧ Rd H p (.dK kvs) ∧ ∀ q, H q = none → Q (.ref q) (upd H q (.tup (kvs.map fun kv => kV kv.1)))
theorem call_tuple_dK {X : Cx} (hc : X.calm = true) : CallR X (.type "tuple") rTupleK := by
  intro pins s σ H xs us Q I r h
  obtain ⟨p, kvs, e, hk, q⟩ := h
  subst e
  obtain ⟨u, eu, rx⟩ := vals1 r
  subst eu
  obtain rfl : u = Value.ref p := rx
  obtain ⟨z, lo, vs, rk, hd⟩ := dk_rd I.hok hk
  obtain ⟨ep, hat⟩ := hd.dictAt
  have hl : kvs.length = vs.length := Paired.length rk
  refine call_tuple_src (PySem.W.kdl_dict (knd := mixKind X.prog X.w) (kvs := vs) (ep := ep) lo) (I.ok.hd hc) hat (by rw [← hl]; exact z) fun h' tk acc hk hacc => ?_
  have I1 : Inv X pins σ H { s with heap := h', toks := tk } := I.kept hk
  refine ⟨.ref h'.objs.size, upd H h'.objs.size (.tup (kvs.map fun kv => kV kv.1)), I1.laid (t' := tk) (fun b o e => Heap.get?_push_of_some _ e) (Nat.le_refl _) (show ObjOk X.prog X.w _ _ _ (.tup (kvs.map fun kv => kV kv.1)) from ⟨?_, acc.toList, ?_, ?_⟩), rfl, q _ (I1.hok.fresh (Nat.le_refl _))⟩
  · rw [List.length_map]; exact z
  · have el : acc.toList.length = acc.size := by simp
    refine vals_of_at (by rw [List.length_map, el, hacc.1, hl]) fun j x w h1 h2 => ?_
    obtain ⟨k, y, hky, hi⟩ := hacc.2 j w (by rw [← Array.getElem?_toList]; exact h2)
    have e1 : (kvs.map (·.1))[j]? = some k := by
      rw [KV.keys rk, List.getElem?_map, hky] <;> rfl
    have e2 : (kvs.map fun kv => kV kv.1)[j]? = some (kV k) := by
      have e3 : (kvs.map fun kv => kV kv.1) = (kvs.map (·.1)).map kV := by rw [List.map_map] <;> rfl
      rw [e3, List.getElem?_map, e1] <;> rfl
    rw [e2] at h1
    cases h1
    exact keyIs_rel hi
  · rw [Array.toArray_toList]; exact PyProof.Rows.IsTup.new _ _
end Cs
namespace Cs
open PySem PySem.Spec L2
theorem pi_or {X : Cx} {tg e : Expr} {w1 w2 : TI} (h1 : PI X tg e w1) (h2 : PI X tg e w2) : PI X tg e (fun σ H R => w1 σ H R ∨ w2 σ H R) := by
  refine ⟨fun pins s σ H R I h => ?_⟩
  rcases h with h | h
  · exact h1.run pins s σ H R I h
  · exact h2.run pins s σ H R I h
def iAny (K : PySem.W.Frag) (te : TE) : TI := fun σ H R => iList K te σ H R ∨ (iTup K te σ H R ∨ iStr te σ H R)
theorem pi_any {X : Cx} {tg e : Expr} {te : TE} (h : PE X e te) : PI X tg e (iAny X.K te) := pi_or (pi_list h) (pi_or (pi_tup h) (pi_str h))
def rLeS : R2 := fun x y H Q => ∃ i j, x = .str i ∧ y = .str j ∧ Q (.bl (!decide (j.cps.toList < i.cps.toList))) H
def rSortedDK : List V → Hp → VK → Prop := fun xs H Q => ∃ (a : Addr) (kvs : List (Key × V)) (ks : List Str), xs = [.ref a] ∧ Rd H a (.dK kvs) ∧ kvs.map (·.1) = ks.map Sum.inr ∧ ks.length < 64 ∧
    ∀ ys p, ys.Perm ks → PyProof.Rows.sortedS ys = true → H p = none → Q (.ref p) (upd H p (.lst (ys.map V.str)))
theorem call_sortedDX {X : Cx} (hcalm : X.calm = true) : CallR X (.builtin "sorted") rSortedDK := call_sortedD hcalm
section
variable {K : PySem.W.Frag} {σ : L2.St} {G G' H : Hp} {Q : VK} {E : XK} {vs : List V} {ta tb tc te : TE} {tA : TA} {d x y z : PyData} {v : V}
def isNameS (x : Str) : Bool := decide (0 < x.length) && decide (x.length ≤ 6) && isWord x
end
end Cs
namespace Cs
open PySem PySem.Spec L2
section
variable {K : PySem.W.Frag} {σ : L2.St} {M : Addr → Prop} {G G' G1 G0 H0 H H' H1 : Hp} {Q : VK} {E : XK} {vs : List V} {ta tb tc te tk tv td ty : TE} {tA : TA} {t : TT} {d x y z : PyData} {v : V} {a : Addr} {R : Rp}
def kvsOf (ks : List Str) (vs : List V) : List (Key × V) := List.zipWith (fun k v => ((Sum.inr k : Key), v)) ks vs
def DctRd (K : PySem.W.Frag) (G : Hp) (a : Addr) (ks : List Str) (ds : List PyData) : Prop := ∃ vs, Rd G a (.dK (kvsOf ks vs)) ∧ DpAll K G vs ds ∧ ks.length = ds.length ∧ ks.Nodup
def DctAt (K : PySem.W.Frag) (G : Hp) (a : Addr) (ks : List Str) (ds : List PyData) : Prop := ∃ vs, G a = some (.dK (kvsOf ks vs)) ∧ DpAll K G vs ds ∧ ks.length = ds.length ∧ ks.Nodup
theorem DctAt.rd {ks : List Str} {ds : List PyData} (h : DctAt K G a ks ds) : DctRd K G a ks ds := let ⟨vs, h1, h2⟩ := h; ⟨vs, .inl h1, h2⟩
theorem DctAt.mono {ks : List Str} {ds : List PyData} (e : Same G G') (h : DctAt K G a ks ds) : DctAt K G' a ks ds := let ⟨vs, h1, h2, h3⟩ := h; ⟨vs, e _ _ h1, dpa_mono e _ _ h2, h3⟩
theorem DctRd.mono {ks : List Str} {ds : List PyData} (e : Same G G') (h : DctRd K G a ks ds) : DctRd K G' a ks ds := let ⟨vs, h1, h2, h3⟩ := h; ⟨vs, rd_same e h1, dpa_mono e _ _ h2, h3⟩
def noSeq (o : Option HO) : Prop := ∀ xs, o ≠ some (.lst xs) ∧ o ≠ some (.tup xs) ∧ (∀ f, o ≠ some (.frz f (.lst xs))) ∧ ∀ f, o ≠ some (.frz f (.tup xs))
mutual
theorem dp_butI (e : ∀ b, b ≠ a → G' b = G b) (n : noSeq (G a)) (nd : ∀ kvs, Rd G a (.dK kvs) → Rd G' a (.dK kvs)) : ∀ {d : PyData} {v : V}, Dp K G v d → Dp K G' v d
  | _, _, .non => .non
  | _, _, .bl b => .bl b
  | _, _, .int i => .int i
  | _, _, .str x => .str x
  | _, _, .lst (a := b) (xs := xs) hs ha => by
      refine .lst ?_ (dpa_butI e n nd ha)
      rcases hs with (q | ⟨o, q⟩) | q
      · have ne : b ≠ a := fun z => (n xs).1 (by rw [← z]; exact q)
        exact .inl (.inl ((e b ne).trans q))
      · have ne : b ≠ a := fun z => (n xs).2.2.1 o (by rw [← z]; exact q)
        exact .inl (.inr ⟨o, (e b ne).trans q⟩)
      · exact .inr q
  | _, _, .tup (a := b) (xs := xs) hs ha => by
      refine .tup ?_ (dpa_butI e n nd ha)
      rcases hs with (q | ⟨o, q⟩) | q
      · have ne : b ≠ a := fun z => (n xs).2.1 (by rw [← z]; exact q)
        exact .inl (.inl ((e b ne).trans q))
      · have ne : b ≠ a := fun z => (n xs).2.2.2 o (by rw [← z]; exact q)
        exact .inl (.inr ⟨o, (e b ne).trans q⟩)
      · exact .inr q
  | _, _, .dct (a := b) hr hl hn ha => by
      refine .dct ?_ hl hn (dpa_butI e n nd ha)
      by_cases c : b = a
      · subst c; exact nd _ hr
      · rcases hr with q | ⟨o, q⟩
        · exact .inl ((e b c).trans q)
        · exact .inr ⟨o, (e b c).trans q⟩
theorem dpa_butI (e : ∀ b, b ≠ a → G' b = G b) (n : noSeq (G a)) (nd : ∀ kvs, Rd G a (.dK kvs) → Rd G' a (.dK kvs)) : ∀ {ds : List PyData} {vs : List V}, DpAll K G vs ds → DpAll K G' vs ds
  | _, _, .nil => .nil
  | _, _, .cons h1 h2 => .cons (dp_butI e n nd h1) (dpa_butI e n nd h2)
end
end
end Cs
namespace Cs
open PySem PySem.Spec L2
section
variable {K : PySem.W.Frag} {σ : L2.St} {M : Addr → Prop} {G G' G1 G0 H0 H H' H1 : Hp} {Q : VK} {E : XK} {vs : List V} {ta tb tc te tk tv td ty : TE} {tA : TA} {t : TT} {d x y z : PyData} {v : V} {a : Addr} {R : Rp}
section
variable {J : It} {n : Nat} {Gd : Hp → Prop} {Y : Nat → Hp → V → Hp → Prop}
end
def SortOf (ks ys : List Str) : Prop := ys.Perm ks ∧ PyProof.Rows.sortedS ys = true
end
end Cs
namespace Cs
open PySem PySem.Spec L2
section
variable {K : PySem.W.Frag} {C : Addr} {σ : L2.St} {M : Addr → Prop} {G G' G1 G0 H0 H H' H1 : Hp} {Q : VK} {E : XK} {vs : List V} {ta tb tc te tk tv td ty : TE} {tA : TA} {t : TT} {d x y z : PyData} {v : V} {a : Addr} {R : Rp}
def cf (t d : V) : List (Str × V) := [("kept_given", t), ("kept_named", d)]
def CallAt (K : PySem.W.Frag) (C : Addr) (G : Hp) (v : V) (ds : List PyData) (ks : List Str) (es : List PyData) : Prop := ∃ x dx t d, v = .ref x ∧ G x = some (.ins C dx (cf t (.ref d))) ∧ Dp K G t (.tuple ds) ∧ DctAt K G d ks es
theorem CallAt.mono {ds es : List PyData} {ks : List Str} (e : Same G G') (h : CallAt K C G v ds ks es) : CallAt K C G' v ds ks es := by
  obtain ⟨x, dx, t, d, h1, h2, h3, h4⟩ := h
  exact ⟨x, dx, t, d, h1, e _ _ h2, dp_mono e _ _ h3, h4.mono e⟩
end
end Cs
namespace Cs
open PySem PySem.Spec L2
theorem nat_tri : ∀ l m : List Nat, l < m ∨ l = m ∨ m < l
  | [], [] => .inr (.inl rfl)
  | [], _ :: _ => .inl List.Lex.nil
  | _ :: _, [] => .inr (.inr List.Lex.nil)
  | a :: l, b :: m => by
    rcases Nat.lt_trichotomy a b with h | h | h
    · exact .inl (List.Lex.rel h)
    · subst h
      rcases nat_tri l m with h | h | h
      · exact .inl (List.Lex.cons h)
      · exact .inr (.inl (by rw [h]))
      · exact .inr (.inr (List.Lex.cons h))
    · exact .inr (.inr (List.Lex.rel h))
theorem str_eq {x y : Str} (h : x.cps.toList = y.cps.toList) : x = y := PySem.W.str_of_cps h
theorem perm_sorted_eq {α : Type} {r : α → α → Prop} (anti : ∀ a b, r a b → r b a → a = b) : ∀ {l m : List α}, l.Perm m → l.Pairwise r → m.Pairwise r → l = m
  | [], m, h, _, _ => (List.nil_perm.mp h).symm
  | a :: l, [], h, _, _ => absurd h.symm (by simp)
  | a :: l, b :: m, h, hl, hm => by
    have e : a = b := by
      have ha : a ∈ b :: m := h.mem_iff.mp List.mem_cons_self
      have hb : b ∈ a :: l := h.mem_iff.mpr List.mem_cons_self
      rcases List.mem_cons.mp ha with q | q
      · exact q
      · rcases List.mem_cons.mp hb with k | k
        · exact k.symm
        · exact anti a b ((List.pairwise_cons.mp hl).1 b k) ((List.pairwise_cons.mp hm).1 a q)
    subst e
    rw [perm_sorted_eq anti (List.perm_cons a |>.mp h) (List.pairwise_cons.mp hl).2 (List.pairwise_cons.mp hm).2]
def LeT (a b : Str) : Prop := ¬ (b.cps.toList < a.cps.toList)
theorem leT_trans {a b c : Str} (h : LeT a b) (k : LeT b c) : LeT a c := fun z => by
  rcases nat_tri a.cps.toList b.cps.toList with q | q | q
  · exact k (List.lt_trans z q)
  · exact k (by rw [← q]; exact z)
  · exact h q
theorem leT_anti (a b : Str) (h : LeT a b) (k : LeT b a) : a = b := by
  rcases nat_tri a.cps.toList b.cps.toList with q | q | q
  · exact absurd q k
  · exact str_eq q
  · exact absurd q h
theorem rising_pw : ∀ {r : List Str} {p : Str}, PyProof.Rows.risingS p r = true → (p :: r).Pairwise LeT
  | [], p, _ => List.pairwise_singleton _ _
  | x :: r, p, h => by
    unfold PyProof.Rows.risingS at h
    rw [Bool.and_eq_true, PyProof.Rows.ltCps_eq] at h
    have h1 : LeT p x := by
      intro z
      rw [decide_eq_true z] at h
      cases h.1
    have ih := rising_pw (r := r) (p := x) h.2
    refine List.pairwise_cons.mpr ⟨fun y hy => ?_, ih⟩
    rcases List.mem_cons.mp hy with rfl | hy
    · exact h1
    · exact leT_trans h1 ((List.pairwise_cons.mp ih).1 y hy)
theorem sorted_pw : ∀ {l : List Str}, PyProof.Rows.sortedS l = true → l.Pairwise LeT
  | [], _ => List.Pairwise.nil
  | _ :: _, h => rising_pw h
theorem sort_same {ks ys : List Str} (h : SortOf ks ys) (hk : PyProof.Rows.sortedS ks = true) : ys = ks := perm_sorted_eq leT_anti h.1 (sorted_pw h.2) (sorted_pw hk)
section
variable {K : PySem.W.Frag} {C : Addr} {σ : L2.St} {M : Addr → Prop} {G G' G1 G0 H0 H H' H1 : Hp} {Q : VK} {E : XK} {vs : List V} {ta tb tc te tk tv td ty : TE} {tA : TA} {t : TT} {d x y z : PyData} {v : V} {a : Addr} {R R' Z : Rp} {k k1 k2 : Nat}
def drawn (n : Int) : Rp := fun _ v => ∃ r : Int, v = .int r ∧ 0 ≤ r ∧ r < n
end
end Cs
namespace Cs
open PySem PySem.Spec L2
section
variable {K : PySem.W.Frag} {C : Addr} {σ : L2.St} {M : Addr → Prop} {G G' G1 G0 H0 H H' H1 : Hp} {Q : VK} {E : XK} {vs : List V} {ta tb tc te tk tv td ty : TE} {tA : TA} {t : TT} {d x y z : PyData} {v : V} {a : Addr} {R R' Z : Rp} {k k1 k2 : Nat}
end
end Cs
namespace Cs
open PySem PySem.Spec L2
section
variable {K : PySem.W.Frag} {C : Addr} {M : Addr → Prop} {G G' G1 G0 H0 H H' H1 : Hp} {Q : VK} {E : XK} {vs : List V} {D : Ends} {v w : V} {a : Addr} {n m : Int} {ws us : List Str}
def spLaw (K : PySem.W.Frag) : Sp := fun vs H Q _ => ∃ (a : Addr) (ns : List Int), vs = [.ref a] ∧ SqL K H a (ns.map V.int) ∧ ns.length ≤ 63 ∧ ∀ H', Q (.bl true) H'
end
end Cs
namespace Cs
open PySem PySem.Spec L2
section
variable {K : PySem.W.Frag} {vs : List V} {H : Hp} {Q : V → Hp → Prop} {E : XK}
end
end Cs
namespace Cs
open PySem PySem.Spec L2 PyProof.Rows
section
variable {X : Cx} {pins : List (Addr × Obj)} {σ : L2.St} {H : Hp} {s : Shared}
theorem kv_parts : ∀ {ks : List Key} {xs : List V} {vs : List (Key × Value)}, ks.length = xs.length → KV (kvL ks xs) vs → vs.map (·.1) = ks ∧ Vals xs (vs.map (·.2))
  | [], [], _, _, h => by cases h; exact ⟨rfl, .nil⟩
  | k :: ks, x :: xs, _, hl, h => by
    cases h with
    | cons h1 h2 =>
      obtain ⟨e1, e2⟩ := kv_parts (Nat.succ.inj hl) h2
      obtain ⟨rfl, r⟩ := h1
      exact ⟨by rw [List.map_cons, e1], .cons r e2⟩
  | [], _ :: _, _, hl, _ => by cases hl
  | _ :: _, [], _, hl, _ => by cases hl
theorem keyIs_data {k : Key} {u : Value} (h : keyIs k u = true) : (∃ as, ∀ hp, Reads hp u (keyD k) as) := by
  rcases keyIs_shape h with ⟨i, t, rfl, rfl⟩ | ⟨x, t, rfl, rfl⟩
  · exact ⟨_, fun _ => Reads.int i t⟩
  · exact ⟨_, fun _ => Reads.str x t⟩
theorem keyIs_shown {k : Key} {u : Value} (h : keyIs k u = true) (hs : (keyD k).showable = true) (hz : (keyD k).shown.length ≤ sizeLine) (bs : List Addr) (hp : Heap) (n : Nat) : ReprK X.prog X.w bs hp n u (keyD k).shown := by
  rcases keyIs_shape h with ⟨i, t, rfl, rfl⟩ | ⟨x, t, rfl, rfl⟩
  · simp only [keyD, PyData.shown]
    exact .of_is (ReprIs.int t (by simpa [keyD, PyData.showable] using hs)) _ _ _
  · simp only [keyD, PyData.shown]
    exact .of_is (ReprIs.str x t (by simpa only [keyD, PyData.shown] using hz)) _ _ _
theorem pairs_vals : ∀ {es : List DictEntry} {vs : List (Key × Value)}, Pairs (mixKind X.prog X.w) es vs → es.map (·.val) = vs.map (·.2)
  | _, _, .nil => rfl
  | _, _, .cons _ e h => by rw [List.map_cons, List.map_cons, pairs_vals h, e]
theorem keys_read (hp : Heap) : ∀ {es : List DictEntry} {vs : List (Key × Value)}, Pairs (mixKind X.prog X.w) es vs → ∃ as, ReadsAll hp (es.map (·.key)) ((vs.map (·.1)).map keyD) as
  | _, _, .nil => ⟨_, .nil⟩
  | _, _, .cons k _ h => by
    obtain ⟨as, r⟩ := keyIs_data (show keyIs _ _ = true from k)
    obtain ⟨bs, q⟩ := keys_read hp h
    exact ⟨_, .cons (r hp) q⟩
theorem keys_shown (hp : Heap) (bs : List Addr) (n : Nat) : ∀ {es : List DictEntry} {vs : List (Key × Value)}, Pairs (mixKind X.prog X.w) es vs → PyData.showableAll ((vs.map (·.1)).map keyD) = true → (∀ t ∈ PyData.shownAll ((vs.map (·.1)).map keyD), t.length ≤ sizeLine) →
    ReprAllK X.prog X.w bs hp n (es.map (·.key)) (PyData.shownAll ((vs.map (·.1)).map keyD))
  | _, _, .nil, _, _ => by simp only [List.map_nil, PyData.shownAll]; exact .nil
  | _, _, .cons (kv := kv) (kvs := kvs) k _ h, hs, hz => by
    simp only [List.map_cons, PyData.shownAll, PyData.showableAll, Bool.and_eq_true] at hs hz ⊢
    exact .cons (keyIs_shown (show keyIs _ _ = true from k) hs.1 (hz _ (List.mem_cons_self ..)) _ _ _) (keys_shown hp bs n h hs.2 fun t ht => hz t (List.mem_cons_of_mem _ ht))
theorem dct_keys : ∀ {ks : List Key} {ds : List PyData}, ks.length = ds.length → (dctD ks ds).map (·.1) = ks.map keyD
  | [], [], _ => rfl
  | k :: ks, d :: ds, h => by
    show keyD k :: (dctD ks ds).map (·.1) = _
    rw [dct_keys (Nat.succ.inj h)]; rfl
  | [], _ :: _, h => by cases h
  | _ :: _, [], h => by cases h
theorem dct_vals : ∀ {ks : List Key} {ds : List PyData}, ks.length = ds.length → (dctD ks ds).map (·.2) = ds
  | [], [], _ => rfl
  | k :: ks, d :: ds, h => by
    show d :: (dctD ks ds).map (·.2) = _
    rw [dct_vals (Nat.succ.inj h)]
  | [], _ :: _, h => by cases h
  | _ :: _, [], h => by cases h
def Shows (P : Program) (w : World) (h : Heap) (u : Value) (d : PyData) : Prop := (∃ as, Reads h u d as) ∧ (d.showable = true → d.shown.length ≤ sizeLine → ∃ bs, ReadAtMost h d.depth bs ∧ ReprK P w bs h d.depth u d.shown)
def ShowsAll (P : Program) (w : World) (h : Heap) (us : List Value) (ds : List PyData) : Prop := (∃ as, ReadsAll h us ds as) ∧
  (PyData.showableAll ds = true → (∀ t ∈ PyData.shownAll ds, t.length ≤ sizeLine) → ∃ bs, ReadAtMost h (PyData.depthAll ds) bs ∧ ReprAllK P w bs h (PyData.depthAll ds) us (PyData.shownAll ds))
mutual
theorem Dp.shows (I : Inv X pins σ H s) : ∀ {d : PyData} {v : V}, Dp X.K H v d → ∀ {u : Value}, RelV v u → Shows X.prog X.w s.heap u d
  | _, _, .non, _, r => by
    cases r
    exact ⟨⟨_, .none⟩, fun _ _ => ⟨[], (fun _ h => nomatch h), by simp only [PyData.shown]; exact .of_is ReprIs.none _ _ _⟩⟩
  | _, _, .bl b, _, r => by
    cases r
    exact ⟨⟨_, .bool b⟩, fun _ _ => ⟨[], (fun _ h => nomatch h), by simp only [PyData.shown]; exact .of_is (ReprIs.bool b) _ _ _⟩⟩
  | _, _, .int i, _, r => by
    obtain ⟨t, rfl⟩ := r
    exact ⟨⟨_, .int i t⟩, fun q _ => ⟨[], (fun _ h => nomatch h), by simp only [PyData.shown]; exact .of_is (ReprIs.int t (by simpa [PyData.showable] using q)) _ _ _⟩⟩
  | _, _, .str x, _, r => by
    obtain ⟨t, rfl⟩ := r
    exact ⟨⟨_, .str x t⟩, fun _ z => ⟨[], (fun _ h => nomatch h), by simp only [PyData.shown]; exact .of_is (ReprIs.str x t (by simpa only [PyData.shown] using z)) _ _ _⟩⟩
  | _, _, .lst (ds := ds) hs ha, _, r => by
    cases r
    obtain ⟨its, rv, ⟨o, n, ho, hc, _, hd⟩, _⟩ := I.list hs
    obtain ⟨⟨as, hr⟩, sh⟩ := DpAll.shows I ha rv
    have rd : Reads s.heap _ (.list ds) _ := Reads.list ho hc hd hr
    refine ⟨⟨_, rd⟩, fun q z => ?_⟩
    have z2 : (listText (PyData.shownAll ds)).length ≤ sizeLine := by simpa only [PyData.shown] using z
    obtain ⟨bs, hb, hk⟩ := sh (by simpa [PyData.showable] using q) fun t ht => Nat.le_trans (listText_mem_le ht) z2
    have na := not_mem_of_deeper rd (by simp only [PyData.depth]; omega) hb
    refine ⟨_, ReadAtMost.cons rd (by simp only [PyData.depth]; omega) hb, ?_⟩
    simp only [PyData.depth, PyData.shown]
    cases its with
    | nil =>
      cases hr
      simp only [PyData.shownAll, listText_nil]
      exact ReprK.listEmpty ho hc hd
    | cons x l => exact ReprK.list ho hc hd na (by simpa using hk.length_eq) (fun i y e => hk.item i y (by simpa using e))
  | _, _, .tup (ds := ds) hs ha, _, r => by
    cases r
    obtain ⟨its, rv, ⟨o, ho, hc, n, hd⟩, _⟩ := I.tuple hs
    obtain ⟨⟨as, hr⟩, sh⟩ := DpAll.shows I ha rv
    have rd : Reads s.heap _ (.tuple ds) _ := Reads.tuple ho hc hd hr
    refine ⟨⟨_, rd⟩, fun q z => ?_⟩
    have z2 : (tupleText (PyData.shownAll ds)).length ≤ sizeLine := by simpa only [PyData.shown] using z
    obtain ⟨bs, hb, hk⟩ := sh (by simpa [PyData.showable] using q) fun t ht => Nat.le_trans (tupleText_mem_le ht) z2
    have na := not_mem_of_deeper rd (by simp only [PyData.depth]; omega) hb
    refine ⟨_, ReadAtMost.cons rd (by simp only [PyData.depth]; omega) hb, ?_⟩
    simp only [PyData.depth, PyData.shown]
    exact ReprK.tuple ho hc hd na hk
  | _, _, .dct (a := a) (ks := ks) (xs := xs) (ds := ds) hr hl hn ha, _, r => by
    cases r
    have hl2 : ks.length = ds.length := by rw [hl, dpa_len ha]
    obtain ⟨_, hsys, vs, kv, o, es, ep, ho, ⟨hc, _, _⟩, hdat, _, hp, _⟩ := dk_rd I.hok hr
    obtain ⟨e1, rv⟩ := kv_parts hl kv
    have ev := pairs_vals hp
    rw [← ev] at rv
    obtain ⟨⟨b2, rd2⟩, sh⟩ := DpAll.shows I ha rv
    obtain ⟨b1, rd1⟩ := keys_read s.heap hp
    rw [e1] at rd1
    have rd : Reads s.heap (.ref a) (.dict (dctD ks ds)) _ := Reads.dict ho hc hdat (by rw [dct_keys hl2]; exact rd1) (by rw [dct_vals hl2]; exact rd2)
    refine ⟨⟨_, rd⟩, fun q z => ?_⟩
    have z2 : (dictText (PyData.shownKv (dctD ks ds))).length ≤ sizeLine := by simpa only [PyData.shown] using z
    obtain ⟨s1, s2⟩ := PyData.showableKv_split _ (show PyData.showableKv (dctD ks ds) = true by simpa [PyData.showable] using q)
    obtain ⟨bs, hb, hk⟩ := sh (by rw [dct_vals hl2] at s2; exact s2) fun t ht => by
      obtain ⟨p, hp, hpl⟩ := PyData.shownKv_val_le (dctD ks ds) t (by rw [dct_vals hl2]; exact ht)
      exact Nat.le_trans hpl (Nat.le_trans (dictText_mem_le hp) z2)
    have kk := keys_shown s.heap bs (PyData.depthKv (dctD ks ds)) hp (by rw [e1, ← dct_keys hl2]; exact s1) fun t ht => by
      rw [e1, ← dct_keys hl2] at ht
      obtain ⟨p, hp, hpl⟩ := PyData.shownKv_key_le (dctD ks ds) t ht
      exact Nat.le_trans hpl (Nat.le_trans (dictText_mem_le hp) z2)
    have dv : PyData.depthAll ds ≤ PyData.depthKv (dctD ks ds) := by
      have := PyData.depthAll_vals_le (dctD ks ds)
      rwa [dct_vals hl2] at this
    have hb2 := hb.mono dv
    have na := not_mem_of_deeper rd (by simp only [PyData.depth]; omega) hb2
    refine ⟨_, ReadAtMost.cons rd (by simp only [PyData.depth]; omega) hb2, ?_⟩
    simp only [PyData.depth, PyData.shown, PyData.shownKv_eq]
    rw [dct_keys hl2, dct_vals hl2]
    rw [e1] at kk
    exact ReprK.dict ho hc hdat hsys na (ReprEntriesK.of_two es.toList _ _ kk (hk.more_le (fun _ h => h) dv))
theorem DpAll.shows (I : Inv X pins σ H s) : ∀ {ds : List PyData} {vs : List V}, DpAll X.K H vs ds → ∀ {us : List Value}, Vals vs us → ShowsAll X.prog X.w s.heap us ds
  | _, _, .nil, _, r => by
    cases r
    exact ⟨⟨_, .nil⟩, fun _ _ => ⟨[], (fun _ h => nomatch h), by simp only [PyData.shownAll]; exact .nil⟩⟩
  | _, _, .cons (d := d) (ds := ds) h1 h2, _, r => by
    cases r with
    | cons r1 r2 =>
      obtain ⟨⟨as, q1⟩, k1⟩ := Dp.shows I h1 r1
      obtain ⟨⟨bs, q2⟩, k2⟩ := DpAll.shows I h2 r2
      refine ⟨⟨_, .cons q1 q2⟩, fun q z => ?_⟩
      have q' : d.showable = true ∧ PyData.showableAll ds = true := by simpa [PyData.showableAll] using q
      simp only [PyData.shownAll] at z
      obtain ⟨c1, m1, w1⟩ := k1 q'.1 (z _ (List.mem_cons_self ..))
      obtain ⟨c2, m2, w2⟩ := k2 q'.2 fun t ht => z t (List.mem_cons_of_mem _ ht)
      simp only [PyData.depthAll, PyData.shownAll]
      exact ⟨c1 ++ c2, (m1.mono (Nat.le_max_left _ _)).append (m2.mono (Nat.le_max_right _ _)),
        .cons ((w1.more fun b hb => List.mem_append_left _ hb).level_le (Nat.le_max_left _ _)) (w2.more_le (fun b hb => List.mem_append_right _ hb) (Nat.le_max_right _ _))⟩
end
def rReprD (K : PySem.W.Frag) : List V → Hp → VK → Prop := fun xs H Q => ∃ v d, xs = [v] ∧ Dp K H v d ∧ d.showable = true ∧ d.shown.length ≤ sizeLine ∧ d.depth ≤ 64 ∧ Q (.str d.shown) H
theorem call_reprD (hg : X.A.guards = some []) (hu : X.A.units + 66 < cLine) : CallR X (.builtin "repr") (rReprD X.K) := by
  intro pins s σ H xs us Q I r h
  obtain ⟨v, d, rfl, hd, hs, hz, hdp, q⟩ := h
  obtain ⟨u, rfl, ru⟩ := vals1 r
  have fin : ∀ (h' : Heap) (t tk : Tok), (∀ b o, s.heap.get? b = some o → h'.get? b = some o) → ∃ x t', Value.str d.shown t = .str x t' ∧ EP X pins σ Q (.str d.shown t) { s with heap := h', toks := tk } := fun h' t tk k =>
    ⟨_, _, rfl, .str d.shown, H, I.kept (t' := tk) k, ⟨_, rfl⟩, q⟩
  cases hd with
  | non =>
    cases ru
    simp only [PyData.shown] at q
    exact PySem.P.repr_of_none ⟨.str _, H, I.tok _, ⟨_, rfl⟩, q⟩
  | bl b =>
    cases ru
    simp only [PyData.shown] at q
    exact PySem.P.repr_of_bool ⟨.str _, H, I.tok _, ⟨_, rfl⟩, by cases b <;> exact q⟩
  | int i =>
    obtain ⟨t, rfl⟩ := ru
    simp only [PyData.shown] at q
    exact PySem.P.repr_of_int (by simpa [PyData.showable] using hs) ⟨.str _, H, I.tok _, ⟨_, rfl⟩, q⟩
  | str x =>
    obtain ⟨t, rfl⟩ := ru
    simp only [PyData.shown] at q hz
    exact PySem.P.repr_of_str ⟨.str _, H, I.tok _, ⟨_, rfl⟩, q⟩ hz
  | lst hs1 ha =>
    rename_i a xs ds
    cases ru
    obtain ⟨its, rv, ⟨o, n, ho, hc, _, hdt⟩, _⟩ := I.list hs1
    obtain ⟨⟨as, hr⟩, sh⟩ := DpAll.shows I ha rv
    have rd : Reads s.heap (.ref a) (.list ds) _ := Reads.list ho hc hdt hr
    have z2 : (listText (PyData.shownAll ds)).length ≤ sizeLine := by simpa only [PyData.shown] using hz
    obtain ⟨bs, hb, hk⟩ := sh (by simpa [PyData.showable] using hs) fun t ht => Nat.le_trans (listText_mem_le ht) z2
    have na := not_mem_of_deeper rd (by simp only [PyData.depth]; omega) hb
    simp only [PyData.shown] at fin
    simp only [PyData.depth] at hdp
    refine call_repr_slot (by omega) ⟨_, ho, hc⟩ F.slot_list_repr.toG ?_
    cases its with
    | nil =>
      cases hr
      simp only [PyData.shownAll, listText_nil] at fin
      exact call_list_repr_empty ⟨_, ho, hc⟩ ho hdt (fin s.heap _ _ fun _ _ e => e)
    | cons x l =>
      exact call_list_reprK ho hc hdt na (by simpa using hk.length_eq) (fun i y e => hk.item i y (by simpa using e)) (show X.A.in1.guards = some [] from hg) (fun b _ => Clear.nil b) (by show X.A.units + 1 + _ < cLine; omega) (fun _ _ e => e) (fun h' t tk k => fin h' t tk k) z2
  | tup hs1 ha =>
    rename_i a xs ds
    cases ru
    obtain ⟨its, rv, ⟨o, ho, hc, n, hdt⟩, _⟩ := I.tuple hs1
    obtain ⟨⟨as, hr⟩, sh⟩ := DpAll.shows I ha rv
    have rd : Reads s.heap (.ref a) (.tuple ds) _ := Reads.tuple ho hc hdt hr
    have z2 : (tupleText (PyData.shownAll ds)).length ≤ sizeLine := by simpa only [PyData.shown] using hz
    obtain ⟨bs, hb, hk⟩ := sh (by simpa [PyData.showable] using hs) fun t ht => Nat.le_trans (tupleText_mem_le ht) z2
    have na := not_mem_of_deeper rd (by simp only [PyData.depth]; omega) hb
    simp only [PyData.shown] at fin
    simp only [PyData.depth] at hdp
    refine call_repr_slot (by omega) ⟨_, ho, hc⟩ F.slot_tuple_repr ?_
    exact call_tuple_reprK ho hc hdt na hk (show X.A.in1.guards = some [] from hg) (fun b _ => Clear.nil b) (by show X.A.units + 1 + _ < cLine; omega) (fun _ _ e => e) (fun h' t tk k => fin h' t tk k) z2
  | dct hr1 hl hn ha =>
    rename_i a ks xs ds
    cases ru
    have sh := Dp.shows I (.dct hr1 hl hn ha) (u := .ref a) rfl
    obtain ⟨as, rd⟩ := sh.1
    have hl2 : ks.length = ds.length := by rw [hl, dpa_len ha]
    obtain ⟨_, hsys, vs, kv, o, es, ep, ho, ⟨hc, _, _⟩, hdat, _, hp, _⟩ := dk_rd I.hok hr1
    obtain ⟨e1, rv⟩ := kv_parts hl kv
    rw [← pairs_vals hp] at rv
    obtain ⟨_, sh2⟩ := DpAll.shows I ha rv
    have z2 : (dictText (PyData.shownKv (dctD ks ds))).length ≤ sizeLine := by simpa only [PyData.shown] using hz
    obtain ⟨s1, s2⟩ := PyData.showableKv_split _ (show PyData.showableKv (dctD ks ds) = true by simpa [PyData.showable] using hs)
    obtain ⟨bs, hb, hk⟩ := sh2 (by rw [dct_vals hl2] at s2; exact s2) fun t ht => by
      obtain ⟨p, hp, hpl⟩ := PyData.shownKv_val_le (dctD ks ds) t (by rw [dct_vals hl2]; exact ht)
      exact Nat.le_trans hpl (Nat.le_trans (dictText_mem_le hp) z2)
    have kk := keys_shown s.heap bs (PyData.depthKv (dctD ks ds)) hp (by rw [e1, ← dct_keys hl2]; exact s1) fun t ht => by
      rw [e1, ← dct_keys hl2] at ht
      obtain ⟨p, hp, hpl⟩ := PyData.shownKv_key_le (dctD ks ds) t ht
      exact Nat.le_trans hpl (Nat.le_trans (dictText_mem_le hp) z2)
    have dv : PyData.depthAll ds ≤ PyData.depthKv (dctD ks ds) := by
      have := PyData.depthAll_vals_le (dctD ks ds)
      rwa [dct_vals hl2] at this
    have na := not_mem_of_deeper rd (by simp only [PyData.depth]; omega) (hb.mono dv)
    rw [e1] at kk
    have hE := ReprEntriesK.of_two es.toList _ _ kk (hk.more_le (fun _ h => h) dv)
    have et : PyData.shownKv (dctD ks ds) = List.zipWith (fun k v : Str => k ++ ": " ++ v) (PyData.shownAll (ks.map keyD)) (PyData.shownAll ds) := by rw [PyData.shownKv_eq, dct_keys hl2, dct_vals hl2]
    simp only [PyData.shown] at fin
    simp only [PyData.depth] at hdp
    rw [et] at fin z2
    refine call_repr_slot (by omega) ⟨_, ho, hc⟩ F.slot_dict_repr ?_
    exact call_dict_reprK ho hc hdat hsys na hE (show X.A.in1.guards = some [] from hg) (fun b _ => Clear.nil b) (by show X.A.units + 1 + _ < cLine; omega) (fun _ _ e => e) (fun h' t tk k => fin h' t tk k) z2
end
end Cs
namespace Cs
open PySem PySem.Spec L2 PyProof.Rows
section
variable {P : Program} {w : World} {K : PySem.W.Frag} {mg mb : Str → Option Value} {base : Heap} {CX : CXT} {j k : Nat} {f fa a : Addr} {fd : FuncData} {N ps : List Str} {sp : Sp} {x qual : Str} {st : Stmt}
structure FnG (P : Program) (w : World) (K : PySem.W.Frag) (mg : Str → Option Value) (base : Heap) (CX : CXT) (k : Nat) (f : Addr) (fd : FuncData) (ps : List Str) (sp : Sp) : Prop where
  many : ∀ vs H Q E, sp vs H Q E → vs.length = ps.length
  goes : ∀ (A : Around) (out : List Env) (s : Shared) (H : Hp) (ar : Args) (us : List Value) (vs : List V) (Q : VK) (E : XK), A.guards = some [] → Room k A → Env0 P w K mg base A out s H → BindsTo s fd ar (ps.zip us) → Vals vs us → sp vs H Q E →
    codeAny (model P w) A (.call (.ref f) ar) (CR CX out P w H s Q E) s
theorem FnOk.g (F : FnOk P w K mg base CX k f fd ps sp) : FnG P w K mg base CX k f fd ps sp := ⟨F.len, fun A out s H ar us vs Q E _ => F.run A out s H ar us vs Q E⟩
theorem Fun.okG (F : Fun K x qual st f fd) (S : FnScope N ps (defScope st)) (many : ∀ vs H Q E, sp vs H Q E → vs.length = ps.length)
    (inner : ∀ (cdv : Value) (A : Around) (out : List Env) (s : Shared) (H : Hp) (vs : List V) (Q : VK) (E : XK), A.guards = some [] → Room k (A.deeper (envOfC qual (defScope st) s.heap.objs.size f cdv)) → sp vs H Q E →
      ∃ t, PSs (cxOf CX0 P w K mg base N qual (defScope st) f cdv A out s H E).nox (defBody st) t ∧ t { nx := fun _ H' => Q .non H', rt := Q } (start N vs) H) : FnG P w K mg base CX0 (k + 1) f fd ps sp := by
  obtain ⟨oc, od, kV, doc, pm, an, cdv, ct, osl, e, lk, hcd⟩ := F.ex
  subst e
  refine ⟨many, fun A out s H ar us vs Q E hg room e0 hb r hsp => ?_⟩
  have old : ∀ b o, base.get? b = some o → s.heap.get? b = some o := fun b o z => (e0.bs b o z).1
  have inK : K.In s.heap := e0.mod.kin.keeps old
  have kinds : ∀ y ∈ ps.zip us, (defScope st).names.lookup y.1 = some .local ∨ ((defScope st).names.lookup y.1 = some .cell ∧ ((cellsFrom (s.heap.objs.size + 1) (defScope st).names []).lookup y.1).isSome = true) := by
    rintro ⟨n, v⟩ hy
    exact (S.par n (List.of_mem_zip hy).1).imp id fun q => ⟨q, PySem.W.cellsFrom_some _ _ _ (.inl q)⟩
  refine codeAny_call_function room.depth (inK _ _ lk) rfl S.co S.gen rfl (PySem.W.codeRec_of inK hcd) (hb _ _ _ _ (wpAny_newFunctionEnv_cells S.kind kinds fun env he s1 x => ?_))
  subst he
  refine ⟨(e0.mod.nolimit.keeps old).keeps x.toInCall.keep, codeAny_func ?_⟩
  obtain ⟨t, ht, hq⟩ := inner cdv A out s H vs Q E hg (room.deeper _) hsp
  have I0 := inv_start (CX := CX0) S room.hd e0 (many _ _ _ _ hsp) r x (E := E)
  refine wpAny_mono (ht.nox.run [] s1 (start N vs) H _ I0 hq) (fun fl s' hs => ?_) fun e s' hs => hs
  cases fl with
  | ret u =>
    obtain ⟨v, σ', H', J, rv, q⟩ := hs
    exact ⟨v, H', J.os, J.bare, J.base, J.hok, rv, q⟩
  | next =>
    obtain ⟨σ', H', J, q⟩ := hs
    exact ⟨V.non, H', J.os, J.bare, J.base, J.hok, rfl, q⟩
  | brk => exact hs.choose_spec.choose_spec.2.elim
  | cont => exact hs.choose_spec.choose_spec.2.elim
end
section
variable {X : Cx} {CX : CXT} {k : Nat} {f : Addr} {fd : FuncData} {ps : List Str} {ds : List Value} {dvs : List V} {sp : Sp} {E : XK} {x : Str} {e : Expr} {es : List Expr} {t : TA} {p pos : Pos}
end
section
variable {P : Program} {w : World} {K : PySem.W.Frag} {mg mb : Str → Option Value} {CX : CXT} {k : Nat} {fa a : Addr} {fd : FuncData} {x : Str} {sp : Sp} {s₁ : Shared} {vs : List Value} {ns : List Int}
abbrev lawEnd (s₁ : Shared) : Result → Shared → Prop := fun r s' => r = .ok (.ret (.bool true)) ∧ OldK s₁.heap s'.heap ∧ s'.os = s₁.os ∧ AllBare s'.gens
end
end Cs
namespace Cs
open PySem PySem.Spec L2 PyProof.Rows
def XO (cls : Value) (d : Option Addr) (a : Addr) : HO := .ext fun h => ∃ (oe : Obj) (vs : Array Value), h.get? a = some oe ∧ Zc cls d oe ∧ oe.data = .fields vs
theorem xo_ok {P : Program} {w : World} {H : Hp} {h : Heap} {a : Addr} {cls : Value} {d : Option Addr} {oe : Obj} {vs : Array Value} (e : h.get? a = some oe) (z : Zc cls d oe) (q : oe.data = .fields vs) : ObjOk P w H h a (XO cls d a) :=
  ⟨⟨oe, vs, e, z, q⟩, ⟨oe, e⟩, fun _ _ ⟨o, v, e', r⟩ k => ⟨o, v, k o e', r⟩⟩
theorem xo_at {P : Program} {w : World} {H : Hp} {h : Heap} {a : Addr} {cls : Value} {d : Option Addr} (hok : HOk P w H h) (e : H a = some (XO cls d a)) : ∃ (oe : Obj) (vs : Array Value), h.get? a = some oe ∧ Zc cls d oe ∧ oe.data = .fields vs :=
  (show ObjOk P w H h a (.ext fun h => ∃ (oe : Obj) (vs : Array Value), h.get? a = some oe ∧ Zc cls d oe ∧ oe.data = .fields vs) from hok a _ e).1
section
variable {X : Cx} {pins : List (Addr × Obj)} {σ σ0 : L2.St} {H H0 : Hp} {s s0 : Shared} {a : Addr} {cls : Value} {d : Option Addr} {oe : Obj} {vs : Array Value}
theorem trackX (I0 : Inv X pins σ0 H0 s0) (new : s0.heap.get? a = none) (I : Inv X pins σ H s) (he : s.heap.get? a = some oe) (hz : Zc cls d oe) (hd : oe.data = .fields vs) (hn : H a = none) (nL : a ≠ X.env.locals) : Inv X pins σ (upd H a (XO cls d a)) s := by
  have isOld : ∀ {b : Addr} {o : Obj}, s0.heap.get? b = some o → b ≠ a := fun q z => by rw [z, new] at q; cases q
  have notA : ∀ {b : Addr} {o : HO}, H b = some o → b ≠ a := fun q z => by rw [z, hn] at q; cases q
  have B := I.base
  refine ⟨I.ok, I.os, I.bare, ⟨B.keep, B.slot, fun b o e n hx => ?_, B.there, fun b xs e => ?_, fun b o u e => ?_, fun b ps e => ?_⟩, I.loc, I.cell, ?_, fun x c e => ?_, fun p hp => ?_, fun b u e => ?_, I.len⟩
  · obtain ⟨o', q⟩ := I0.base.there b o e hx
    rw [upd_ne (isOld q)]
    exact B.free b o e n hx
  · have q := B.tups b xs e
    rw [upd_ne (notA q)]; exact q
  · have q := B.frzs b o u e
    rw [upd_ne (notA q)]; exact q
  · obtain ⟨m, q⟩ := B.tbls b ps e
    exact ⟨m, by rw [upd_ne (notA q)]; exact q⟩
  · rw [upd_ne (Ne.symm nL)]; exact I.free
  · obtain ⟨v, o, q, _⟩ := I0.cell x c e
    rw [upd_ne (isOld q)]; exact I.freeC x c e
  · obtain ⟨q, n, r⟩ := I.pin p hp
    refine ⟨q, ?_, r⟩
    rw [upd_ne (isOld (I0.pin p hp).1)]; exact n
  · by_cases c : b = a
    · subst c
      rw [upd_same] at e
      cases e
      exact xo_ok he hz hd
    · rw [upd_ne c] at e
      exact (I.hok b u e).stay (fun _ _ _ q => q) (fun c q => by rw [upd_ne (notA q)]; exact q) fun c xs q => by rw [upd_ne (notA q)]; exact q
end
def wKeep (K : PySem.W.Frag) (c : Value) (i : Nat) (ts : Addr → Value → Option Addr → TS) (Wout : WX) (D : Ends) : WX := fun cls d σ H =>
  ∃ b, PySem.W.exmOne K cls c = some b ∧ (b = true → ∀ a, H a = none → ts a cls d { nx := fun σ' H' => H' a = none → D.nx (σ'.set i none) (upd H' a (XO cls d a)), rt := D.rt, bk := fun σ' H' => D.bk (σ'.set i none) H', ct := fun σ' H' => D.ct (σ'.set i none) H' } (σ.set i (some (.ref a))) H) ∧
    (b = false → Wout cls d σ H)
section
variable {X : Cx} {x n : Str} {c : Value} {i : Nat} {body suite : List Stmt} {b₀ : Stmt} {np pos pos' : Pos} {tb : WX → TS} {ts : Addr → Value → Option Addr → TS} {Wout : WX}
theorem ps_try_keep (hs : X.stack = X.env :: X.outer) (hf : X.env.frame = some X.env.locals) (hN : X.N.Nodup) (hi : X.N[i]? = some n) (hln : X.env.kindOf n = some .local) (hc : Names X x c) (tk : Takes X Wout)
    (hb : ∀ (W : WX) (pn : List (Addr × Obj)) (xe : Value → Shared → Prop), Takes (X.tr pn xe) W → PassesOwn (model X.prog X.w) X.A X.env xe → PSs (X.tr pn xe) body (tb W))
    (hsu : ∀ (a : Addr) (oe : Obj) (cls : Value) (d : Option Addr) (pn : List (Addr × Obj)), Zc cls d oe → (∃ vs, oe.data = .fields vs) → PSs (X.suite a ((a, oe) :: pn)) (b₀ :: suite) (ts a cls d)) :
    PS X (.Try body [.ExceptHandler (some (.Name x np)) (some n) (b₀ :: suite) pos'] [] [] pos) (fun D σ H => tb (wKeep X.K c i ts Wout D) D σ H) := by
  refine ⟨fun pins s σ H D I h => wpAny_Try_except ?_⟩
  have ok := I.ok
  have fr2 : X.A.frames = some (X.env :: X.outer) := by rw [ok.frames, hs]
  let xe1 : Value → Shared → Prop := fun e t1 => wpAny (model X.prog X.w) X.A (noteFrame e X.env) (fun _ t2 => wpAny (model X.prog X.w) X.A (setFlight e none) (fun _ t3 => wpAny (model X.prog X.w) X.A
    (handleBy e X.env [.ExceptHandler (some (.Name x np)) (some n) (b₀ :: suite) pos']) (SP X pins D) X.xe t3) X.xe t2) X.xe t1
  have land : Takes (X.tr (X.pn ++ pins) xe1) (wKeep X.K c i ts Wout D) := by
    rintro u s' ⟨a, B, sI, pins', σ', H', cls, d, rfl, J0, nb, up, sky, na, os, ag, b, hb1, hyes, hno⟩
    show wpAny (model X.prog X.w) X.A (noteFrame (.ref a) X.env) _ _ _
    have J : Inv X pins σ' H' sI := J0.ofTry ok
    refine Sky.land (E₁ := X.xe) Zc.steady fr2 hf (by rw [← hs]; exact sky) fun h3 fl3 up3 => ?_
    have J3 : Inv X pins σ' H' { s' with heap := h3 } := J.landed nb fl3.1 (up.trans up3) os ag
    obtain ⟨oe3, vs3, he3, hz3, hd3⟩ := fl3.there
    have offFr : a ∉ frs (X.env :: X.outer) := fun hm => by
      obtain ⟨_, o', e', hnf⟩ := fl3.2.2.1.mem hm
      rw [he3] at e'
      cases e'
      exact hnf _ hd3
    have nL : a ≠ X.env.locals := fun z => offFr (List.mem_filterMap.mpr ⟨X.env, List.mem_cons_self, by rw [hf, z]⟩)
    have nF : a ∉ X.fs := fun hm => by
      obtain ⟨e, he, q⟩ := List.mem_filterMap.mp hm
      exact offFr (List.mem_filterMap.mpr ⟨e, List.mem_cons_of_mem _ he, q⟩)
    have newA : sI.heap.get? a = none := by
      cases q : sI.heap.get? a with
      | none => rfl
      | some o =>
        have y := nb a o q (by rw [hs]; exact offFr)
        rw [fl3.2.1] at y
        cases y
    have S3 := J3.suite he3 hd3 na nL nF
    refine wpAny_handleBy_cons (codeAny_handlers_test ?_) (fun q => nomatch q)
    have tyE : PySem.W.Looks (model X.prog X.w) h3 (typeOf (.ref a)) cls := fun A Q E s k q => wpAny_typeOf_ref (k _ _ he3) (by rw [hz3.1]; exact q)
    have hits := PySem.W.exm_one (M := model X.prog X.w) J3.kIn tyE hb1
    have named : ∀ {Q : Value → Shared → Prop} {E : Value → Shared → Prop}, Q c { s' with heap := h3 } → wpAny (model X.prog X.w) (X.A.mark (some (.ref a))) (eval (.Name x np) X.env) Q E { s' with heap := h3 } := by
      intro Q E q
      rcases hc with ⟨hg, hdbg, hm | ⟨hm, hv, hnn⟩⟩
      · exact ld_glob (X := X.suite a ((a, oe3) :: (X.pn ++ pins))) S3 hg hm q hdbg
      · exact ld_blt (X := X.suite a ((a, oe3) :: (X.pn ++ pins))) S3 hg hm hv q hnn hdbg
    refine named (hits.here ?_)
    cases b with
    | false =>
      refine wpAny_handleBy_nil (env := X.env) (A := X.A) (e := .ref a) ?_
      obtain ⟨_, _, _, oe, vs, T, oT, ts', he, hz, hd, h1, hr⟩ := id fl3
      have out : wpAny (model X.prog X.w) X.A (setFlight (.ref a) X.env.frame) (fun _ s4 => wpAny (model X.prog X.w) X.A (throw (.ref a) : Sem Flow) (SP X pins D) X.xe s4) X.xe { s' with heap := h3 } := by
        rw [hf]
        refine HandSPX.setFlight_upZ fl3 fun h4 hh4 up4 => wpAny_throw (tk _ _ ⟨a, B, sI, pins, σ', H', cls, d, rfl, J, nb, (up.trans up3).trans up4, .inr (.inr (by rw [hs]; exact hh4)), na, os, ag, hno rfl⟩)
      unfold PySem.passOn
      refine wpAny_bind (wpAny_field he hd h1 ?_)
      rw [if_neg (by simp : ¬ ((Value.ref T == Value.none) = true))]
      first
        | exact wpAny_bind (wpAny_pure (wpAny_bind out))
        | exact wpAny_bind out
    | true =>
      refine codeAny_handlers_suite_as (HandSPX.lands_againZ fl3 fun h4 fl4 up4 => ?_)
      have J4 : Inv X pins σ' H' { s' with heap := h4 } := J.landed nb fl4.1 ((up.trans up3).trans up4) os ag
      obtain ⟨oe4, vs4, he4, hz4, hd4⟩ := fl4.there
      refine store_ok (X := X.suite a ((a, oe4) :: (X.pn ++ pins))) (v := .ref a) (J4.suite he4 hd4 na nL nF) hN hi (.inl hln) rfl (fun s5 S5 => ?_) (.inr hln)
      refine wpAny_mono ((hsu a oe4 cls d (X.pn ++ pins) hz4 ⟨_, hd4⟩).run [] s5 _ H' _ S5 (hyes rfl a na)) (fun f s6 hsp => ?_) (fun _ _ z => z.elim)
      cases f with
      | next =>
        obtain ⟨σ6, H6, S6, q6⟩ := hsp
        obtain ⟨e6, n6, _, _, _⟩ := S6.pin (a, oe4) (List.mem_append_left _ List.mem_cons_self)
        have T6 := trackX J newA (S6.unsuite ok) e6 hz4 hd4 n6 nL
        exact gone_ok T6 hN hi hln fun s7 J7 => ⟨_, _, J7, q6 n6⟩
      | brk =>
        obtain ⟨σ6, H6, S6, q6⟩ := hsp
        exact gone_ok (S6.unsuite ok) hN hi hln fun s7 J7 => ⟨_, _, J7, q6⟩
      | cont =>
        obtain ⟨σ6, H6, S6, q6⟩ := hsp
        exact gone_ok (S6.unsuite ok) hN hi hln fun s7 J7 => ⟨_, _, J7, q6⟩
      | ret u =>
        obtain ⟨v6, σ6, H6, S6, r6, q6⟩ := hsp
        exact gone_ok (S6.unsuite ok) hN hi hln fun s7 J7 => ⟨_, _, _, J7, r6, q6⟩
  refine wpAny_mono ((hb (wKeep X.K c i ts Wout D) (X.pn ++ pins) xe1 land PassesOwn.looking).run [] s σ H D (I.toTry _) h) (fun f s1 hsp => ?_) (fun e s1 he => he)
  cases f with
  | next =>
    obtain ⟨σ', H', J', q⟩ := hsp
    exact wpAny_execs_nil ⟨σ', H', J'.ofTry ok, q⟩
  | brk => exact ⟨_, _, hsp.choose_spec.choose_spec.1.ofTry ok, hsp.choose_spec.choose_spec.2⟩
  | cont => exact ⟨_, _, hsp.choose_spec.choose_spec.1.ofTry ok, hsp.choose_spec.choose_spec.2⟩
  | ret u =>
    obtain ⟨v, σ', H', J', r, q⟩ := hsp
    exact ⟨v, σ', H', J'.ofTry ok, r, q⟩
end
end Cs
namespace Cs
open PySem PySem.Spec L2 PyProof.Rows
theorem meets_enum1 {v : Value} {o : Obj} {H : Heap → Prop} (B : Begins v o H) :
    Meets (Builtin.«enumerate.__new__» ⟨[.type "enumerate", v], []⟩) (fun _ R s => H s.heap ∧
      R (.ok (.ret (.ref (s.heap.push o).objs.size))) { s with heap := (s.heap.push o).push { cls := .type "enumerate", data := .fields #[.none, .bool false, .ref s.heap.objs.size, rawInt 0, .none, .none] } }) :=
  .of_wp fun prog w A R s h => by
    obtain ⟨hp, g, d, tk, os⟩ := s
    obtain ⟨h1, h⟩ := h
    have isub := sub_enumerate
    have it1 : ∀ {A' : Around} {E : Value → Shared → Prop} {Q : Value → Shared → Prop}, Q (.ref hp.objs.size) ⟨hp.push o, g, d, tk, os⟩ → wpAny (model prog w) A' (pyIter v) Q E ⟨hp, g, d, tk, os⟩ := fun q => B.iter prog w _ _ ⟨hp, g, d, tk, os⟩ _ h1 q
    wp_walk
    refine wpAny_stack_any fun st => wpAny_pure ?_
    split
    · rename_i c _ _ _ _ _
      cases (c == Value.type "enumerate") <;>
      · wp_walk using it1
        exact ⟨_, rfl, h⟩
    · wp_walk using it1
      exact ⟨_, rfl, h⟩
section
variable {prog : Program} {w : World} {A : Around} {E : Value → Shared → Prop} {s : Shared}
theorem enum_begins1 {v : Value} {o : Obj} {H : Heap → Prop} {Q : Value → Shared → Prop} (B : Begins v o H) (h1 : H s.heap)
    (h : ∀ h', IsEnum h' (s.heap.objs.size + 1) s.heap.objs.size 0 .none → h'.get? s.heap.objs.size = some o → h'.objs.size = s.heap.objs.size + 2 → (∀ b u, s.heap.get? b = some u → h'.get? b = some u) → Q (.ref (s.heap.objs.size + 1)) { s with heap := h' }) :
    wpAny (model prog w) A (call (.type "enumerate") [v]) Q E s := by
  have sz : (s.heap.push o).objs.size = s.heap.objs.size + 1 := Heap.size_push ..
  refine callType_new F.called_enumerate (by decide) (F.typeCall_enumerate_1 _) (F.newCall_enumerate_1 _) (fun obj => F.args_object_init_2 obj _) F.entry_enumerate_new (meets_enum1 B) ⟨h1, ?_⟩
  have en : IsEnum ((s.heap.push o).push { cls := .type "enumerate", data := .fields #[.none, .bool false, .ref s.heap.objs.size, rawInt 0, .none, .none] }) (s.heap.objs.size + 1) s.heap.objs.size 0 .none := by
    have q := Heap.get?_push_size (s.heap.push o) (o := { cls := .type "enumerate", data := .fields #[.none, .bool false, .ref s.heap.objs.size, rawInt 0, .none, .none] }) rfl
    rwa [sz] at q
  show _ ∧ _
  rw [sz]
  exact ⟨⟨_, en, rfl⟩, h _ en (Heap.get?_push_of_some _ (Heap.get?_push_size _ B.free)) (by rw [Heap.size_push, sz]) fun b u x => Heap.get?_push_of_some _ (Heap.get?_push_of_some _ x)⟩
end
def IteT (K : PySem.W.Frag) (a : Addr) : It :=
  ⟨fun i H => ∃ (xs : List V) (x : V), SqT K H a xs ∧ xs[i]? = some x, fun i H v H' => ∃ T x, v = .ref T ∧ H T = none ∧ H' = upd H T (.tup [.int (i : Nat), x]) ∧ ∀ xs, SqT K H a xs → xs[i]? = some x, fun i H => ∃ xs : List V, SqT K H a xs ∧ xs.length = i⟩
theorem turn_enumT {P : Program} {w : World} {K : PySem.W.Frag} {elts : List Expr} {kk : Nat} {tpos : Pos} (a e it : Addr) :
    Turn P w K (.Tuple elts kk tpos) (IteT K a) [e, it] e (fun i h => (∃ old, IsEnum h e it ((i : Nat) : Int) old) ∧ h.IsTupleIter it a i ∧ e ≠ it ∧ a ≠ e ∧ a ≠ it) where
  mem := List.mem_cons_self
  obj := fun i h st b hb => by
    obtain ⟨⟨old, he⟩, ⟨o, ho, hc, hd⟩, _⟩ := st
    rcases List.mem_cons.mp hb with z | z
    · rw [z]; exact ⟨_, he, fun v q => nomatch q⟩
    · rw [List.mem_singleton.mp z]; exact ⟨o, ho, fun v q => by rw [hd] at q; cases q⟩
  keep := fun i h h' st k => by
    obtain ⟨⟨old, he⟩, hi, hne⟩ := st
    exact ⟨⟨old, k e List.mem_cons_self _ he⟩, hi.at fun o q => k it (List.mem_cons_of_mem _ List.mem_cons_self) o q, hne⟩
  item := by
    intro X hP hw hK hc i pins s σ H E I hf st hg
    subst hP hw hK
    obtain ⟨⟨old, he⟩, hit, hne, ha1, ha2⟩ := st
    obtain ⟨xs, x, hq, hx⟩ := hg
    obtain ⟨its, rv, p, hz⟩ := I.tuple hq
    obtain ⟨u, hu, ru⟩ := rv.get hx
    have el : e < s.heap.objs.size := Heap.lt_size he
    have il : it < s.heap.objs.size := by obtain ⟨_, q, _⟩ := hit; exact Heap.lt_size q
    have quiet : X.A.in1.handled = none := I.ok.hd hc
    have isT : s.heap.IsTuple a its.toArray := p
    have lt : i < its.toArray.size := by
      have h0 := (List.getElem?_eq_some_iff.mp hu).1
      simpa using h0
    have offE : e ∉ [it, a] := fun q => by
      rcases List.mem_cons.mp q with z | z
      · exact hne z
      · exact ha1 (List.mem_singleton.mp z).symm
    refine wpAny_pyNext_enum_itemD (Draws.tuple quiet it a ha2 its.toArray) he ⟨hit, isT⟩ lt hne offE fun y h' tk py ho hit' hT hsz hk => ?_
    have ey : y = u := by
      have q : its.toArray[i]? = some u := by simpa using hu
      rw [q] at py
      exact (Option.some.inj py).symm
    subst ey
    refine ⟨_, rfl, wpAny_letOwnedTupleGo_enum (s := { s with heap := h', toks := tk + 1 }) ho fun h'' he' sb => ?_⟩
    have hT2 : h''.get? s.heap.objs.size = some { cls := .type "tuple", data := .seq #[.int i tk, y] } := (sb.2 _ (Nat.ne_of_gt el)).trans hT
    have new : ObjOk X.prog X.w (upd H s.heap.objs.size (.tup [.int (i : Nat), x])) h'' s.heap.objs.size (.tup [.int (i : Nat), x]) := ⟨by show 2 ≤ sizeLine; decide, [.int i tk, y], .cons ⟨_, rfl⟩ (.cons ru .nil), ⟨_, hT2, rfl, _, rfl⟩⟩
    have I1 := I.turnedNew (t' := tk + 1) (ch := [e, it]) (fun b ob hb q => (sb.2 b (fun z => hb (by rw [z]; exact List.mem_cons_self))).trans (hk b ob (fun z => hb (by rw [z]; exact List.mem_cons_self)) (fun z => hb (by rw [z]; exact List.mem_cons_of_mem _ List.mem_cons_self)) q)) hf (Nat.le_refl _) new
    refine ⟨.ref s.heap.objs.size, _, I1, rfl, ⟨_, x, rfl, I.hok.fresh (Nat.le_refl _), rfl, fun ys hy => by rw [I.tuple_inj hy hq]; exact hx⟩, ⟨⟨y, ?_⟩, hit'.1.at fun o q => (sb.2 it (Ne.symm hne)).trans q, hne, ha1, ha2⟩, fun b hb => ?_⟩
    · rw [show ((i + 1 : Nat) : Int) = (i : Int) + 1 by omega]; exact he'
    · have lt2 : b < s.heap.objs.size := by
        rcases List.mem_cons.mp hb with z | z
        · rw [z]; exact el
        · rw [List.mem_singleton.mp z]; exact il
      rw [upd_ne (Nat.ne_of_lt lt2)]
      exact (hf b hb).1
  done := by
    intro X hP hw hK hc i pins s σ H E I hf st hg
    subst hP hw hK
    obtain ⟨⟨old, he⟩, hit, hne, ha1, ha2⟩ := st
    obtain ⟨xs, hq, hx⟩ := hg
    obtain ⟨its, rv, p, hz⟩ := I.tuple hq
    obtain ⟨f0, f1, f2, f3, f4, f5⟩ := hf it (List.mem_cons_of_mem _ List.mem_cons_self)
    have quiet : X.A.in1.handled = none := I.ok.hd hc
    have en : its.toArray.size = i := by rw [List.size_toArray, ← rv.length, hx]
    have D := Draws.tuple (prog := X.prog) (w := X.w) quiet it a ha2 its.toArray
    rw [en] at D
    exact wpAny_pyNext_enum_endD D he ⟨hit, p⟩ fun h' eb => ⟨rfl, I.turned (t' := s.toks) (fun b o hb q => eb b o hb q) f0 f1 f3 f4 f5⟩
  self := fun A i s Q E st h => let ⟨⟨_, he⟩, _⟩ := st; wpAny_pyIter_enum he h
def iEnumT (K : PySem.W.Frag) (ta : TA) : TI := fun σ H R => ta σ H fun vs H1 => ∃ a xs, vs = [.ref a] ∧ SqT K H1 a xs ∧ R (IteT K a) H1
theorem pi_enumT {X : Cx} {e : Expr} {ta : TA} {p pos tpos : Pos} {elts : List Expr} {kk : Nat} (hg : Gl X "enumerate") (hm : X.mg "enumerate" = none) (ha : PA X [e] ta) (hs : starEach [e] X.env = [(false, eval e X.env)] := by rfl) :
    PI X (.Tuple elts kk tpos) (.Call (.Name "enumerate" p) [e] [] pos) (iEnumT X.K ta) := by
  refine ⟨fun pins s σ H R I h => Call_ (ld_blt I hg hm boot_enumerate (callWith_type1 (thn (ha.run pos pins s σ H _ I h) fun us s1 ⟨vs, H1, I1, r1, q1⟩ => ?_) hs rfl))⟩
  obtain ⟨a, xs, ex, hq, q⟩ := q1
  subst ex
  obtain ⟨u, rfl, ru⟩ := vals1 r1
  cases ru
  obtain ⟨its, rv, p', hz⟩ := I1.tuple hq
  refine enum_begins1 (begins_tuple a its.toArray) p' fun h' en hit hsz hk => wpAny_pyIter_enum en ?_
  have I2 : Inv X pins σ H1 { s1 with heap := h' } := I1.kept (t' := s1.toks) hk
  have la : a < s1.heap.objs.size := by obtain ⟨o, q, _⟩ := p'; exact Heap.lt_size q
  refine ⟨s1.heap.objs.size + 1, [s1.heap.objs.size + 1, s1.heap.objs.size], _, _, H1, rfl, I2, turn_enumT a (s1.heap.objs.size + 1) s1.heap.objs.size, ⟨⟨.none, en⟩, ⟨_, hit, rfl, rfl⟩, Nat.succ_ne_self _, Nat.ne_of_lt (Nat.lt_succ_of_lt la), Nat.ne_of_lt la⟩, fun c hc => ?_, q⟩
  have hle : s1.heap.objs.size ≤ c := by
    rcases List.mem_cons.mp hc with z | z
    · rw [z]; exact Nat.le_succ _
    · rw [List.mem_singleton.mp z]; exact Nat.le_refl _
  exact I1.fpOk hle (I1.hok.fresh hle)
def iEnumA (K : PySem.W.Frag) (ta : TA) : TI := fun σ H R => iEnum K ta σ H R ∨ iEnumT K ta σ H R
theorem pi_enumA {X : Cx} {e : Expr} {ta : TA} {p pos tpos : Pos} {elts : List Expr} {kk : Nat} (hg : Gl X "enumerate") (hm : X.mg "enumerate" = none) (ha : PA X [e] ta) (hs : starEach [e] X.env = [(false, eval e X.env)] := by rfl) :
    PI X (.Tuple elts kk tpos) (.Call (.Name "enumerate" p) [e] [] pos) (iEnumA X.K ta) := pi_or (pi_enum hg hm ha hs) (pi_enumT hg hm ha hs)
end Cs
namespace Cs
open PySem PySem.Spec L2 PyProof.Rows
section
variable {X : Cx}
def rSortedTx (K : PySem.W.Frag) : List V → Hp → VK → Prop := fun xs H Q => ∃ (a : Addr) (ss : List Str), xs = [.ref a] ∧ SqT K H a (ss.map V.str) ∧ ss.length < 64 ∧ ∀ ys p, ys.Perm ss → sortedS ys = true → H p = none → Q (.ref p) (upd H p (.lst (ys.map V.str)))
theorem cr_sortedTx : CallR X (.builtin "sorted") (rSortedTx X.K) := by
  intro pins s σ H xs us Q I r h
  obtain ⟨a, ss, rfl, hs, h64, q⟩ := h
  obtain ⟨u, rfl, ru⟩ := vals1 r
  cases ru
  obtain ⟨its, rv, ⟨o, ho, hc, n, hd⟩, _⟩ := I.tuple hs
  have l1 : ss.length = its.length := by have := rv.length; rwa [List.length_map] at this
  have hS := rv.strs
  have l64 : its.length < 64 := by rw [← l1]; exact h64
  refine Calls.call_function_entry PyProof.Rows.kind_sorted PyProof.Rows.plain_sorted PyProof.Rows.entry_sorted (PyProof.Rows.args_sorted1 _) ?_
  unfold Builtin.«sorted»
  refine wpAny_bind (m := checkCount "sorted" 1 1 _) (wpAny_pure (wpAny_bind (wpAny_collect_seq a (.inr rfl) ho hc hd (fun h' hk => ?_) (by rw [List.size_toArray, sizeLine_eq]; omega))))
  have J : Inv X pins σ H { s with heap := h' } := I.kept (t' := s.toks) hk
  rw [show its.toArray.toList = its from rfl]
  refine wpAny_bind (wpAny_newList ?_ (by rw [sizeLine_eq]; omega))
  have hoL : (h'.push (seqObj "list" its.toArray 0)).get? h'.objs.size = some (seqObj "list" its.toArray 0) := Heap.get?_push_size _ rfl
  show wpAny _ _ _ _ _ { s with heap := h'.push (seqObj "list" its.toArray 0) }
  refine wpAny_bind (wpAny_holding (wpAny_call_entry PyProof.Rows.slot_list_sort ⟨_, hoL, rfl⟩ PyProof.Rows.entry_list_sort
    (list_sort_treeK strKind_oneLt (s := { s with heap := h'.push (seqObj "list" its.toArray 0) }) hoL hS.keysOf (fun v1 v2 rest e => keyKind_strs (by rw [← e]; exact hS)) l64 fun st' hp hs => ⟨_, rfl, ?_⟩) (PyProof.Rows.args_list_sort _)))
  obtain ⟨ys, g1, g2, g3⟩ := sorted_out_str hS hp hs
  obtain ⟨e', he'⟩ := PyProof.Rows.sortedHeap_at (vs := its) (out := (arrOf st').map (·.2)) hoL
  have small : (ys.map V.str).length ≤ sizeLine := by
    rw [List.length_map, g2.length_eq]
    exact Nat.le_trans (Nat.le_of_lt h64) (by decide)
  refine wpAny_pure ⟨_, rfl, .ref h'.objs.size, upd H h'.objs.size (.lst (ys.map V.str)), J.laid (t' := s.toks) (fun b u e => ?_) (Nat.le_refl _) ⟨small, ((arrOf st').map (·.2)).toList, e', vals_of_strs g1, by rw [Array.toArray_toList]; exact he'⟩, rfl, q ys _ g2 g3 (J.hok.fresh (Nat.le_refl _))⟩
  have lb : b < h'.objs.size := Heap.lt_size e
  rw [PyProof.Rows.sortedHeap_old (Nat.ne_of_lt lb) (by rw [size_push']; exact Nat.lt_succ_of_lt lb)]
  exact Heap.get?_push_of_some _ e
def rSortedA (K : PySem.W.Frag) : List V → Hp → VK → Prop := fun xs H Q => rSortedS K xs H Q ∨ rSortedTx K xs H Q
theorem cr_sortedA : CallR X (.builtin "sorted") (rSortedA X.K) := CallR.or cr_sortedS cr_sortedTx
end
end Cs
namespace Cs
open PySem PySem.Spec L2 PyProof.Rows
section
variable {X : Cx}
end
section
variable {K : PySem.W.Frag} {σ : L2.St} {G G1 H : Hp} {ta tb : TE} {tA : TA} {d : PyData}
end
end Cs
namespace Cs
open PySem PySem.Spec L2 PyProof.Rows
section
variable {K : PySem.W.Frag} {σ : L2.St} {M : Addr → Prop} {G G' G1 G0 H0 H H' H1 : Hp} {Q : VK} {E : XK} {vs : List V} {ta tb tc te tk tv td ty : TE} {tA : TA} {t : TT} {d x y z : PyData} {v : V} {a : Addr} {R : Rp}
end
end Cs
namespace Cs
open PySem PySem.Spec L2 PyProof.Rows
def pf (a b c d : V) : List (Str × V) := [("name", a), ("kind", b), ("default", c), ("barred", d)]
section
variable {K : PySem.W.Frag} {C Cb : Addr} {σ : L2.St} {M : Addr → Prop} {G G' G1 G0 H0 H H' H1 : Hp} {Q : VK} {E : XK} {vs : List V} {ta tb tc te tk tv td ty : TE} {tA : TA} {t : TT} {d x y z : PyData} {v : V} {a : Addr} {R : Rp}
def ParAt (K : PySem.W.Frag) (C : Addr) (G : Hp) (v : V) (n k df : PyData) (ys : List Str) : Prop := ∃ x dx a b c d, v = .ref x ∧ G x = some (.ins C dx (pf a b c d)) ∧ Dp K G a n ∧ Dp K G b k ∧ Dp K G c df ∧ Dp K G d (.tuple (ys.map PyData.str))
theorem ParAt.mono {n k df : PyData} {ys : List Str} (e : Same G G') (h : ParAt K C G v n k df ys) : ParAt K C G' v n k df ys := by
  obtain ⟨x, dx, a, b, c, d, h1, h2, h3, h4, h5, h6⟩ := h
  exact ⟨x, dx, a, b, c, d, h1, e _ _ h2, dp_mono e _ _ h3, dp_mono e _ _ h4, dp_mono e _ _ h5, dp_mono e _ _ h6⟩
end
end Cs
namespace Cs
open PySem PySem.Spec L2 PyProof.Rows
section
variable {X : Cx} {CX : CXT} {C g : Addr} {n : Nat} {sp : Sp} {E : XK}
end
end Cs
namespace Cs
open PySem PySem.Spec L2 PyProof.Rows
section
variable {X : Cx} {CX : CXT} {C g : Addr} {n : Nat} {sp : Sp} {E : XK}
end
end Cs
namespace Cs
open PySem PySem.Spec L2 PyProof.Rows
section
variable {X : Cx}
end
structure IsC (K : PySem.W.Frag) (C : Addr) : Prop where
  cl : Cls K C
  ha : PySem.W.findIn K (.ref C) "__class__" = some (some (.builtin "object.__class__"))
  hn : PySem.W.specialIn K (.builtin "object.__class__") "__get__" = some (some (.builtin "getset_descriptor.__get__"))
  ht : PySem.W.takesIn K (.builtin "object.__class__") = some true
  hm : PySem.W.mroIn K C (.type "object") = some true
theorem IsC.ty {K : PySem.W.Frag} {C a dx : Addr} {H : Hp} {fs : List (Str × V)} (T : IsC K C) (e : H a = some (.ins C dx fs)) : TyX K H (.ref a) (.ref C) := .base (.ins e T.cl T.ha T.hn T.ht T.hm)
section
variable {K : PySem.W.Frag} {C Cb : Addr} {σ : L2.St} {M : Addr → Prop} {G G' G1 G0 H0 H H' H1 : Hp} {Q : VK} {E : XK} {vs : List V} {ta tb tc te tk tv td ty : TE} {tA : TA} {t : TT} {d x y z : PyData} {v : V} {a : Addr} {R : Rp} {n k df : PyData} {ys : List Str}
end
end Cs
namespace Mi
open PySem PySem.Spec L2 Cs
inductive D where
  | non | bl (b : Bool) | int (i : Int) | str (s : Str) | ty (n : String)
  | lst (ds : List D) | tup (ds : List D) | dct (ks : List Key) (ds : List D)
  | obj (C : String) (ks : List Str) (ds : List D) | exc (C : String) (ks : List Str) (ds : List D)
  | cls (C : String) | own (n : Nat)
inductive Cell where
  | lst (ds : List D) | dct (ks : List Key) (ds : List D) | lck (ks : List Key) (ds : List D) | obj (C : String) (ks : List Str) (ds : List D)
def Cell.isL : Cell → Bool
  | .lck _ _ => true
  | _ => false
abbrev Store := List (Option Cell)
structure Exc where
  C : String
  ks : List Str
  ds : List D
inductive Res (α : Type) where
  | ok (a : α) (μ : Store) | exc (x : Exc) (μ : Store) | bad
abbrev Env := List (Option D)
inductive ResS where
  | nx (ρ : Env) (μ : Store) | rt (d : D) (μ : Store) | bk (ρ : Env) (μ : Store) | ct (ρ : Env) (μ : Store) | exc (x : Exc) (μ : Store) | bad
abbrev ME := Env → Store → Res D
abbrev MT := Env → Store → Res Bool
abbrev MA := Env → Store → Res (List D)
abbrev MS := Nat → Env → Store → ResS
structure Wd where
  K : PySem.W.Frag
  cm : String → Option Addr
  tabs : List (Addr × Str)
def live (μ : Store) (n : Nat) : Prop := ∃ x, μ[n]? = some (some x)
structure Cf where
  ι : Nat → Addr
  μ : Store
  G : Hp
  H : Hp
  L : Addr → Option HO
  T : List (Addr × Str)
def fsL (ks : List Str) (xs : List V) : List (Str × V) := List.zipWith (fun k x => (k, x)) ks xs
mutual
inductive Dp (W : Wd) (c : Cf) : V → D → Prop
  | non : Dp W c .non .non
  | bl (b : Bool) : Dp W c (.bl b) (.bl b)
  | int (i : Int) : Dp W c (.int i) (.int i)
  | str (x : Str) : Dp W c (.str x) (.str x)
  | ty (n : String) : Dp W c (.ty n) (.ty n)
  | lst {a : Addr} {xs : List V} {ds : List D} : SqL W.K c.G a xs → DpA W c xs ds → Dp W c (.ref a) (.lst ds)
  | tup {a : Addr} {xs : List V} {ds : List D} : SqT W.K c.G a xs → DpA W c xs ds → Dp W c (.ref a) (.tup ds)
  | dct {a : Addr} {ks : List Key} {xs : List V} {ds : List D} : Rd c.G a (.dK (kvL ks xs)) → ks.length = xs.length → ks.Nodup → DpA W c xs ds → Dp W c (.ref a) (.dct ks ds)
  | obj {a : Addr} {C : String} {g dx : Addr} {ks : List Str} {xs : List V} {ds : List D} : W.cm C = some g → c.G a = some (.ins g dx (fsL ks xs)) → ks.length = xs.length → DpA W c xs ds → Dp W c (.ref a) (.obj C ks ds)
  | exc {a : Addr} {C : String} {g : Addr} {d : Option Addr} {ks : List Str} {xs : List V} {ds : List D} : W.cm C = some g → c.G a = some (XO (.ref g) d a) → (∀ dx, d = some dx → c.G dx = some (.xd (fsL ks xs))) → (d = none → ks = []) → ks.length = xs.length → DpA W c xs ds → Dp W c (.ref a) (.exc C ks ds)
  | cls {C : String} {g : Addr} : W.cm C = some g → Dp W c (.ref g) (.cls C)
  | own {n : Nat} : n < c.μ.length → Dp W c (.ref (c.ι n)) (.own n)
inductive DpA (W : Wd) (c : Cf) : List V → List D → Prop
  | nil : DpA W c [] []
  | cons {v : V} {vs : List V} {d : D} {ds : List D} : Dp W c v d → DpA W c vs ds → DpA W c (v :: vs) (d :: ds)
end
structure Le (c c' : Cf) : Prop where
  g : Same c.G c'.G
  len : c.μ.length ≤ c'.μ.length
  ag : ∀ n, n < c.μ.length → c'.ι n = c.ι n
theorem Le.refl (c : Cf) : Le c c := ⟨Same.refl _, Nat.le_refl _, fun _ _ => rfl⟩
theorem Le.trans {a b c : Cf} (h : Le a b) (k : Le b c) : Le a c := ⟨h.g.trans k.g, Nat.le_trans h.len k.len, fun n hn => (k.ag n (Nat.lt_of_lt_of_le hn h.len)).trans (h.ag n hn)⟩
section
variable {W : Wd} {c c' : Cf}
mutual
theorem dp_mono (e : Le c c') : ∀ {d : D} {v : V}, Dp W c v d → Dp W c' v d
  | _, _, .non => .non
  | _, _, .bl b => .bl b
  | _, _, .int i => .int i
  | _, _, .str x => .str x
  | _, _, .ty n => .ty n
  | _, _, .lst hs ha => .lst (e.g.seq hs) (dpa_mono e ha)
  | _, _, .tup hs ha => .tup (Cs.sqt_mono e.g hs) (dpa_mono e ha)
  | _, _, .dct hr hl hn ha => .dct (rd_same e.g hr) hl hn (dpa_mono e ha)
  | _, _, .obj hc h hl ha => .obj hc (e.g _ _ h) hl (dpa_mono e ha)
  | _, _, .exc hc h hd hn hl ha => .exc hc (e.g _ _ h) (fun dx q => e.g _ _ (hd dx q)) hn hl (dpa_mono e ha)
  | _, _, .cls hc => .cls hc
  | _, _, .own hn => by
    rw [← e.ag _ hn]
    exact .own (Nat.lt_of_lt_of_le hn e.len)
theorem dpa_mono (e : Le c c') : ∀ {ds : List D} {vs : List V}, DpA W c vs ds → DpA W c' vs ds
  | _, _, .nil => .nil
  | _, _, .cons h1 h2 => .cons (dp_mono e h1) (dpa_mono e h2)
end
theorem dpa_len : ∀ {vs : List V} {ds : List D}, DpA W c vs ds → vs.length = ds.length
  | _, _, .nil => rfl
  | _, _, .cons _ t => congrArg (· + 1) (dpa_len t)
theorem dpa_get : ∀ {vs : List V} {ds : List D} {i : Nat} {d : D}, DpA W c vs ds → ds[i]? = some d → ∃ v, vs[i]? = some v ∧ Dp W c v d
  | _, _, _, _, .nil, e => by simp at e
  | _, _, 0, _, .cons h _, e => by cases Option.some.inj e; exact ⟨_, rfl, h⟩
  | _, _, i + 1, d, .cons _ t, e => dpa_get (i := i) t e
theorem dpa_getV : ∀ {vs : List V} {ds : List D} {i : Nat} {v : V}, DpA W c vs ds → vs[i]? = some v → ∃ d, ds[i]? = some d ∧ Dp W c v d
  | _, _, _, _, .nil, e => by simp at e
  | _, _, 0, _, .cons h _, e => by cases Option.some.inj e; exact ⟨_, rfl, h⟩
  | _, _, i + 1, d, .cons _ t, e => dpa_getV (i := i) t e
theorem dpa_app : ∀ {vs ws : List V} {ds es : List D}, DpA W c vs ds → DpA W c ws es → DpA W c (vs ++ ws) (ds ++ es)
  | _, _, _, _, .nil, h => h
  | _, _, _, _, .cons h t, k => .cons h (dpa_app t k)
theorem dpa_take : ∀ {vs : List V} {ds : List D} (n : Nat), DpA W c vs ds → DpA W c (vs.take n) (ds.take n)
  | _, _, 0, _ => .nil
  | _, _, _ + 1, .nil => .nil
  | _, _, n + 1, .cons h t => .cons h (dpa_take n t)
theorem dpa_drop : ∀ {vs : List V} {ds : List D} (n : Nat), DpA W c vs ds → DpA W c (vs.drop n) (ds.drop n)
  | _, _, 0, h => h
  | _, _, _ + 1, .nil => .nil
  | _, _, n + 1, .cons _ t => dpa_drop n t
theorem dpa_erase : ∀ {vs : List V} {ds : List D} (n : Nat), DpA W c vs ds → DpA W c (vs.eraseIdx n) (ds.eraseIdx n)
  | _, _, _, .nil => .nil
  | _, _, 0, .cons _ t => t
  | _, _, n + 1, .cons h t => .cons h (dpa_erase n t)
theorem dpa_set : ∀ {vs : List V} {ds : List D} (n : Nat) {v : V} {d : D}, DpA W c vs ds → Dp W c v d → DpA W c (vs.set n v) (ds.set n d)
  | _, _, _, _, _, .nil, _ => .nil
  | _, _, 0, _, _, .cons _ t, k => .cons k t
  | _, _, n + 1, _, _, .cons h t, k => .cons h (dpa_set n t k)
end
mutual
def D.pd : D → Option PyData
  | .non => some .none
  | .bl b => some (.bool b)
  | .int i => some (.int i)
  | .str s => some (.str s)
  | .lst ds => (pds ds).map .list
  | .tup ds => (pds ds).map .tuple
  | .dct ks ds => (pds ds).map fun ps => .dict (dctD ks ps)
  | _ => none
def pds : List D → Option (List PyData)
  | [] => some []
  | d :: ds => match d.pd, pds ds with
    | some p, some ps => some (p :: ps)
    | _, _ => none
end
mutual
theorem dp_pd {W : Wd} {c : Cf} : ∀ {d : D} {v : V} {p : PyData}, Dp W c v d → d.pd = some p → Cs.Dp W.K c.G v p
  | _, _, _, .non, e => by cases Option.some.inj e; exact .non
  | _, _, _, .bl b, e => by cases Option.some.inj e; exact .bl b
  | _, _, _, .int i, e => by cases Option.some.inj e; exact .int i
  | _, _, _, .str i, e => by cases Option.some.inj e; exact .str i
  | _, _, _, .ty n, e => by cases e
  | .lst ds, _, p, .lst hs ha, e => by
    unfold D.pd at e
    cases q : pds ds with
    | none => rw [q] at e; cases e
    | some ps =>
      rw [q] at e
      cases Option.some.inj e
      exact .lst hs (dpa_pd ha q)
  | .tup ds, _, p, .tup hs ha, e => by
    unfold D.pd at e
    cases q : pds ds with
    | none => rw [q] at e; cases e
    | some ps =>
      rw [q] at e
      cases Option.some.inj e
      exact .tup hs (dpa_pd ha q)
  | .dct ks ds, _, p, .dct hr hl hn ha, e => by
    unfold D.pd at e
    cases q : pds ds with
    | none => rw [q] at e; cases e
    | some ps =>
      rw [q] at e
      cases Option.some.inj e
      exact .dct hr hl hn (dpa_pd ha q)
  | _, _, _, .obj .., e => by cases e
  | _, _, _, .exc .., e => by cases e
  | _, _, _, .cls .., e => by cases e
  | _, _, _, .own .., e => by cases e
theorem dpa_pd {W : Wd} {c : Cf} : ∀ {ds : List D} {vs : List V} {ps : List PyData}, DpA W c vs ds → pds ds = some ps → Cs.DpAll W.K c.G vs ps
  | _, _, _, .nil, e => by cases Option.some.inj e; exact .nil
  | d :: ds, _, _, .cons h t, e => by
    unfold pds at e
    split at e
    · rename_i p ps h1 h2
      cases Option.some.inj e
      exact .cons (dp_pd h h1) (dpa_pd t h2)
    · cases e
end
def CellAt (W : Wd) (c : Cf) (o : HO) : Cell → Prop
  | .lst ds => ∃ xs, o = .lst xs ∧ DpA W c xs ds
  | .dct ks ds => ∃ xs, o = .dK (kvL ks xs) ∧ ks.length = xs.length ∧ ks.Nodup ∧ DpA W c xs ds
  | .lck ks ds => ∃ xs od, o = .frz od (.dK (kvL ks xs)) ∧ ks.length = xs.length ∧ ks.Nodup ∧ DpA W c xs ds
  | .obj C ks ds => ∃ g dx xs, W.cm C = some g ∧ o = .ins g dx (fsL ks xs) ∧ ks.length = xs.length ∧ DpA W c xs ds
structure TabOk (W : Wd) (c : Cf) : Prop where
  w : c.T = W.tabs
  n : ∀ a ps, c.G a ≠ some (.tbl ps)
  o : ∀ a ps, c.H a = some (.tbl ps) → ∃ q, (a, q) ∈ c.T
  t : ∀ p ∈ c.T, ∃ ps : Array Value, c.H p.1 = some (.tbl ps) ∧ TriplesOk ps.toList ∧ ∀ (pos : Pos) (cv : Value), PySem.codeAmong pos ps.toList = some cv → ∃ a, cv = .ref a ∧ c.H a = some (LamX.CodeO a p.2)
theorem TabOk.mono {W : Wd} {c c' : Cf} (h : TabOk W c) (eT : c'.T = c.T) (g : ∀ b q, c.H b = some (LamX.CodeO b q) → c'.H b = some (LamX.CodeO b q)) (hn : ∀ a ps, c'.G a = some (.tbl ps) → c.G a = some (.tbl ps)) (hu : ∀ a ps, c'.H a = some (.tbl ps) → ∃ ps', c.H a = some (.tbl ps')) (hH : ∀ p ∈ c.T, ∀ ps, c.H p.1 = some (.tbl ps) → c'.H p.1 = some (.tbl ps)) : TabOk W c' := by
  refine ⟨eT.trans h.w, fun a ps e => h.n a ps (hn a ps e), fun a ps e => let ⟨ps', e'⟩ := hu a ps e; eT ▸ h.o a ps' e', fun p hp => ?_⟩
  obtain ⟨ps, h1, h2, h3⟩ := h.t p (by rw [← eT]; exact hp)
  refine ⟨ps, hH p (by rw [← eT]; exact hp) ps h1, h2, fun pos cv e => ?_⟩
  obtain ⟨a, e1, e2⟩ := h3 pos cv e
  exact ⟨a, e1, g a _ e2⟩
theorem tbl_upd {H : Hp} {p : Addr} {o : HO} (no : ∀ ps, o ≠ .tbl ps) : ∀ a ps, upd H p o a = some (.tbl ps) → ∃ ps', H a = some (.tbl ps') := fun a ps e => by
  by_cases c : a = p
  · subst c; rw [upd_same] at e; exact absurd (Option.some.inj e) (no ps)
  · rw [upd_ne c] at e; exact ⟨_, e⟩
theorem codeO_upd {H : Hp} {p : Addr} {o : HO} (hp : ∀ q, H p ≠ some (LamX.CodeO p q)) : ∀ b q, H b = some (LamX.CodeO b q) → upd H p o b = some (LamX.CodeO b q) := fun b q e => by
  rw [upd_ne (fun z => hp q (by rw [← z]; exact e))]; exact e
theorem codeO_none {H : Hp} {p : Addr} (hp : H p = none) : ∀ q, H p ≠ some (LamX.CodeO p q) := fun q z => by rw [hp] at z; cases z
structure Ok (W : Wd) (c : Cf) : Prop where
  s : Same c.G c.H
  lk : ∀ a o, c.L a = some o → c.H a = some o ∧ ∃ od u, o = .frz od u
  at' : ∀ n x, c.μ[n]? = some (some x) → c.G (c.ι n) = none ∧ ∃ o, c.H (c.ι n) = some o ∧ CellAt W c o x
  inj : ∀ n m, live c.μ n → live c.μ m → c.ι n = c.ι m → n = m
  lc : ∀ n x, c.μ[n]? = some (some x) → x.isL = true → c.L (c.ι n) ≠ none
  tb : TabOk W c
def Mo (c : Cf) : Addr → Prop := fun b => (∃ n, live c.μ n ∧ b = c.ι n) ∨ ∃ ps, c.H b = some (.tbl ps)
structure Step (c c' : Cf) : Prop where
  g : Grow (Mo c) c.G c.H c'.G c'.H
  len : c.μ.length ≤ c'.μ.length
  ag : ∀ n, n < c.μ.length → c'.ι n = c.ι n
  dead : ∀ n, n < c.μ.length → live c'.μ n → live c.μ n
  fresh : ∀ n, c.μ.length ≤ n → live c'.μ n → c.H (c'.ι n) = none
  lk : c'.L = c.L
  tk : c'.T = c.T
theorem live_lt {μ : Store} {n : Nat} (h : live μ n) : n < μ.length := by
  obtain ⟨x, h⟩ := h
  exact (List.getElem?_eq_some_iff.mp h).1
theorem Step.le {c c' : Cf} (h : Step c c') : Le c c' := ⟨h.g.g, h.len, h.ag⟩
theorem Step.refl {W : Wd} {c : Cf} (h : Ok W c) : Step c c := ⟨Grow.refl h.s, Nat.le_refl _, fun _ _ => rfl, fun _ _ k => k, fun n hn k => absurd (live_lt k) (Nat.not_lt_of_le hn), rfl, rfl⟩
theorem Ok.hcell {W : Wd} {c : Cf} (h : Ok W c) {n : Nat} (l : live c.μ n) : c.H (c.ι n) ≠ none := by
  obtain ⟨x, hx⟩ := l
  obtain ⟨_, o, ho, _⟩ := h.at' n x hx
  rw [ho]; exact fun z => by cases z
theorem Step.trans {a b c : Cf} (h : Step a b) (k : Step b c) : Step a c := by
  have sub : ∀ d o, a.H d = some o → Mo b d → Mo a d := by
    rintro d o e (⟨n, l, rfl⟩ | ⟨q, hq⟩)
    · rcases Nat.lt_or_ge n a.μ.length with hn | hn
      · exact .inl ⟨n, h.dead n hn l, h.ag n hn⟩
      · have := h.fresh n hn l
        rw [this] at e; cases e
    · by_cases m : Mo a d
      · exact m
      · have := h.g.h d o m e
        rw [hq] at this
        cases this
        exact .inr ⟨_, e⟩
  refine ⟨⟨fun d o n e => k.g.h d o (fun m => n (sub d o e m)) (h.g.h d o n e), h.g.g.trans k.g.g, k.g.s, fun d hd => (k.g.n d (h.g.m d hd)).trans (h.g.n d hd), fun d hd => k.g.m d (h.g.m d hd), fun d ps e => h.g.t d ps (k.g.t d ps e), fun d ps e => let ⟨ps', e'⟩ := k.g.u d ps e; h.g.u d ps' e'⟩,
    Nat.le_trans h.len k.len, fun n hn => (k.ag n (Nat.lt_of_lt_of_le hn h.len)).trans (h.ag n hn), fun n hn l => h.dead n hn (k.dead n (Nat.lt_of_lt_of_le hn h.len) l), fun n hn l => ?_, k.lk.trans h.lk, k.tk.trans h.tk⟩
  rcases Nat.lt_or_ge n b.μ.length with hn' | hn'
  · rw [k.ag n hn']
    exact h.fresh n hn (k.dead n hn' l)
  · have q := k.fresh n hn' l
    cases e : a.H (c.ι n) with
    | none => rfl
    | some o => exact absurd q (h.g.m _ (by rw [e]; exact fun z => by cases z))
theorem CellAt.mono {W : Wd} {c c' : Cf} {o : HO} {x : Cell} (e : Le c c') (_l : True) (h : CellAt W c o x) : CellAt W c' o x := by
  cases x with
  | lst ds => obtain ⟨xs, h1, h2⟩ := h; exact ⟨xs, h1, dpa_mono e h2⟩
  | dct ks ds => obtain ⟨xs, h1, h2, h3, h4⟩ := h; exact ⟨xs, h1, h2, h3, dpa_mono e h4⟩
  | lck ks ds => obtain ⟨xs, od, h1, h2, h3, h4⟩ := h; exact ⟨xs, od, h1, h2, h3, dpa_mono e h4⟩
  | obj C ks ds => obtain ⟨g, dx, xs, h1, h2, h3, h4⟩ := h; exact ⟨g, dx, xs, h1, h2, h3, dpa_mono e h4⟩
def Cf.to (c : Cf) (G' H' : Hp) : Cf := ⟨c.ι, c.μ, G', H', c.L, c.T⟩
theorem step_grow {W : Wd} {c : Cf} {G' H' : Hp} (h : Ok W c) (g : Grow NoM c.G c.H G' H') : Ok W (c.to G' H') ∧ Step c (c.to G' H') := by
  have le : Le c (c.to G' H') := ⟨g.g, Nat.le_refl _, fun _ _ => rfl⟩
  refine ⟨⟨g.s, fun a o e => ⟨g.same _ _ (h.lk a o e).1, (h.lk a o e).2⟩, fun n x e => ?_, h.inj, h.lc, h.tb.mono rfl (fun b q e => g.same _ _ e) g.t g.u fun p _ ps e => g.same _ _ e⟩, ⟨g.any, Nat.le_refl _, fun _ _ => rfl, fun _ _ k => k, fun n hn k => absurd (live_lt k) (Nat.not_lt_of_le hn), rfl, rfl⟩⟩
  obtain ⟨h1, o, h2, h3⟩ := h.at' n x e
  exact ⟨(g.n _ (h.hcell ⟨x, e⟩)).trans h1, o, g.same _ _ h2, h3.mono le trivial⟩
theorem step_new {W : Wd} {c : Cf} {p : Addr} {o : HO} (h : Ok W c) (hp : c.H p = none) (no : ∀ ps, o ≠ .tbl ps := by intro _ z; cases z) : Ok W (c.to (upd c.G p o) (upd c.H p o)) ∧ Step c (c.to (upd c.G p o) (upd c.H p o)) :=
  step_grow h (.new h.s hp no)
def Cf.add (c : Cf) (p : Addr) (o : HO) (x : Cell) : Cf := ⟨fun n => if n = c.μ.length then p else c.ι n, c.μ ++ [some x], c.G, upd c.H p o, c.L, c.T⟩
theorem le_add {c : Cf} {p : Addr} {o : HO} {x : Cell} : Le c (c.add p o x) := ⟨Same.refl _, by simp [Cf.add], fun n hn => by simp [Cf.add, Nat.ne_of_lt hn]⟩
theorem live_app {μ : Store} {y : Option Cell} {n : Nat} (h : live (μ ++ [y]) n) : live μ n ∨ (n = μ.length ∧ ∃ x, y = some x) := by
  obtain ⟨x, h⟩ := h
  rcases Nat.lt_trichotomy n μ.length with hn | hn | hn
  · rw [List.getElem?_append_left hn] at h
    exact .inl ⟨x, h⟩
  · subst hn
    simp at h
    exact .inr ⟨rfl, x, h⟩
  · rw [List.getElem?_eq_none (by simp; omega)] at h; cases h
theorem CellAt.noT {W : Wd} {c : Cf} {o : HO} {x : Cell} (h : CellAt W c o x) : ∀ ps, o ≠ .tbl ps := by
  intro ps e
  subst e
  cases x with
  | lst ds => obtain ⟨xs, h1, h2⟩ := h; cases h1
  | dct ks ds => obtain ⟨xs, h1, h2⟩ := h; cases h1
  | lck ks ds => obtain ⟨xs, od, h1, h2⟩ := h; cases h1
  | obj C ks ds => obtain ⟨g, dx, xs, h0, h1, h2⟩ := h; cases h1
theorem step_add {W : Wd} {c : Cf} {p : Addr} {o : HO} {x : Cell} (h : Ok W c) (hp : c.H p = none) (hx : CellAt W c o x) (nx : x.isL = false := by rfl) : Ok W (c.add p o x) ∧ Step c (c.add p o x) := by
  have gp := same_none h.s hp
  have old : ∀ n, n < c.μ.length → (c.add p o x).ι n = c.ι n := fun n hn => by simp [Cf.add, Nat.ne_of_lt hn]
  have top : (c.add p o x).ι c.μ.length = p := by simp [Cf.add]
  have ne : ∀ n, live c.μ n → c.ι n ≠ p := fun n l z => h.hcell l (by rw [z]; exact hp)
  refine ⟨⟨fun b u e => ?_, fun a u e => ⟨by
    show upd c.H p o a = some u
    rw [upd_ne (ne_of_none (h.lk a u e).1 hp)]; exact (h.lk a u e).1, (h.lk a u e).2⟩, fun n y e => ?_, fun n m ln lm e => ?_, fun n y e hy => ?_, h.tb.mono rfl (codeO_upd (codeO_none hp)) (fun _ _ e => e) (tbl_upd hx.noT) fun q _ ps e => by
    show upd c.H p o q.1 = some (.tbl ps)
    rw [upd_ne (ne_of_none e hp)]; exact e⟩, ⟨(Grow.own h.s hp hx.noT), by simp [Cf.add], old, fun n hn l => ?_, fun n hn l => ?_, rfl, rfl⟩⟩
  · show upd c.H p o b = some u
    rw [upd_ne (ne_of_none e gp)]; exact h.s b u e
  · rcases live_app ⟨y, e⟩ with l | ⟨rfl, _⟩
    · have hn := live_lt l
      have e' : c.μ[n]? = some (some y) := by rw [← e]; exact (List.getElem?_append_left hn).symm
      obtain ⟨h1, u, h2, h3⟩ := h.at' n y e'
      rw [old n hn]
      refine ⟨h1, u, ?_, h3.mono le_add trivial⟩
      show upd c.H p o (c.ι n) = some u
      rw [upd_ne (ne n l)]; exact h2
    · have ey : x = y := by
        have : (c.μ ++ [some x])[c.μ.length]? = some (some x) := by simp
        have e2 : (c.μ ++ [some x])[c.μ.length]? = some (some y) := e
        rw [this] at e2
        exact Option.some.inj (Option.some.inj e2)
      subst ey
      rw [top]
      exact ⟨gp, o, upd_same, hx.mono le_add trivial⟩
  · rcases live_app ln with l | ⟨rfl, _⟩
    · rcases live_app lm with k | ⟨rfl, _⟩
      · rw [old n (live_lt l), old m (live_lt k)] at e
        exact h.inj n m l k e
      · rw [old n (live_lt l), top] at e
        exact absurd e (ne n l)
    · rcases live_app lm with k | ⟨rfl, _⟩
      · rw [old m (live_lt k), top] at e
        exact absurd e.symm (ne m k)
      · rfl
  · rcases live_app ⟨y, e⟩ with l | ⟨rfl, _⟩
    · have e' : c.μ[n]? = some (some y) := by rw [← e]; exact (List.getElem?_append_left (live_lt l)).symm
      rw [old n (live_lt l)]
      exact h.lc n y e' hy
    · have e2 : (c.μ ++ [some x])[c.μ.length]? = some (some y) := e
      simp at e2
      rw [← e2, nx] at hy; cases hy
  · rcases live_app l with l | ⟨rfl, _⟩
    · exact l
    · omega
  · rcases live_app l with l | ⟨rfl, _⟩
    · exact absurd (live_lt l) (Nat.not_lt_of_le hn)
    · rw [top]; exact hp
def Cf.put (c : Cf) (n : Nat) (o : HO) (x : Cell) : Cf := ⟨c.ι, c.μ.set n (some x), c.G, upd c.H (c.ι n) o, c.L, c.T⟩
theorem le_put {c : Cf} {n : Nat} {o : HO} {x : Cell} : Le c (c.put n o x) := ⟨Same.refl _, by simp [Cf.put], fun _ _ => rfl⟩
theorem live_set {μ : Store} {x : Cell} {n m : Nat} (l : live μ n) (h : live (μ.set n (some x)) m) : live μ m := by
  obtain ⟨y, h⟩ := h
  by_cases e : n = m
  · subst e; exact l
  · rw [List.getElem?_set_ne e] at h; exact ⟨y, h⟩
theorem CellAt.noF {W : Wd} {c : Cf} {o : HO} {x : Cell} (h : CellAt W c o x) (n : x.isL = false) : ∀ od u, o ≠ .frz od u := by
  intro od u e
  subst e
  cases x with
  | lst ds => obtain ⟨xs, h1, h2⟩ := h; cases h1
  | dct ks ds => obtain ⟨xs, h1, h2⟩ := h; cases h1
  | lck ks ds => cases n
  | obj C ks ds => obtain ⟨g, dx, xs, h0, h1, h2⟩ := h; cases h1
theorem CellAt.noC {W : Wd} {c : Cf} {o : HO} {x : Cell} {a : Addr} (h : CellAt W c o x) : ∀ q, o ≠ LamX.CodeO a q := by
  intro q e
  unfold LamX.CodeO at e
  subst e
  cases x with
  | lst ds => obtain ⟨xs, h1, h2⟩ := h; cases h1
  | dct ks ds => obtain ⟨xs, h1, h2⟩ := h; cases h1
  | lck ks ds => obtain ⟨xs, od, h1, h2⟩ := h; cases h1
  | obj C ks ds => obtain ⟨g, dx, xs, h0, h1, h2⟩ := h; cases h1
theorem step_put {W : Wd} {c : Cf} {n : Nat} {o : HO} {x y0 : Cell} (h : Ok W c) (hy0 : c.μ[n]? = some (some y0)) (ny0 : y0.isL = false) (hx : CellAt W c o x) (nx : x.isL = false := by rfl) : Ok W (c.put n o x) ∧ Step c (c.put n o x) := by
  have l : live c.μ n := ⟨y0, hy0⟩
  have gn : c.G (c.ι n) = none := (h.at' n y0 hy0).1
  refine ⟨⟨fun b u e => ?_, fun a u e => ⟨?_, (h.lk a u e).2⟩, fun m y e => ?_, fun a b la lb e => h.inj a b (live_set l la) (live_set l lb) e, fun m y e hy => ?_, h.tb.mono rfl (codeO_upd fun q z => by
    obtain ⟨_, o', ho', hc'⟩ := h.at' n y0 hy0
    rw [ho'] at z
    exact hc'.noC q (Option.some.inj z)) (fun _ _ e => e) (tbl_upd hx.noT) fun q _ ps e => by
    show upd c.H (c.ι n) o q.1 = some (.tbl ps)
    rw [upd_ne (fun z => ?_)]
    · exact e
    · obtain ⟨_, o', ho', hc'⟩ := h.at' n y0 hy0
      rw [z, ho'] at e
      exact hc'.noT ps (Option.some.inj e)⟩, ⟨(Grow.refl h.s).put (.inr (.inl ⟨n, l, rfl⟩)) gn hx.noT, by simp [Cf.put], fun _ _ => rfl, fun m _ k => live_set l k, fun m hm k => ?_, rfl, rfl⟩⟩
  · show upd c.H (c.ι n) o b = some u
    rw [upd_ne (ne_of_none e gn)]; exact h.s b u e
  · show upd c.H (c.ι n) o a = some u
    obtain ⟨h1, od, u', h2⟩ := h.lk a u e
    obtain ⟨_, o', ho', hc'⟩ := h.at' n y0 hy0
    have : a ≠ c.ι n := fun z => by
      rw [z, ho'] at h1
      exact hc'.noF ny0 od u' ((Option.some.inj h1).trans h2)
    rw [upd_ne this]; exact h1
  · show c.G (c.ι m) = none ∧ ∃ u, upd c.H (c.ι n) o (c.ι m) = some u ∧ _
    by_cases em : n = m
    · subst em
      have : x = y := by
        have e2 : (c.μ.set n (some x))[n]? = some (some y) := e
        rw [List.getElem?_set_self (live_lt l)] at e2
        exact Option.some.inj (Option.some.inj e2)
      subst this
      exact ⟨gn, o, upd_same, hx.mono le_put trivial⟩
    · have e2 : (c.μ.set n (some x))[m]? = some (some y) := e
      rw [List.getElem?_set_ne em] at e2
      obtain ⟨h1, u, h2, h3⟩ := h.at' m y e2
      refine ⟨h1, u, ?_, h3.mono le_put trivial⟩
      rw [upd_ne (fun z => em (h.inj m n ⟨y, e2⟩ l z).symm)]; exact h2
  · by_cases em : n = m
    · subst em
      have e2 : (c.μ.set n (some x))[n]? = some (some y) := e
      rw [List.getElem?_set_self (live_lt l)] at e2
      cases e2
      rw [nx] at hy; cases hy
    · have e2 : (c.μ.set n (some x))[m]? = some (some y) := e
      rw [List.getElem?_set_ne em] at e2
      exact h.lc m y e2 hy
  · have := live_lt k
    have e : (c.put n o x).μ.length = c.μ.length := by simp [Cf.put]
    rw [e] at this
    omega
def Cf.frz (c : Cf) (n : Nat) (o : HO) : Cf := ⟨c.ι, c.μ.set n none, upd c.G (c.ι n) o, c.H, c.L, c.T⟩
theorem le_frz {W : Wd} {c : Cf} {n : Nat} {o : HO} (h : Ok W c) (l : live c.μ n) : Le c (c.frz n o) := by
  obtain ⟨y, hy⟩ := l
  exact ⟨same_new (h.at' n y hy).1, by simp [Cf.frz], fun _ _ => rfl⟩
theorem live_setN {μ : Store} {n m : Nat} (h : live (μ.set n none) m) : live μ m ∧ n ≠ m := by
  obtain ⟨y, h⟩ := h
  by_cases e : n = m
  · subst e
    by_cases hn : n < μ.length
    · rw [List.getElem?_set_self hn] at h; cases h
    · rw [List.getElem?_eq_none (by simp; omega)] at h; cases h
  · rw [List.getElem?_set_ne e] at h; exact ⟨⟨y, h⟩, e⟩
theorem step_frz {W : Wd} {c0 c : Cf} {n : Nat} {o : HO} (st : Step c0 c) (h : Ok W c) (l : live c.μ n) (hn : c0.μ.length ≤ n) (ho : c.H (c.ι n) = some o) : Ok W (c.frz n o) ∧ Step c0 (c.frz n o) := by
  have gn : c.G (c.ι n) = none := by
    obtain ⟨y, hy⟩ := l
    exact (h.at' n y hy).1
  have fr := st.fresh n hn l
  have noT : ∀ ps, o ≠ .tbl ps := by
    obtain ⟨y, hy⟩ := l
    obtain ⟨_, o', ho', hc'⟩ := h.at' n y hy
    rw [ho] at ho'
    cases ho'
    exact hc'.noT
  refine ⟨⟨fun b u e => ?_, h.lk, fun m y e => ?_, fun a b la lb e => h.inj a b (live_setN la).1 (live_setN lb).1 e, fun m y e hy => ?_, h.tb.mono rfl (fun _ _ e => e) (fun b ps e => ?_) (fun _ _ e => ⟨_, e⟩) fun _ _ _ e => e⟩, ⟨st.g.freeze fr gn ho noT, ?_, st.ag, fun m hm k => st.dead m hm (live_setN k).1, fun m hm k => st.fresh m hm (live_setN k).1, st.lk, st.tk⟩⟩
  · by_cases eb : b = c.ι n
    · subst eb
      have e' : upd c.G (c.ι n) o (c.ι n) = some u := e
      rw [upd_same] at e'
      rw [← e']; exact ho
    · have e' : upd c.G (c.ι n) o b = some u := e
      rw [upd_ne eb] at e'
      exact h.s b u e'
  · have k : live (c.μ.set n none) m := ⟨y, e⟩
    obtain ⟨k1, k2⟩ := live_setN k
    have e2 : c.μ[m]? = some (some y) := by
      have e3 : (c.μ.set n none)[m]? = some (some y) := e
      rw [List.getElem?_set_ne k2] at e3
      exact e3
    obtain ⟨h1, u, h2, h3⟩ := h.at' m y e2
    refine ⟨?_, u, h2, h3.mono (le_frz h l) trivial⟩
    show upd c.G (c.ι n) o (c.ι m) = none
    rw [upd_ne (fun z => k2 (h.inj m n k1 l z).symm)]; exact h1
  · obtain ⟨k1, k2⟩ := live_setN ⟨y, e⟩
    have e3 : (c.μ.set n none)[m]? = some (some y) := e
    rw [List.getElem?_set_ne k2] at e3
    exact h.lc m y e3 hy
  · by_cases eb : b = c.ι n
    · subst eb
      have e' : upd c.G (c.ι n) o (c.ι n) = some (.tbl ps) := e
      rw [upd_same] at e'
      exact absurd (Option.some.inj e') (noT ps)
    · have e' : upd c.G (c.ι n) o b = some (.tbl ps) := e
      rw [upd_ne eb] at e'
      exact e'
  · simp [Cf.frz]; exact st.len
def ExcAt (W : Wd) (c : Cf) (u : Value) (o : Option Addr) (x : Exc) : Prop := ∃ g, W.cm x.C = some g ∧ u = .ref g ∧ ((o = none ∧ x.ks = [] ∧ x.ds = []) ∨ ∃ dx xs, o = some dx ∧ c.G dx = some (.xd (fsL x.ks xs)) ∧ x.ks.length = xs.length ∧ DpA W c xs x.ds)
def Wp {β α : Type} (W : Wd) (R : Cf → β → α → Prop) (r : Res α) (c : Cf) (Q : β → Hp → Prop) (E : XK) : Prop :=
  match r with
  | .ok d μ' => ∀ v c', c'.μ = μ' → Step c c' → Ok W c' → R c' v d → Q v c'.H
  | .exc x μ' => ∀ u o c', c'.μ = μ' → Step c c' → Ok W c' → ExcAt W c' u o x → E u o c'.H
  | .bad => False
def Res.bind {α β : Type} (r : Res α) (f : α → Store → Res β) : Res β :=
  match r with
  | .ok a μ => f a μ
  | .exc x μ => .exc x μ
  | .bad => .bad
theorem Wp.from {β α : Type} {W : Wd} {R : Cf → β → α → Prop} {r : Res α} {c c1 : Cf} {Q : β → Hp → Prop} {E : XK} (h : Wp W R r c Q E) (s : Step c c1) : Wp W R r c1 Q E := by
  cases r with
  | ok d μ => exact fun v c' e st => h v c' e (s.trans st)
  | exc x μ => exact fun u o c' e st => h u o c' e (s.trans st)
  | bad => exact h
theorem wp_bind {β β' α α' : Type} {W : Wd} {R : Cf → β → α → Prop} {R' : Cf → β' → α' → Prop} {r : Res α} {f : α → Store → Res α'} {c : Cf} {Q : β' → Hp → Prop} {Q1 : β → Hp → Prop} {E : XK} (h : Wp W R' (r.bind f) c Q E)
    (k : ∀ v d c1, Step c c1 → Ok W c1 → R c1 v d → Wp W R' (f d c1.μ) c1 Q E → Q1 v c1.H) : Wp W R r c Q1 E := by
  cases r with
  | ok d μ => exact fun v c' e st ok r => k v d c' st ok r (by rw [e]; exact h.from st)
  | exc x μ => exact h
  | bad => exact h
theorem wp_ret {β α : Type} {W : Wd} {R : Cf → β → α → Prop} {a : α} {v : β} {c : Cf} {Q : β → Hp → Prop} {E : XK} (h : Wp W R (.ok a c.μ) c Q E) (ok : Ok W c) (r : R c v a) : Q v c.H := h v c rfl (.refl ok) ok r
end Mi
namespace Mi
open PySem PySem.Spec L2
mutual
def D.pdW (f : Nat → Option PyData) : D → Option PyData
  | .non => some .none
  | .bl b => some (.bool b)
  | .int i => some (.int i)
  | .str s => some (.str s)
  | .lst ds => (pdsW f ds).map .list
  | .tup ds => (pdsW f ds).map .tuple
  | .dct ks ds => (pdsW f ds).map fun ps => .dict (Cs.dctD ks ps)
  | .own n => f n
  | _ => none
def pdsW (f : Nat → Option PyData) : List D → Option (List PyData)
  | [] => some []
  | d :: ds => match d.pdW f, pdsW f ds with
    | some p, some ps => some (p :: ps)
    | _, _ => none
end
def cellV (f : Nat → Option PyData) : Cell → Option PyData
  | .lst ds => (pdsW f ds).map .list
  | .dct ks ds => (pdsW f ds).map fun ps => .dict (Cs.dctD ks ps)
  | .lck ks ds => (pdsW f ds).map fun ps => .dict (Cs.dctD ks ps)
  | .obj .. => none
def vf : Nat → Store → Nat → Option PyData
  | 0, _, _ => none
  | k + 1, μ, n => match μ[n]? with
    | some (some x) => cellV (vf k μ) x
    | _ => none
def D.view (μ : Store) (d : D) : Option PyData := d.pdW (vf 4 μ)
section
variable {W : Wd} {c : Cf}
mutual
theorem dp_pdW {f : Nat → Option PyData} (s : Same c.G c.H) (hf : ∀ n p, n < c.μ.length → f n = some p → Cs.Dp W.K c.H (.ref (c.ι n)) p) : ∀ {d : D} {v : V} {p : PyData}, Dp W c v d → d.pdW f = some p → Cs.Dp W.K c.H v p
  | _, _, _, .non, e => by cases Option.some.inj e; exact .non
  | _, _, _, .bl b, e => by cases Option.some.inj e; exact .bl b
  | _, _, _, .int i, e => by cases Option.some.inj e; exact .int i
  | _, _, _, .str i, e => by cases Option.some.inj e; exact .str i
  | _, _, _, .ty n, e => by cases e
  | .lst ds, _, p, .lst hs ha, e => by
    unfold D.pdW at e
    cases q : pdsW f ds with
    | none => rw [q] at e; cases e
    | some ps =>
      rw [q] at e
      cases Option.some.inj e
      exact .lst (s.seq hs) (dpa_pdW s hf ha q)
  | .tup ds, _, p, .tup hs ha, e => by
    unfold D.pdW at e
    cases q : pdsW f ds with
    | none => rw [q] at e; cases e
    | some ps =>
      rw [q] at e
      cases Option.some.inj e
      exact .tup (Cs.sqt_mono s hs) (dpa_pdW s hf ha q)
  | .dct ks ds, _, p, .dct hr hl hn ha, e => by
    unfold D.pdW at e
    cases q : pdsW f ds with
    | none => rw [q] at e; cases e
    | some ps =>
      rw [q] at e
      cases Option.some.inj e
      exact .dct (Cs.rd_same s hr) hl hn (dpa_pdW s hf ha q)
  | _, _, _, .obj .., e => by cases e
  | _, _, _, .exc .., e => by cases e
  | _, _, _, .cls .., e => by cases e
  | _, _, _, .own hn, e => hf _ _ hn e
theorem dpa_pdW {f : Nat → Option PyData} (s : Same c.G c.H) (hf : ∀ n p, n < c.μ.length → f n = some p → Cs.Dp W.K c.H (.ref (c.ι n)) p) : ∀ {ds : List D} {vs : List V} {ps : List PyData}, DpA W c vs ds → pdsW f ds = some ps → Cs.DpAll W.K c.H vs ps
  | _, _, _, .nil, e => by cases Option.some.inj e; exact .nil
  | d :: ds, _, _, .cons h t, e => by
    unfold pdsW at e
    split at e
    · rename_i p ps h1 h2
      cases Option.some.inj e
      exact .cons (dp_pdW s hf h h1) (dpa_pdW s hf t h2)
    · cases e
end
theorem vf_ok (ok : Ok W c) : ∀ k n p, n < c.μ.length → vf k c.μ n = some p → Cs.Dp W.K c.H (.ref (c.ι n)) p
  | 0, _, _, _, e => by cases e
  | k + 1, n, p, hn, e => by
    unfold vf at e
    split at e
    · rename_i x hx
      obtain ⟨_, o, ho, hc⟩ := ok.at' n x hx
      cases x with
      | lst ds =>
        obtain ⟨xs, rfl, ha⟩ := hc
        unfold cellV at e
        dsimp only at e
        cases q : pdsW (vf k c.μ) ds with
        | none => rw [q] at e; cases e
        | some ps =>
          rw [q] at e
          cases Option.some.inj e
          exact .lst (.inl (.inl ho)) (dpa_pdW ok.s (vf_ok ok k) ha q)
      | dct ks ds =>
        obtain ⟨xs, rfl, hl, hnd, ha⟩ := hc
        unfold cellV at e
        dsimp only at e
        cases q : pdsW (vf k c.μ) ds with
        | none => rw [q] at e; cases e
        | some ps =>
          rw [q] at e
          cases Option.some.inj e
          exact .dct (.inl ho) hl hnd (dpa_pdW ok.s (vf_ok ok k) ha q)
      | lck ks ds =>
        obtain ⟨xs, od, rfl, hl, hnd, ha⟩ := hc
        unfold cellV at e
        dsimp only at e
        cases q : pdsW (vf k c.μ) ds with
        | none => rw [q] at e; cases e
        | some ps =>
          rw [q] at e
          cases Option.some.inj e
          exact .dct (.inr ⟨od, ho⟩) hl hnd (dpa_pdW ok.s (vf_ok ok k) ha q)
      | obj C ks ds => cases e
    · cases e
theorem dp_view (ok : Ok W c) {d : D} {v : V} {p : PyData} (h : Dp W c v d) (e : d.view c.μ = some p) : Cs.Dp W.K c.H v p := dp_pdW ok.s (vf_ok ok 4) h e
def seqL (μ : Store) : D → Option (List D)
  | .lst ds => some ds
  | .own n => match μ[n]? with
    | some (some (.lst ds)) => some ds
    | _ => none
  | _ => none
def seqT : D → Option (List D)
  | .tup ds => some ds
  | _ => none
def dctOf (μ : Store) : D → Option (List Key × List D)
  | .dct ks ds => some (ks, ds)
  | .own n => match μ[n]? with
    | some (some (.dct ks ds)) => some (ks, ds)
    | some (some (.lck ks ds)) => some (ks, ds)
    | _ => none
  | _ => none
def objOf (μ : Store) : D → Option (String × List Str × List D)
  | .obj C ks ds => some (C, ks, ds)
  | .own n => match μ[n]? with
    | some (some (.obj C ks ds)) => some (C, ks, ds)
    | _ => none
  | _ => none
theorem seqL_ok (ok : Ok W c) {d : D} {v : V} {ds : List D} (h : Dp W c v d) (e : seqL c.μ d = some ds) : ∃ a xs, v = .ref a ∧ SqL W.K c.H a xs ∧ DpA W c xs ds := by
  cases h with
  | lst hs ha =>
    cases Option.some.inj e
    exact ⟨_, _, rfl, ok.s.seq hs, ha⟩
  | own hn =>
    unfold seqL at e
    dsimp only at e
    split at e
    · rename_i x hx
      cases Option.some.inj e
      obtain ⟨_, o, ho, xs, rfl, ha⟩ := ok.at' _ _ hx
      exact ⟨_, xs, rfl, .inl (.inl ho), ha⟩
    · cases e
  | _ => cases e
theorem seqT_ok (ok : Ok W c) {d : D} {v : V} {ds : List D} (h : Dp W c v d) (e : seqT d = some ds) : ∃ a xs, v = .ref a ∧ SqT W.K c.H a xs ∧ DpA W c xs ds := by
  cases h with
  | tup hs ha =>
    cases Option.some.inj e
    exact ⟨_, _, rfl, Cs.sqt_mono ok.s hs, ha⟩
  | _ => cases e
theorem dct_ok (ok : Ok W c) {d : D} {v : V} {ks : List Key} {ds : List D} (h : Dp W c v d) (e : dctOf c.μ d = some (ks, ds)) : ∃ a xs, v = .ref a ∧ Rd c.H a (.dK (Cs.kvL ks xs)) ∧ ks.length = xs.length ∧ ks.Nodup ∧ DpA W c xs ds := by
  cases h with
  | dct hr hl hn ha =>
    cases Option.some.inj e
    exact ⟨_, _, rfl, Cs.rd_same ok.s hr, hl, hn, ha⟩
  | own hn =>
    unfold dctOf at e
    dsimp only at e
    split at e
    · rename_i x hx
      cases Option.some.inj e
      obtain ⟨_, o, ho, xs, rfl, hl, hnd, ha⟩ := ok.at' _ _ hx
      exact ⟨_, xs, rfl, .inl ho, hl, hnd, ha⟩
    · rename_i x hx
      cases Option.some.inj e
      obtain ⟨_, o, ho, xs, od, rfl, hl, hnd, ha⟩ := ok.at' _ _ hx
      exact ⟨_, xs, rfl, .inr ⟨od, ho⟩, hl, hnd, ha⟩
    · cases e
  | _ => cases e
theorem obj_ok (ok : Ok W c) {d : D} {v : V} {C : String} {ks : List Str} {ds : List D} (h : Dp W c v d) (e : objOf c.μ d = some (C, ks, ds)) : ∃ a g dx xs, v = .ref a ∧ W.cm C = some g ∧ c.H a = some (.ins g dx (fsL ks xs)) ∧ ks.length = xs.length ∧ DpA W c xs ds := by
  cases h with
  | obj hc hg hl ha =>
    cases Option.some.inj e
    exact ⟨_, _, _, _, rfl, hc, ok.s _ _ hg, hl, ha⟩
  | own hn =>
    unfold objOf at e
    dsimp only at e
    split at e
    · rename_i x hx
      cases Option.some.inj e
      obtain ⟨_, o, ho, g, dx, xs, hc, rfl, hl, ha⟩ := ok.at' _ _ hx
      exact ⟨_, g, dx, xs, rfl, hc, ho, hl, ha⟩
    · cases e
  | _ => cases e
def newL (b : Bool) (ds : List D) (μ : Store) : Res D := if b = true then .ok (.own μ.length) (μ ++ [some (.lst ds)]) else .ok (.lst ds) μ
def newK (b : Bool) (ks : List Key) (ds : List D) (μ : Store) : Res D := if b = true then .ok (.own μ.length) (μ ++ [some (.dct ks ds)]) else .ok (.dct ks ds) μ
variable {Q : VK} {E : XK}
theorem own_top {p : Addr} {o : HO} {x : Cell} : Dp W (c.add p o x) (.ref p) (.own c.μ.length) := by
  have e : (c.add p o x).ι c.μ.length = p := by simp [Cf.add]
  have := Dp.own (W := W) (c := c.add p o x) (n := c.μ.length) (by simp [Cf.add])
  rw [e] at this; exact this
theorem wp_newL {b : Bool} {ds : List D} {xs : List V} {p : Addr} (h : Wp W (Dp W) (newL b ds c.μ) c Q E) (ok : Ok W c) (ha : DpA W c xs ds) (hp : c.H p = none) : Q (.ref p) (upd c.H p (.lst xs)) := by
  cases b with
  | true =>
    obtain ⟨h1, h2⟩ := step_add (x := .lst ds) ok hp ⟨xs, rfl, ha⟩
    exact h (.ref p) _ rfl h2 h1 own_top
  | false =>
    obtain ⟨h1, h2⟩ := step_new (o := .lst xs) ok hp
    exact h (.ref p) (c.to (upd c.G p (.lst xs)) (upd c.H p (.lst xs))) rfl h2 h1 (.lst (.inl (.inl upd_same)) (dpa_mono h2.le ha))
theorem wp_newK {b : Bool} {ks : List Key} {ds : List D} {xs : List V} {p : Addr} (h : Wp W (Dp W) (newK b ks ds c.μ) c Q E) (ok : Ok W c) (ha : DpA W c xs ds) (hl : ks.length = xs.length) (hn : ks.Nodup) (hp : c.H p = none) : Q (.ref p) (upd c.H p (.dK (Cs.kvL ks xs))) := by
  cases b with
  | true =>
    obtain ⟨h1, h2⟩ := step_add (x := .dct ks ds) ok hp ⟨xs, rfl, hl, hn, ha⟩
    exact h (.ref p) _ rfl h2 h1 own_top
  | false =>
    obtain ⟨h1, h2⟩ := step_new (o := .dK (Cs.kvL ks xs)) ok hp
    exact h (.ref p) (c.to (upd c.G p (.dK (Cs.kvL ks xs))) (upd c.H p (.dK (Cs.kvL ks xs)))) rfl h2 h1 (.dct (.inl upd_same) hl hn (dpa_mono h2.le ha))
theorem wp_newT {ds : List D} {xs : List V} {p : Addr} (h : Wp W (Dp W) (.ok (.tup ds) c.μ) c Q E) (ok : Ok W c) (ha : DpA W c xs ds) (hp : c.H p = none) : Q (.ref p) (upd c.H p (.tup xs)) := by
  obtain ⟨h1, h2⟩ := step_new (o := .tup xs) ok hp
  exact h (.ref p) (c.to (upd c.G p (.tup xs)) (upd c.H p (.tup xs))) rfl h2 h1 (.tup (.inl (.inl upd_same)) (dpa_mono h2.le ha))
end
def EnvR (W : Wd) (c : Cf) (σ : L2.St) (ρ : Env) : Prop := σ.length = ρ.length ∧ ∀ (i : Nat) (d : D), ρ[i]? = some (some d) → ∃ v, σ[i]? = some (some v) ∧ Dp W c v d
theorem EnvR.mono {W : Wd} {c c' : Cf} {σ : L2.St} {ρ : Env} (e : Le c c') (h : EnvR W c σ ρ) : EnvR W c' σ ρ := ⟨h.1, fun i d q => by
  obtain ⟨v, h1, h2⟩ := h.2 i d q
  exact ⟨v, h1, dp_mono e h2⟩⟩
theorem EnvR.set {W : Wd} {c : Cf} {σ : L2.St} {ρ : Env} {v : V} {d : D} (i : Nat) (h : EnvR W c σ ρ) (r : Dp W c v d) : EnvR W c (σ.set i (some v)) (ρ.set i (some d)) := by
  refine ⟨by rw [List.length_set, List.length_set]; exact h.1, fun j e q => ?_⟩
  by_cases hj : i = j
  · subst hj
    have hl : i < ρ.length := by
      have := (List.getElem?_eq_some_iff.mp q).1
      rwa [List.length_set] at this
    rw [List.getElem?_set_self hl] at q
    cases Option.some.inj (Option.some.inj q)
    exact ⟨v, List.getElem?_set_self (by rw [h.1]; exact hl), r⟩
  · rw [List.getElem?_set_ne hj] at q
    obtain ⟨u, h1, h2⟩ := h.2 j e q
    exact ⟨u, by rw [List.getElem?_set_ne hj]; exact h1, h2⟩
theorem EnvR.unset {W : Wd} {c : Cf} {σ : L2.St} {ρ : Env} (i : Nat) (h : EnvR W c σ ρ) : EnvR W c (σ.set i none) (ρ.set i none) := by
  refine ⟨by rw [List.length_set, List.length_set]; exact h.1, fun j e q => ?_⟩
  by_cases hj : i = j
  · subst hj
    have hl : i < ρ.length := by
      have := (List.getElem?_eq_some_iff.mp q).1
      rwa [List.length_set] at this
    rw [List.getElem?_set_self hl] at q
    cases Option.some.inj q
  · rw [List.getElem?_set_ne hj] at q
    obtain ⟨u, h1, h2⟩ := h.2 j e q
    exact ⟨u, by rw [List.getElem?_set_ne hj]; exact h1, h2⟩
def wipeD (ρ : Env) : List Nat → Env
  | [] => ρ
  | v :: vs => (wipeD ρ vs).set v none
theorem EnvR.wipe {W : Wd} {c : Cf} {σ : L2.St} {ρ : Env} (h : EnvR W c σ ρ) : ∀ vs : List Nat, EnvR W c (L2.wipe σ vs) (wipeD ρ vs)
  | [] => h
  | v :: vs => (EnvR.wipe h vs).unset v
def startD (n : Nat) (ds : List D) : Env := ds.map some ++ List.replicate (n - ds.length) none
theorem EnvR.start {W : Wd} {c : Cf} {N : List Str} {vs : List V} {ds : List D} (h : DpA W c vs ds) : EnvR W c (L2.start N vs) (startD N.length ds) := by
  have hl := dpa_len h
  refine ⟨by simp [L2.start, startD, hl], fun i d q => ?_⟩
  unfold startD at q
  by_cases hi : i < ds.length
  · rw [List.getElem?_append_left (by simpa using hi), List.getElem?_map] at q
    cases e : ds[i]? with
    | none => rw [e] at q; cases q
    | some d' =>
      rw [e] at q
      cases Option.some.inj (Option.some.inj q)
      obtain ⟨v, h1, h2⟩ := dpa_get h e
      refine ⟨v, ?_, h2⟩
      unfold L2.start
      rw [List.getElem?_append_left (by simp; omega), List.getElem?_map, h1]; rfl
  · rw [List.getElem?_append_right (by simp; omega)] at q
    rw [List.getElem?_replicate] at q
    split at q
    · cases Option.some.inj q
    · cases q
section
variable (W : Wd) (E : XK)
def tE (m : ME) : TE := fun σ H Q => ∃ ρ c, c.H = H ∧ Ok W c ∧ EnvR W c σ ρ ∧ Wp W (Dp W) (m ρ c.μ) c Q E
def tT (m : MT) : TT := fun σ H Q => ∃ ρ c, c.H = H ∧ Ok W c ∧ EnvR W c σ ρ ∧ Wp W (fun _ (b d : Bool) => b = d) (m ρ c.μ) c Q E
def tA (m : MA) : TA := fun σ H Q => ∃ ρ c, c.H = H ∧ Ok W c ∧ EnvR W c σ ρ ∧ Wp W (DpA W) (m ρ c.μ) c Q E
end
section
variable {W : Wd} {E : XK} {X : Cx} {e : Expr} {es : List Expr}
theorem pe_weak {t t' : TE} (h : PE X e t) (f : ∀ σ H Q, t' σ H Q → t σ H Q) : PE X e t' := ⟨fun pins s σ H Q I q => h.run pins s σ H Q I (f _ _ _ q)⟩
theorem pt_weak {t t' : TT} (h : PT X e t) (f : ∀ σ H Q, t' σ H Q → t σ H Q) : PT X e t' := ⟨fun pins s σ H Q I q => h.run pins s σ H Q I (f _ _ _ q)⟩
theorem pw_weak {t t' : TT} (h : PW X e t) (f : ∀ σ H Q, t' σ H Q → t σ H Q) : PW X e t' := ⟨fun wh pins s σ H Q I q => h.run wh pins s σ H Q I (f _ _ _ q)⟩
theorem pa_weak {t t' : TA} (h : PA X es t) (f : ∀ σ H Q, t' σ H Q → t σ H Q) : PA X es t' := ⟨fun p pins s σ H Q I q => h.run p pins s σ H Q I (f _ _ _ q)⟩
def mVar (i : Nat) : ME := fun ρ μ => match ρ[i]? with
  | some (some d) => .ok d μ
  | _ => .bad
theorem me_var {i : Nat} (h : PE X e (tVar i)) : PE X e (tE W E (mVar i)) := pe_weak h fun σ H Q ⟨ρ, c, hH, ok, env, w⟩ => by
  subst hH
  unfold mVar at w
  split at w
  · rename_i d hd
    obtain ⟨v, h1, h2⟩ := env.2 i d hd
    exact ⟨v, h1, wp_ret w ok h2⟩
  · exact w.elim
def mC (d : D) : ME := fun _ μ => .ok d μ
theorem me_c {v : V} {d : D} (h : PE X e (tC v)) (hd : ∀ c, Dp W c v d) : PE X e (tE W E (mC d)) := pe_weak h fun σ H Q ⟨ρ, c, hH, ok, env, w⟩ => by
  subst hH
  exact wp_ret w ok (hd c)
theorem me_non (h : PE X e (tC .non)) : PE X e (tE W E (mC .non)) := me_c h fun _ => .non
theorem me_bl {b : Bool} (h : PE X e (tC (.bl b))) : PE X e (tE W E (mC (.bl b))) := me_c h fun _ => .bl b
theorem me_int {i : Int} (h : PE X e (tC (.int i))) : PE X e (tE W E (mC (.int i))) := me_c h fun _ => .int i
theorem me_str {x : Str} (h : PE X e (tC (.str x))) : PE X e (tE W E (mC (.str x))) := me_c h fun _ => .str x
def OpM (W : Wd) (E : XK) (r : R2) (f : D → D → Store → Res D) : Prop := ∀ c x y v u Q, Ok W c → Dp W c v x → Dp W c u y → Wp W (Dp W) (f x y c.μ) c Q E → r v u c.H Q
def mOp (f : D → D → Store → Res D) (a b : ME) : ME := fun ρ μ => (a ρ μ).bind fun x μ => (b ρ μ).bind fun y μ => f x y μ
theorem te_op {r : R2} {f : D → D → Store → Res D} {a b : ME} {σ : L2.St} {H : Hp} {Q : VK} (hf : OpM W E r f) (h : tE W E (mOp f a b) σ H Q) : tOp r (tE W E a) (tE W E b) σ H Q := by
  obtain ⟨ρ, c, hH, ok, env, w⟩ := h
  exact ⟨ρ, c, hH, ok, env, wp_bind w fun v x c1 s1 ok1 r1 w1 => ⟨ρ, c1, rfl, ok1, env.mono s1.le, wp_bind w1 fun u y c2 s2 ok2 r2 w2 => hf c2 x y v u Q ok2 (dp_mono s2.le r1) r2 w2⟩⟩
theorem me_op {r : R2} {f : D → D → Store → Res D} {a b : ME} (hf : OpM W E r f) (h : PE X e (tOp r (tE W E a) (tE W E b))) : PE X e (tE W E (mOp f a b)) := pe_weak h fun _ _ _ => te_op hf
def UnM (W : Wd) (E : XK) (r : V → Hp → VK → Prop) (f : D → Store → Res D) : Prop := ∀ c x v Q, Ok W c → Dp W c v x → Wp W (Dp W) (f x c.μ) c Q E → r v c.H Q
def mUn (f : D → Store → Res D) (a : ME) : ME := fun ρ μ => (a ρ μ).bind f
theorem me_un {r : V → Hp → VK → Prop} {f : D → Store → Res D} {a : ME} (hf : UnM W E r f) (h : PE X e (tUn r (tE W E a))) : PE X e (tE W E (mUn f a)) := pe_weak h fun σ H Q ⟨ρ, c, hH, ok, env, w⟩ =>
  ⟨ρ, c, hH, ok, env, wp_bind w fun v x c1 s1 ok1 r1 w1 => hf c1 x v Q ok1 r1 w1⟩
def CbM (W : Wd) (E : XK) (r : List V → Hp → VK → Prop) (f : List D → Store → Res D) : Prop := ∀ c xs vs Q, Ok W c → DpA W c vs xs → Wp W (Dp W) (f xs c.μ) c Q E → r vs c.H Q
def mCb (f : List D → Store → Res D) (a : MA) : ME := fun ρ μ => (a ρ μ).bind f
theorem me_cb {r : List V → Hp → VK → Prop} {f : List D → Store → Res D} {a : MA} (hf : CbM W E r f) (h : PE X e (tCB r (tA W E a))) : PE X e (tE W E (mCb f a)) := pe_weak h fun σ H Q ⟨ρ, c, hH, ok, env, w⟩ =>
  ⟨ρ, c, hH, ok, env, wp_bind w fun v x c1 s1 ok1 r1 w1 => hf c1 x v Q ok1 r1 w1⟩
def mChain (f g : D → D → Store → Res D) (a b d : ME) : ME := fun ρ μ => (a ρ μ).bind fun x μ => (b ρ μ).bind fun y μ => (f x y μ).bind fun z μ => match z with
  | .bl true => (d ρ μ).bind fun w μ => g y w μ
  | .bl false => .ok (.bl false) μ
  | _ => .bad
theorem wp_chain {f g : D → D → Store → Res D} {d : ME} {ρ : Env} {σ : L2.St} {c c2 : Cf} {x y : D} {u : V} {r' : R2} {Q : VK} (w2 : Wp W (Dp W) ((f x y c2.μ).bind fun z μ => match z with
  | .bl true => (d ρ μ).bind fun w μ => g y w μ
  | .bl false => .ok (.bl false) μ
  | _ => .bad) c2 Q E) (env : EnvR W c σ ρ) (s : Step c c2) (r2 : Dp W c2 u y) (hg : OpM W E r' g) : Wp W (Dp W) (f x y c2.μ) c2 (fun z H3 => ∃ k, z = .bl k ∧ (if k = true then tE W E d σ H3 fun w' H4 => r' u w' H4 Q else Q (.bl false) H3)) E :=
    wp_bind w2 fun z dz c3 s3 ok3 r3 w3 => by
      cases r3 with
      | bl b =>
        refine ⟨b, rfl, ?_⟩
        cases b with
        | true =>
          rw [if_pos rfl]
          exact ⟨ρ, c3, rfl, ok3, env.mono (s.le.trans s3.le), wp_bind w3 fun t dt c4 s4 ok4 r4 w4 => hg c4 y dt u t Q ok4 (dp_mono (s3.le.trans s4.le) r2) r4 w4⟩
        | false =>
          rw [if_neg Bool.false_ne_true]
          exact wp_ret w3 ok3 (.bl false)
      | _ => exact w3.elim
theorem te_chain {r r' : R2} {f g : D → D → Store → Res D} {a b d : ME} {σ : L2.St} {H : Hp} {Q : VK} (hf : OpM W E r f) (hg : OpM W E r' g) (h : tE W E (mChain f g a b d) σ H Q) : tChain r r' (tE W E a) (tE W E b) (tE W E d) σ H Q := by
  obtain ⟨ρ, c, hH, ok, env, w⟩ := h
  exact ⟨ρ, c, hH, ok, env, wp_bind w fun v x c1 s1 ok1 r1 w1 => ⟨ρ, c1, rfl, ok1, env.mono s1.le, wp_bind w1 fun u y c2 s2 ok2 r2 w2 => hf c2 x y v u _ ok2 (dp_mono s2.le r1) r2 (wp_chain w2 env (s1.trans s2) r2 hg)⟩⟩
theorem me_chain {r r' : R2} {f g : D → D → Store → Res D} {a b d : ME} (hf : OpM W E r f) (hg : OpM W E r' g) (h : PE X e (tChain r r' (tE W E a) (tE W E b) (tE W E d))) : PE X e (tE W E (mChain f g a b d)) := pe_weak h fun _ _ _ => te_chain hf hg
def mAndV (a b : ME) : ME := fun ρ μ => (a ρ μ).bind fun x μ => match x with
  | .bl true => b ρ μ
  | .bl false => .ok (.bl false) μ
  | _ => .bad
def mOrV (a b : ME) : ME := fun ρ μ => (a ρ μ).bind fun x μ => match x with
  | .bl false => b ρ μ
  | .bl true => .ok (.bl true) μ
  | _ => .bad
def mNotV (a : ME) : ME := fun ρ μ => (a ρ μ).bind fun x μ => match x with
  | .bl k => .ok (.bl (!k)) μ
  | _ => .bad
theorem me_and {a b : ME} (h : PE X e (tAndV (tE W E a) (tE W E b))) : PE X e (tE W E (mAndV a b)) := pe_weak h fun σ H Q ⟨ρ, c, hH, ok, env, w⟩ =>
  ⟨ρ, c, hH, ok, env, wp_bind w fun v x c1 s1 ok1 r1 w1 => by
    cases r1 with
    | bl k =>
      refine ⟨k, rfl, ?_⟩
      cases k with
      | true => rw [if_pos rfl]; exact ⟨ρ, c1, rfl, ok1, env.mono s1.le, w1⟩
      | false => rw [if_neg Bool.false_ne_true]; exact wp_ret w1 ok1 (.bl false)
    | _ => exact w1.elim⟩
theorem me_or {a b : ME} (h : PE X e (tOrV (tE W E a) (tE W E b))) : PE X e (tE W E (mOrV a b)) := pe_weak h fun σ H Q ⟨ρ, c, hH, ok, env, w⟩ =>
  ⟨ρ, c, hH, ok, env, wp_bind w fun v x c1 s1 ok1 r1 w1 => by
    cases r1 with
    | bl k =>
      refine ⟨k, rfl, ?_⟩
      cases k with
      | true => rw [if_pos rfl]; exact wp_ret w1 ok1 (.bl true)
      | false => rw [if_neg Bool.false_ne_true]; exact ⟨ρ, c1, rfl, ok1, env.mono s1.le, w1⟩
    | _ => exact w1.elim⟩
theorem me_not {a : ME} (h : PE X e (tNotV (tE W E a))) : PE X e (tE W E (mNotV a)) := pe_weak h fun σ H Q ⟨ρ, c, hH, ok, env, w⟩ =>
  ⟨ρ, c, hH, ok, env, wp_bind w fun v x c1 s1 ok1 r1 w1 => by
    cases r1 with
    | bl k => exact ⟨k, rfl, wp_ret w1 ok1 (.bl _)⟩
    | _ => exact w1.elim⟩
def truD (μ : Store) : D → Option Bool
  | .non => some false
  | .bl b => some b
  | .int i => some (i != 0)
  | .str x => if x.length ≤ sizeLine then some ((x.length : Int) != 0) else none
  | .lst ds => some (!ds.isEmpty)
  | .tup ds => some (!ds.isEmpty)
  | .own n => match μ[n]? with
    | some (some (.lst ds)) => some (!ds.isEmpty)
    | some (some (.dct ks _)) => some (!ks.isEmpty)
    | _ => none
  | _ => none
theorem isEmpty_len {α β : Type} {xs : List α} {ys : List β} (h : xs.length = ys.length) : xs.isEmpty = ys.isEmpty := by
  cases xs <;> cases ys <;> simp_all
theorem kvL_len {ks : List Key} {xs : List V} (h : ks.length = xs.length) : (Cs.kvL ks xs).length = ks.length := by simp [Cs.kvL, h]
theorem tru_of {c : Cf} {v : V} {d : D} {k : Bool} (ok : Ok W c) (h : Dp W c v d) (e : truD c.μ d = some k) : TruV W.K v c.H k := by
  cases h with
  | non => cases Option.some.inj e; rfl
  | bl b => cases Option.some.inj e; rfl
  | int i => cases Option.some.inj e; rfl
  | str x =>
    unfold truD at e
    dsimp only at e
    split at e
    · rename_i hx
      cases Option.some.inj e
      exact ⟨hx, rfl⟩
    · cases e
  | lst hs ha => cases Option.some.inj e; exact .inl ⟨_, ok.s.seq hs, by rw [isEmpty_len (dpa_len ha)]⟩
  | tup hs ha => cases Option.some.inj e; exact .inr (.inl ⟨_, Cs.sqt_mono ok.s hs, by rw [isEmpty_len (dpa_len ha)]⟩)
  | own hn =>
    unfold truD at e
    dsimp only at e
    split at e
    · rename_i ds hx
      cases Option.some.inj e
      obtain ⟨_, o, ho, xs, rfl, ha⟩ := ok.at' _ _ hx
      exact .inl ⟨xs, .inl (.inl ho), by rw [isEmpty_len (dpa_len ha)]⟩
    · rename_i ks ds hx
      cases Option.some.inj e
      obtain ⟨_, o, ho, xs, rfl, hl, _, ha⟩ := ok.at' _ _ hx
      exact .inr (.inr ⟨_, ho, by rw [isEmpty_len (kvL_len hl)]⟩)
    · cases e
  | _ => cases e
def mOrT (a b : ME) : ME := fun ρ μ => (a ρ μ).bind fun x μ => match truD μ x with
  | some false => b ρ μ
  | some true => .ok x μ
  | none => .bad
theorem me_orT {a b : ME} (h : PE X e (tOrT W.K (tE W E a) (tE W E b))) : PE X e (tE W E (mOrT a b)) := pe_weak h fun σ H Q ⟨ρ, c, hH, ok, env, w⟩ =>
  ⟨ρ, c, hH, ok, env, wp_bind w fun v x c1 s1 ok1 r1 w1 => by
    split at w1
    · rename_i e; exact ⟨false, tru_of ok1 r1 e, by rw [if_neg Bool.false_ne_true]; exact ⟨ρ, c1, rfl, ok1, env.mono s1.le, w1⟩⟩
    · rename_i e; exact ⟨true, tru_of ok1 r1 e, by rw [if_pos rfl]; exact wp_ret w1 ok1 r1⟩
    · exact w1.elim⟩
def mB (a : ME) : MT := fun ρ μ => (a ρ μ).bind fun x μ => match x with
  | .bl k => .ok k μ
  | _ => .bad
def mTru (a : ME) : MT := fun ρ μ => (a ρ μ).bind fun x μ => match truD μ x with
  | some k => .ok k μ
  | none => .bad
theorem tb_of {a : ME} {σ : L2.St} {H : Hp} {Q : Bool → Hp → Prop} (h : tT W E (mB a) σ H Q) : tE W E a σ H fun x H1 => ∃ k, x = .bl k ∧ Q k H1 := by
  obtain ⟨ρ, c, hH, ok, env, w⟩ := h
  refine ⟨ρ, c, hH, ok, env, wp_bind w fun v x c1 s1 ok1 r1 w1 => ?_⟩
  cases r1 with
  | bl k => exact ⟨k, rfl, wp_ret w1 ok1 rfl⟩
  | _ => exact w1.elim
theorem mt_val {a : ME} (h : PT X e (tB (tE W E a))) : PT X e (tT W E (mB a)) := pt_weak h fun _ _ _ => tb_of
theorem mt_cmp {r : R2} {f : D → D → Store → Res D} {a b : ME} (hf : OpM W E r f) (h : PT X e (tTest (tOp r (tE W E a) (tE W E b)))) : PT X e (tT W E (mB (mOp f a b))) := pt_weak h fun _ _ _ q => te_op hf (tb_of q)
theorem mt_chain {r r' : R2} {f g : D → D → Store → Res D} {a b d : ME} (hf : OpM W E r f) (hg : OpM W E r' g) (h : PT X e (tTest (tChain r r' (tE W E a) (tE W E b) (tE W E d)))) : PT X e (tT W E (mB (mChain f g a b d))) := pt_weak h fun _ _ _ q => te_chain hf hg (tb_of q)
def mAnd (a b : MT) : MT := fun ρ μ => (a ρ μ).bind fun x μ => if x = true then b ρ μ else .ok false μ
def mOr (a b : MT) : MT := fun ρ μ => (a ρ μ).bind fun x μ => if x = true then .ok true μ else b ρ μ
def mNot (a : MT) : MT := fun ρ μ => (a ρ μ).bind fun x μ => .ok (!x) μ
theorem tt_and {a b : MT} {σ : L2.St} {H : Hp} {Q : Bool → Hp → Prop} (h : tT W E (mAnd a b) σ H Q) : L2.tAnd (tT W E a) (tT W E b) σ H Q := by
  obtain ⟨ρ, c, hH, ok, env, w⟩ := h
  refine ⟨ρ, c, hH, ok, env, wp_bind w fun v x c1 s1 ok1 r1 w1 => ?_⟩
  subst r1
  cases v with
  | true => rw [if_pos rfl] at w1 ⊢; exact ⟨ρ, c1, rfl, ok1, env.mono s1.le, w1⟩
  | false => rw [if_neg Bool.false_ne_true] at w1 ⊢; exact wp_ret w1 ok1 rfl
theorem tt_or {a b : MT} {σ : L2.St} {H : Hp} {Q : Bool → Hp → Prop} (h : tT W E (mOr a b) σ H Q) : L2.tOr (tT W E a) (tT W E b) σ H Q := by
  obtain ⟨ρ, c, hH, ok, env, w⟩ := h
  refine ⟨ρ, c, hH, ok, env, wp_bind w fun v x c1 s1 ok1 r1 w1 => ?_⟩
  subst r1
  cases v with
  | false => rw [if_neg Bool.false_ne_true] at w1 ⊢; exact ⟨ρ, c1, rfl, ok1, env.mono s1.le, w1⟩
  | true => rw [if_pos rfl] at w1 ⊢; exact wp_ret w1 ok1 rfl
theorem mw_and {a b : MT} (h : PW X e (L2.tAnd (tT W E a) (tT W E b))) : PW X e (tT W E (mAnd a b)) := pw_weak h fun _ _ _ => tt_and
theorem mw_or {a b : MT} (h : PW X e (L2.tOr (tT W E a) (tT W E b))) : PW X e (tT W E (mOr a b)) := pw_weak h fun _ _ _ => tt_or
theorem mt_not {a : MT} (h : PT X e (L2.tNot (tT W E a))) : PT X e (tT W E (mNot a)) := pt_weak h fun σ H Q ⟨ρ, c, hH, ok, env, w⟩ =>
  ⟨ρ, c, hH, ok, env, wp_bind w fun v x c1 s1 ok1 r1 w1 => by
    subst r1
    exact wp_ret w1 ok1 rfl⟩
def mIf (t : MT) (a b : ME) : ME := fun ρ μ => (t ρ μ).bind fun x μ => if x = true then a ρ μ else b ρ μ
theorem me_if {t : MT} {a b : ME} (h : PE X e (tIf (tT W E t) (tE W E a) (tE W E b))) : PE X e (tE W E (mIf t a b)) := pe_weak h fun σ H Q ⟨ρ, c, hH, ok, env, w⟩ =>
  ⟨ρ, c, hH, ok, env, wp_bind w fun v x c1 s1 ok1 r1 w1 => by
    subst r1
    cases v with
    | true => rw [if_pos rfl] at w1 ⊢; exact ⟨ρ, c1, rfl, ok1, env.mono s1.le, w1⟩
    | false => rw [if_neg Bool.false_ne_true] at w1 ⊢; exact ⟨ρ, c1, rfl, ok1, env.mono s1.le, w1⟩⟩
def mNil : MA := fun _ μ => .ok [] μ
def mCons (a : ME) (b : MA) : MA := fun ρ μ => (a ρ μ).bind fun x μ => (b ρ μ).bind fun xs μ => .ok (x :: xs) μ
theorem ma_nil (h : PA X es tNil) : PA X es (tA W E mNil) := pa_weak h fun σ H Q ⟨ρ, c, hH, ok, env, w⟩ => by
  subst hH
  exact wp_ret w ok .nil
theorem ma_cons {a : ME} {b : MA} (h : PA X es (tCons (tE W E a) (tA W E b))) : PA X es (tA W E (mCons a b)) := pa_weak h fun σ H Q ⟨ρ, c, hH, ok, env, w⟩ =>
  ⟨ρ, c, hH, ok, env, wp_bind w fun v x c1 s1 ok1 r1 w1 => ⟨ρ, c1, rfl, ok1, env.mono s1.le, wp_bind w1 fun vs xs c2 s2 ok2 r2 w2 => wp_ret w2 ok2 (.cons (dp_mono s2.le r1) r2)⟩⟩
def mTup (a : MA) : ME := fun ρ μ => (a ρ μ).bind fun xs μ => if xs.length ≤ sizeLine then .ok (.tup xs) μ else .bad
def mLst (b : Bool) (a : MA) : ME := fun ρ μ => (a ρ μ).bind fun xs μ => if xs.length ≤ sizeLine then newL b xs μ else .bad
theorem me_tup {a : MA} (h : PE X e (tTup (tA W E a))) : PE X e (tE W E (mTup a)) := pe_weak h fun σ H Q ⟨ρ, c, hH, ok, env, w⟩ =>
  ⟨ρ, c, hH, ok, env, wp_bind w fun v x c1 s1 ok1 r1 w1 => by
    split at w1
    · rename_i hl; exact ⟨by rw [dpa_len r1]; exact hl, fun p hp => wp_newT w1 ok1 r1 hp⟩
    · exact w1.elim⟩
theorem me_lst {b : Bool} {a : MA} (h : PE X e (tLst (tA W E a))) : PE X e (tE W E (mLst b a)) := pe_weak h fun σ H Q ⟨ρ, c, hH, ok, env, w⟩ =>
  ⟨ρ, c, hH, ok, env, wp_bind w fun v x c1 s1 ok1 r1 w1 => by
    split at w1
    · rename_i hl; exact ⟨by rw [dpa_len r1]; exact hl, fun p hp => wp_newL w1 ok1 r1 hp⟩
    · exact w1.elim⟩
end
end Mi
namespace Mi
open PySem PySem.Spec L2
def WpS (W : Wd) (r : ResS) (c0 cs : Cf) (D : Ends) (E : XK) : Prop :=
  match r with
  | .nx ρ μ => ∀ σ c, c.μ = μ → Step c0 c → Le cs c → Ok W c → EnvR W c σ ρ → D.nx σ c.H
  | .rt d μ => ∀ v c, c.μ = μ → Step c0 c → Ok W c → Dp W c v d → D.rt v c.H
  | .bk ρ μ => ∀ σ c, c.μ = μ → Step c0 c → Le cs c → Ok W c → EnvR W c σ ρ → D.bk σ c.H
  | .ct ρ μ => ∀ σ c, c.μ = μ → Step c0 c → Le cs c → Ok W c → EnvR W c σ ρ → D.ct σ c.H
  | .exc x μ => ∀ u o c, c.μ = μ → Step c0 c → Ok W c → ExcAt W c u o x → E u o c.H
  | .bad => False
def Res.st {α : Type} (r : Res α) (f : α → Store → ResS) : ResS :=
  match r with
  | .ok a μ => f a μ
  | .exc x μ => .exc x μ
  | .bad => .bad
theorem wps_bind {β α : Type} {W : Wd} {R : Cf → β → α → Prop} {r : Res α} {f : α → Store → ResS} {c0 cs c : Cf} {D : Ends} {Q1 : β → Hp → Prop} {E : XK} (h : WpS W (r.st f) c0 cs D E) (s0 : Step c0 c)
    (k : ∀ v d c1, Step c0 c1 → Step c c1 → Ok W c1 → R c1 v d → WpS W (f d c1.μ) c0 cs D E → Q1 v c1.H) : Wp W R r c Q1 E := by
  cases r with
  | ok d μ => exact fun v c' e st ok r => k v d c' (s0.trans st) st ok r (by rw [e]; exact h)
  | exc x μ => exact fun u o c' e st ok r => h u o c' e (s0.trans st) ok r
  | bad => exact h
def tS (W : Wd) (E : XK) (m : MS) : TS := fun D σ H => ∃ c0 cs ρ c, c.H = H ∧ Ok W c ∧ Step c0 c ∧ Le cs c ∧ EnvR W c σ ρ ∧ WpS W (m c0.μ.length ρ c.μ) c0 cs D E
section
variable {W : Wd} {E : XK} {X : Cx} {st : Stmt} {ss : List Stmt} {e tg iter : Expr}
theorem ps_weak {t t' : TS} (h : PS X st t) (f : ∀ D σ H, t' D σ H → t D σ H) : PS X st t' := ⟨fun pins s σ H D I q => h.run pins s σ H D I (f _ _ _ q)⟩
theorem pss_weak {t t' : TS} (h : PSs X ss t) (f : ∀ D σ H, t' D σ H → t D σ H) : PSs X ss t' := ⟨fun pins s σ H D I q => h.run pins s σ H D I (f _ _ _ q)⟩
def mNext : MS := fun _ ρ μ => .nx ρ μ
def mSeq (a b : MS) : MS := fun n ρ μ => match a n ρ μ with
  | .nx ρ μ => b n ρ μ
  | r => r
theorem ts_nil {D : Ends} {σ : L2.St} {H : Hp} (h : tS W E mNext D σ H) : tNext D σ H := by
  obtain ⟨c0, cs, ρ, c, hH, ok, s, le, env, w⟩ := h
  subst hH
  exact w σ c rfl s le ok env
theorem mss_nil (h : PSs X ss tNext) : PSs X ss (tS W E mNext) := pss_weak h fun _ _ _ => ts_nil
theorem mss_cons {a b : MS} (h : PSs X ss (tSeq (tS W E a) (tS W E b))) : PSs X ss (tS W E (mSeq a b)) := pss_weak h fun D σ H ⟨c0, cs, ρ, c, hH, ok, s, le, env, w⟩ => by
  refine ⟨c0, cs, ρ, c, hH, ok, s, le, env, ?_⟩
  unfold mSeq at w
  cases e : a c0.μ.length ρ c.μ with
  | nx ρ' μ' => rw [e] at w; exact fun σ' c' e' s' le' ok' env' => ⟨c0, cs, ρ', c', rfl, ok', s', le', env', by rw [e']; exact w⟩
  | rt d μ' => rw [e] at w; exact w
  | bk ρ' μ' => rw [e] at w; exact w
  | ct ρ' μ' => rw [e] at w; exact w
  | exc x μ' => rw [e] at w; exact w
  | bad => rw [e] at w; exact w
def mRet (a : ME) : MS := fun _ ρ μ => (a ρ μ).st fun d μ => .rt d μ
def mRetN : MS := fun _ _ μ => .rt .non μ
def mDrop (a : ME) : MS := fun _ ρ μ => (a ρ μ).st fun _ μ => .nx ρ μ
theorem ms_ret {a : ME} (h : PS X st (tRet (tE W E a))) : PS X st (tS W E (mRet a)) := ps_weak h fun D σ H ⟨c0, cs, ρ, c, hH, ok, s, le, env, w⟩ =>
  ⟨ρ, c, hH, ok, env, wps_bind w s fun v d c1 s1 _ ok1 r1 w1 => w1 v c1 rfl s1 ok1 r1⟩
theorem ms_drop {a : ME} (h : PS X st (tDrop (tE W E a))) : PS X st (tS W E (mDrop a)) := ps_weak h fun D σ H ⟨c0, cs, ρ, c, hH, ok, s, le, env, w⟩ =>
  ⟨ρ, c, hH, ok, env, wps_bind w s fun v d c1 s1 s2 ok1 r1 w1 => w1 σ c1 rfl s1 (le.trans s2.le) ok1 (env.mono s2.le)⟩
def mBrk : MS := fun _ ρ μ => .bk ρ μ
def mCnt : MS := fun _ ρ μ => .ct ρ μ
def mIfS (t : MT) (a b : MS) : MS := fun n ρ μ => (t ρ μ).st fun k μ => if k = true then a n ρ μ else b n ρ μ
theorem ms_if {t : MT} {a b : MS} (h : PS X st (tIfS (tT W E t) (tS W E a) (tS W E b))) : PS X st (tS W E (mIfS t a b)) := ps_weak h fun D σ H ⟨c0, cs, ρ, c, hH, ok, s, le, env, w⟩ =>
  ⟨ρ, c, hH, ok, env, wps_bind w s fun v d c1 s1 s2 ok1 r1 w1 => by
    subst r1
    cases v with
    | true => rw [if_pos rfl] at w1 ⊢; exact ⟨c0, cs, ρ, c1, rfl, ok1, s1, le.trans s2.le, env.mono s2.le, w1⟩
    | false => rw [if_neg Bool.false_ne_true] at w1 ⊢; exact ⟨c0, cs, ρ, c1, rfl, ok1, s1, le.trans s2.le, env.mono s2.le, w1⟩⟩
abbrev MG := D → Env → Store → Res Env
abbrev MGs := List D → Env → Store → Res Env
def tG (W : Wd) (E : XK) (g : MG) : TG := fun v σ H k => ∃ ρ c d, c.H = H ∧ Ok W c ∧ EnvR W c σ ρ ∧ Dp W c v d ∧ Wp W (EnvR W) (g d ρ c.μ) c k E
def tGs (W : Wd) (E : XK) (g : MGs) : TGs := fun vs σ H k => ∃ ρ c ds, c.H = H ∧ Ok W c ∧ EnvR W c σ ρ ∧ DpA W c vs ds ∧ Wp W (EnvR W) (g ds ρ c.μ) c k E
theorem pg_weak {t t' : TG} (h : PG X e t) (f : ∀ v σ H Q, t' v σ H Q → t v σ H Q) : PG X e t' := ⟨fun pins s σ H v u Q I r q => h.run pins s σ H v u Q I r (f _ _ _ _ q)⟩
theorem pgs_weak {es : List Expr} {t t' : TGs} (h : PGs X es t) (f : ∀ v σ H Q, t' v σ H Q → t v σ H Q) : PGs X es t' := ⟨fun pins s σ H v u Q I r q => h.run pins s σ H v u Q I r (f _ _ _ _ q)⟩
def mgName (i : Nat) : MG := fun d ρ μ => .ok (ρ.set i (some d)) μ
theorem mg_name {i : Nat} (h : PG X e (gName i)) : PG X e (tG W E (mgName i)) := pg_weak h fun v σ H Q ⟨ρ, c, d, hH, ok, env, r, w⟩ => by
  subst hH
  exact wp_ret w ok (env.set i r)
def mgNil : MGs := fun ds ρ μ => match ds with
  | [] => .ok ρ μ
  | _ => .bad
def mgCons (a : MG) (b : MGs) : MGs := fun ds ρ μ => match ds with
  | d :: ds => (a d ρ μ).bind fun ρ μ => b ds ρ μ
  | [] => .bad
theorem mgs_nil {es : List Expr} (h : PGs X es gNil) : PGs X es (tGs W E mgNil) := pgs_weak h fun v σ H Q ⟨ρ, c, ds, hH, ok, env, r, w⟩ => by
  subst hH
  cases r with
  | nil => exact ⟨rfl, wp_ret w ok env⟩
  | cons => exact w.elim
theorem mgs_cons {es : List Expr} {a : MG} {b : MGs} (h : PGs X es (gCons (tG W E a) (tGs W E b))) : PGs X es (tGs W E (mgCons a b)) := pgs_weak h fun v σ H Q ⟨ρ, c, ds, hH, ok, env, r, w⟩ => by
  cases r with
  | nil => exact w.elim
  | cons h1 h2 => exact ⟨_, _, rfl, ρ, c, _, hH, ok, env, h1, wp_bind w fun σ1 ρ1 c1 s1 ok1 r1 w1 => ⟨ρ1, c1, _, rfl, ok1, r1, dpa_mono s1.le h2, w1⟩⟩
def mgTup (n : Nat) (g : MGs) : MG := fun d ρ μ => match d with
  | .tup ds => if ds.length = n then g ds ρ μ else .bad
  | _ => .bad
theorem mg_tup {n : Nat} {g : MGs} (h : PG X e (gTup W.K n (tGs W E g))) : PG X e (tG W E (mgTup n g)) := pg_weak h fun v σ H Q ⟨ρ, c, d, hH, ok, env, r, w⟩ => by
  cases r with
  | tup hs ha =>
    unfold mgTup at w
    dsimp only at w
    split at w
    · rename_i hn
      exact ⟨_, _, rfl, by rw [← hH]; exact Cs.sqt_mono ok.s hs, by rw [dpa_len ha]; exact hn, ρ, c, _, hH, ok, env, ha, w⟩
    · exact w.elim
  | _ => exact w.elim
def mAsg (a : ME) (g : MG) : MS := fun _ ρ μ => (a ρ μ).st fun d μ => (g d ρ μ).st fun ρ μ => .nx ρ μ
theorem ms_asg {a : ME} {g : MG} (h : PS X st (tAsg (tE W E a) (tG W E g))) : PS X st (tS W E (mAsg a g)) := ps_weak h fun D σ H ⟨c0, cs, ρ, c, hH, ok, s, le, env, w⟩ =>
  ⟨ρ, c, hH, ok, env, wps_bind w s fun v d c1 s1 s2 ok1 r1 w1 => ⟨ρ, c1, d, rfl, ok1, env.mono s2.le, r1, wps_bind w1 s1 fun σ2 ρ2 c2 s3 s4 ok2 r2 w2 => w2 σ2 c2 rfl s3 (le.trans (s2.le.trans s4.le)) ok2 r2⟩⟩
def mSet (i : Nat) (a : ME) : MS := fun _ ρ μ => (a ρ μ).st fun d μ => .nx (ρ.set i (some d)) μ
theorem ms_set {i : Nat} {a : ME} (h : PS X st (tAsg (tE W E a) (gName i))) : PS X st (tS W E (mSet i a)) := ps_weak h fun D σ H ⟨c0, cs, ρ, c, hH, ok, s, le, env, w⟩ =>
  ⟨ρ, c, hH, ok, env, wps_bind w s fun v d c1 s1 s2 ok1 r1 w1 => w1 _ c1 rfl s1 (le.trans s2.le) ok1 ((env.mono s2.le).set i r1)⟩
def mPar (i j : Nat) (a : MA) : MS := fun _ ρ μ => (a ρ μ).st fun ds μ => match ds with
  | [x, y] => .nx ((ρ.set i (some x)).set j (some y)) μ
  | _ => .bad
theorem ms_par {i j : Nat} {a : MA} (h : PS X st (tPar i j (tA W E a))) : PS X st (tS W E (mPar i j a)) := ps_weak h fun D σ H ⟨c0, cs, ρ, c, hH, ok, s, le, env, w⟩ =>
  ⟨ρ, c, hH, ok, env, wps_bind w s fun vs ds c1 s1 s2 ok1 r1 w1 => by
    split at w1
    · cases r1 with
      | cons h1 h2 =>
        cases h2 with
        | cons h2 h3 =>
          cases h3
          exact ⟨_, _, rfl, w1 _ c1 rfl s1 (le.trans s2.le) ok1 (((env.mono s2.le).set i h1).set j h2)⟩
    · exact w1.elim⟩
def frzC : Cell → Option D
  | .lst ds => some (.lst ds)
  | .dct ks ds => some (.dct ks ds)
  | .obj C ks ds => some (.obj C ks ds)
  | .lck _ _ => none
theorem frz_ok {c0 c : Cf} {n : Nat} {x : Cell} {d : D} (st : Step c0 c) (ok : Ok W c) (hx : c.μ[n]? = some (some x)) (hn : c0.μ.length ≤ n) (e : frzC x = some d) :
    ∃ c', c'.H = c.H ∧ c'.μ = c.μ.set n none ∧ Step c0 c' ∧ Ok W c' ∧ Le c c' ∧ Dp W c' (.ref (c.ι n)) d := by
  obtain ⟨_, o, ho, hc⟩ := ok.at' n x hx
  have l : live c.μ n := ⟨x, hx⟩
  obtain ⟨h1, h2⟩ := step_frz st ok l hn ho
  have le := le_frz (o := o) ok l
  refine ⟨c.frz n o, rfl, rfl, h2, h1, le, ?_⟩
  cases x with
  | lst ds =>
    obtain ⟨xs, rfl, ha⟩ := hc
    cases Option.some.inj e
    exact .lst (.inl (.inl upd_same)) (dpa_mono le ha)
  | dct ks ds =>
    obtain ⟨xs, rfl, hl, hnd, ha⟩ := hc
    cases Option.some.inj e
    exact .dct (.inl upd_same) hl hnd (dpa_mono le ha)
  | obj C ks ds =>
    obtain ⟨g, dx, xs, hg, rfl, hl, ha⟩ := hc
    cases Option.some.inj e
    exact .obj hg upd_same hl (dpa_mono le ha)
  | lck ks ds => cases e
def mFrz (i : Nat) (m : MS) : MS := fun n ρ μ => match ρ[i]? with
  | some (some (.own k)) => if n ≤ k then match μ[k]? with
      | some (some x) => match frzC x with
        | some d => m n (ρ.set i (some d)) (μ.set k none)
        | none => .bad
      | _ => .bad
    else .bad
  | _ => .bad
theorem ts_frz {i : Nat} {m : MS} {D : Ends} {σ : L2.St} {H : Hp} (h : tS W E (mFrz i m) D σ H) : tS W E m D σ H := by
  obtain ⟨c0, cs, ρ, c, hH, ok, s, le, env, w⟩ := h
  unfold mFrz at w
  split at w
  · rename_i k hk
    split at w
    · rename_i hn
      split at w
      · rename_i x hx
        split at w
        · rename_i d hd
          obtain ⟨c', h1, h2, h3, h4, h5, h6⟩ := frz_ok s ok hx hn hd
          refine ⟨c0, cs, _, c', h1.trans hH, h4, h3, le.trans h5, ?_, by rw [h2]; exact w⟩
          obtain ⟨v, hv, hr⟩ := env.2 i _ hk
          cases hr with
          | own _ =>
            have e2 := (env.mono h5).set i h6
            have : σ.set i (some (.ref (c.ι k))) = σ := by
              apply List.ext_getElem?
              intro j
              by_cases hj : i = j
              · subst hj
                rw [List.getElem?_set_self (List.getElem?_eq_some_iff.mp hv).1]; exact hv.symm
              · rw [List.getElem?_set_ne hj]
            rw [this] at e2
            exact e2
        · exact w.elim
      · exact w.elim
    · exact w.elim
  · exact w.elim
theorem ms_frz {i : Nat} {m : MS} (h : PS X st (tS W E m)) : PS X st (tS W E (mFrz i m)) := ps_weak h fun _ _ _ => ts_frz
structure Src where
  items : List D
  w : List Nat
def watch (w : List Nat) (μ μ' : Store) : Prop := ∀ n ∈ w, μ'[n]? = μ[n]?
theorem watch_nil {μ μ' : Store} : watch [] μ μ' := fun _ h => by cases h
structure WalksM (W : Wd) (J : It) (c : Cf) (s : Src) : Prop where
  ex : ∃ (Gd : Hp → Prop) (Y : Nat → Hp → V → Hp → Prop), Walk J s.items.length Gd Y ∧ (∀ c', Le c c' → c'.L = c.L → Ok W c' → watch s.w c.μ c'.μ → Gd c'.H) ∧
    ∀ i x c2 H', i < s.items.length → Le c c2 → c2.L = c.L → Ok W c2 → watch s.w c.μ c2.μ → Y i c2.H x H' → ∃ d G3, s.items[i]? = some d ∧ Cs.Grow Cs.NoM c2.G c2.H G3 H' ∧ Dp W (c2.to G3 H') x d
abbrev MI := Env → Store → Res Src
def tI (W : Wd) (E : XK) (m : MI) : TI := fun σ H R => ∃ ρ c, c.H = H ∧ Ok W c ∧ EnvR W c σ ρ ∧ Wp W (fun c J s => WalksM W J c s) (m ρ c.μ) c R E
theorem pi_weak {t t' : TI} (h : PI X tg iter t) (f : ∀ σ H Q, t' σ H Q → t σ H Q) : PI X tg iter t' := ⟨fun pins s σ H R I q => h.run pins s σ H R I (f _ _ _ q)⟩
open Classical in
noncomputable def forS (w : List Nat) (μ0 : Store) (g : MG) (body : MS) (n : Nat) : List D → Env → Store → ResS
  | [], ρ, μ => if watch w μ0 μ then .nx ρ μ else .bad
  | d :: ds, ρ, μ => if watch w μ0 μ then match g d ρ μ with
      | .ok ρ μ => match body n ρ μ with
        | .nx ρ μ => forS w μ0 g body n ds ρ μ
        | .ct ρ μ => forS w μ0 g body n ds ρ μ
        | .bk ρ μ => .nx ρ μ
        | r => r
      | .exc x μ => .exc x μ
      | .bad => .bad
    else .bad
noncomputable def mFor (i : MI) (g : MG) (body : MS) : MS := fun n ρ μ => (i ρ μ).st fun s μ => forS s.w μ g body n s.items ρ μ
theorem forS_watch {w : List Nat} {μ0 : Store} {g : MG} {body : MS} {n : Nat} {ds : List D} {ρ : Env} {μ : Store} {c0 cs : Cf} {D : Ends} (h : WpS W (forS w μ0 g body n ds ρ μ) c0 cs D E) : watch w μ0 μ := by
  cases ds with
  | nil =>
    unfold forS at h
    split at h
    · assumption
    · exact h.elim
  | cons d ds =>
    unfold forS at h
    split at h
    · assumption
    · exact h.elim
theorem ms_for {i : MI} {g : MG} {body : MS} (h : PS X st (tFor (tI W E i) (tG W E g) (tS W E body))) : PS X st (tS W E (mFor i g body)) := ps_weak h fun D σ H ⟨c0, cs, ρ, c, hH, ok, s, le, env, w⟩ => by
  refine ⟨ρ, c, hH, ok, env, wps_bind w s fun J src c1 s1 s2 ok1 hw w1 => ?_⟩
  obtain ⟨Gd, Y, wk, hG, hY⟩ := hw.ex
  refine for_it wk (fun i σ' H' => ∃ ρ' c', c'.H = H' ∧ Ok W c' ∧ Step c0 c' ∧ Le c1 c' ∧ EnvR W c' σ' ρ' ∧ WpS W (forS src.w c1.μ g body c0.μ.length (src.items.drop i) ρ' c'.μ) c0 cs D E)
    ⟨ρ, c1, rfl, ok1, s1, .refl _, env.mono s2.le, w1⟩ (fun i σ' H' _ ⟨ρ', c', hH', ok', st', le', env', w'⟩ => by rw [← hH']; exact hG c' le' (st'.lk.trans s1.lk.symm) ok' (forS_watch w')) ?_ ?_
  · rintro i x σ' H2 H3 hi ⟨ρ', c', rfl, ok', st', le', env', w'⟩ hy
    obtain ⟨d, G3, hd, g3, hx⟩ := hY i x c' H3 hi le' (st'.lk.trans s1.lk.symm) ok' (forS_watch w') hy
    have hdrop : src.items.drop i = d :: src.items.drop (i + 1) := by
      rw [List.drop_eq_getElem_cons hi]
      congr 1
      rw [List.getElem?_eq_getElem hi] at hd
      exact Option.some.inj hd
    obtain ⟨ok3, st3⟩ := step_grow ok' g3
    rw [hdrop] at w'
    unfold forS at w'
    split at w'
    · refine ⟨ρ', c'.to G3 H3, d, rfl, ok3, env'.mono st3.le, hx, ?_⟩
      have s3 := st'.trans st3
      have le3 := le'.trans st3.le
      revert w'
      show WpS W (match g d ρ' (c'.to G3 H3).μ with
        | .ok ρ μ => match body c0.μ.length ρ μ with
          | .nx ρ μ => forS src.w c1.μ g body c0.μ.length (src.items.drop (i + 1)) ρ μ
          | .ct ρ μ => forS src.w c1.μ g body c0.μ.length (src.items.drop (i + 1)) ρ μ
          | .bk ρ μ => .nx ρ μ
          | r => r
        | .exc x μ => .exc x μ
        | .bad => .bad) c0 cs D E → _
      cases g d ρ' (c'.to G3 H3).μ with
      | ok ρ4 μ4 =>
        intro w4 σ4 c4 e4 st4 ok4 r4
        refine ⟨c0, c1, ρ4, c4, rfl, ok4, s3.trans st4, le3.trans st4.le, r4, ?_⟩
        dsimp only at w4
        rw [e4]
        cases hb : body c0.μ.length ρ4 μ4 with
        | nx ρ5 μ5 =>
          rw [hb] at w4
          exact fun σ5 c5 e5 st5 le5 ok5 env5 => ⟨ρ5, c5, rfl, ok5, st5, le5, env5, by rw [e5]; exact w4⟩
        | ct ρ5 μ5 =>
          rw [hb] at w4
          exact fun σ5 c5 e5 st5 le5 ok5 env5 => ⟨ρ5, c5, rfl, ok5, st5, le5, env5, by rw [e5]; exact w4⟩
        | bk ρ5 μ5 => rw [hb] at w4; exact fun σ5 c5 e5 st5 le5 ok5 env5 => w4 σ5 c5 e5 st5 (le.trans (s2.le.trans le5)) ok5 env5
        | rt d μ5 => rw [hb] at w4; exact w4
        | exc x μ5 => rw [hb] at w4; exact w4
        | bad => rw [hb] at w4; exact w4
      | exc x μ4 => exact fun w4 u o c4 e4 st4 ok4 r4 => w4 u o c4 e4 (s3.trans st4) ok4 r4
      | bad => exact fun w4 => w4
    · exact w'.elim
  · rintro σ' H' ⟨ρ', c', rfl, ok', st', le', env', w'⟩
    rw [List.drop_length] at w'
    unfold forS at w'
    split at w'
    · exact w' σ' c' rfl st' (le.trans (s2.le.trans le')) ok' env'
    · exact w'.elim
end
end Mi
namespace Mi
open PySem PySem.Spec L2
section
variable {W : Wd} {E : XK} {X : Cx} {st : Stmt} {ss : List Stmt} {e tg iter : Expr}
def whileS (t : MT) (body : MS) (n : Nat) : Nat → Env → Store → ResS
  | 0, _, _ => .bad
  | k + 1, ρ, μ => match t ρ μ with
    | .ok b μ => if b = true then match body n ρ μ with
        | .nx ρ μ => whileS t body n k ρ μ
        | .ct ρ μ => whileS t body n k ρ μ
        | .bk ρ μ => .nx ρ μ
        | r => r
      else .nx ρ μ
    | .exc x μ => .exc x μ
    | .bad => .bad
open Classical in
noncomputable def mWhile (t : MT) (body : MS) : MS := fun n ρ μ => if h : ∃ k, whileS t body n k ρ μ ≠ .bad then whileS t body n (choose h) ρ μ else .bad
theorem whileS_succ {t : MT} {body : MS} {n : Nat} : ∀ {k : Nat} {ρ : Env} {μ : Store} {r : ResS}, whileS t body n k ρ μ = r → r ≠ .bad → whileS t body n (k + 1) ρ μ = r
  | 0, ρ, μ, r, h, hr => absurd h.symm hr
  | k + 1, ρ, μ, r, h, hr => by
    unfold whileS at h ⊢
    cases ht : t ρ μ with
    | ok b μ1 =>
      rw [ht] at h
      dsimp only at h ⊢
      cases b with
      | true =>
        rw [if_pos rfl] at h ⊢
        cases hb : body n ρ μ1 with
        | nx ρ2 μ2 => rw [hb] at h; exact whileS_succ h hr
        | ct ρ2 μ2 => rw [hb] at h; exact whileS_succ h hr
        | bk ρ2 μ2 => rw [hb] at h; exact h
        | rt d μ2 => rw [hb] at h; exact h
        | exc x μ2 => rw [hb] at h; exact h
        | bad => rw [hb] at h; exact h
      | false => rw [if_neg Bool.false_ne_true] at h ⊢; exact h
    | exc x μ1 => rw [ht] at h; exact h
    | bad => rw [ht] at h; exact h
theorem whileS_le {t : MT} {body : MS} {n k : Nat} {ρ : Env} {μ : Store} {r : ResS} (h : whileS t body n k ρ μ = r) (hr : r ≠ .bad) : ∀ j, whileS t body n (k + j) ρ μ = r
  | 0 => h
  | j + 1 => whileS_succ (whileS_le h hr j) hr
theorem mWhile_eq {t : MT} {body : MS} {n k : Nat} {ρ : Env} {μ : Store} {r : ResS} (h : whileS t body n k ρ μ = r) (hr : r ≠ .bad) : mWhile t body n ρ μ = r := by
  have ex : ∃ k, whileS t body n k ρ μ ≠ .bad := ⟨k, by rw [h]; exact hr⟩
  unfold mWhile
  rw [dif_pos ex]
  have h2 := Classical.choose_spec ex
  have h3 := whileS_le (rfl : whileS t body n (Classical.choose ex) ρ μ = _) h2 k
  have h4 := whileS_le h hr (Classical.choose ex)
  rw [← h3, Nat.add_comm, h4]
theorem ms_while {t : MT} {body : MS} (h : PS X st (tWhile (tT W E t) (tS W E body))) : PS X st (tS W E (mWhile t body)) := ps_weak h fun D σ H ⟨c0, cs, ρ, c, hH, ok, s, le, env, w⟩ => by
  unfold mWhile at w
  split at w
  · rename_i ex
    revert w
    generalize Classical.choose ex = k
    intro w
    refine ⟨fun m σ H => ∃ ρ c, c.H = H ∧ Ok W c ∧ Step c0 c ∧ Le cs c ∧ EnvR W c σ ρ ∧ WpS W (whileS t body c0.μ.length m ρ c.μ) c0 cs D E, ⟨k, ρ, c, hH, ok, s, le, env, w⟩, ?_⟩
    rintro m σ H ⟨ρ, c, hH, ok, s, le, env, w⟩
    cases m with
    | zero => exact w.elim
    | succ m =>
      refine ⟨ρ, c, hH, ok, env, ?_⟩
      revert w
      show WpS W (match t ρ c.μ with
        | .ok b μ => if b = true then match body c0.μ.length ρ μ with
            | .nx ρ μ => whileS t body c0.μ.length m ρ μ
            | .ct ρ μ => whileS t body c0.μ.length m ρ μ
            | .bk ρ μ => .nx ρ μ
            | r => r
          else .nx ρ μ
        | .exc x μ => .exc x μ
        | .bad => .bad) c0 cs D E → _
      cases t ρ c.μ with
      | ok b μ1 =>
        intro w b' c1 e1 s1 ok1 hb
        subst hb
        dsimp only at w
        have s01 := s.trans s1
        have le1 := le.trans s1.le
        cases b' with
        | false =>
          rw [if_neg Bool.false_ne_true] at w ⊢
          exact w σ c1 e1 s01 le1 ok1 (env.mono s1.le)
        | true =>
          rw [if_pos rfl] at w ⊢
          refine ⟨fun σ' H' => ∃ m', m' < m + 1 ∧ ∃ ρ c, c.H = H' ∧ Ok W c ∧ Step c0 c ∧ Le cs c ∧ EnvR W c σ' ρ ∧ WpS W (whileS t body c0.μ.length m' ρ c.μ) c0 cs D E, fun _ _ z => z, ?_⟩
          refine ⟨c0, cs, ρ, c1, rfl, ok1, s01, le1, env.mono s1.le, ?_⟩
          rw [e1]
          cases hb : body c0.μ.length ρ μ1 with
          | nx ρ5 μ5 =>
            rw [hb] at w
            exact fun σ5 c5 e5 st5 le5 ok5 env5 => ⟨m, Nat.lt_succ_self m, ρ5, c5, rfl, ok5, st5, le5, env5, by rw [e5]; exact w⟩
          | ct ρ5 μ5 =>
            rw [hb] at w
            exact fun σ5 c5 e5 st5 le5 ok5 env5 => ⟨m, Nat.lt_succ_self m, ρ5, c5, rfl, ok5, st5, le5, env5, by rw [e5]; exact w⟩
          | bk ρ5 μ5 => rw [hb] at w; exact w
          | rt d μ5 => rw [hb] at w; exact w
          | exc x μ5 => rw [hb] at w; exact w
          | bad => rw [hb] at w; exact w
      | exc x μ1 => exact fun w u o c4 e4 st4 ok4 r4 => w u o c4 e4 (s.trans st4) ok4 r4
      | bad => exact fun w => w
  · exact w.elim
theorem le_to {c : Cf} {G' H' : Hp} (g : Same c.G G') : Le c (c.to G' H') := ⟨g, Nat.le_refl _, fun _ _ => rfl⟩
def D.cell : D → List Nat
  | .own n => [n]
  | _ => []
theorem seqL_watch {μ μ' : Store} {d : D} (h : watch d.cell μ μ') : seqL μ' d = seqL μ d := by
  cases d with
  | own n =>
    unfold seqL
    dsimp only
    rw [h n (by simp [D.cell])]
  | _ => rfl
variable {c : Cf} {v : V} {d : D} {ds : List D} {a : Addr}
theorem walksL (ok : Ok W c) (h : Dp W c (.ref a) d) (e : seqL c.μ d = some ds) : WalksM W (Itl W.K a) c ⟨ds, d.cell⟩ := by
  have at2 : ∀ c2, Le c c2 → Ok W c2 → watch d.cell c.μ c2.μ → ∃ xs, SqL W.K c2.H a xs ∧ DpA W c2 xs ds := fun c2 le ok2 hw => by
    obtain ⟨a', xs, ea, hs, ha⟩ := seqL_ok ok2 (dp_mono le h) (by rw [seqL_watch hw]; exact e)
    cases ea
    exact ⟨xs, hs, ha⟩
  refine ⟨fun H => ∃ xs, SqL W.K H a xs ∧ xs.length = ds.length, fun i H x H' => H' = H ∧ ∀ xs, SqL W.K H a xs → xs[i]? = some x, ⟨?_, ?_, ?_⟩, ?_, ?_⟩
  · rintro i H hi ⟨xs, hs, hl⟩
    exact ⟨xs, xs[i]'(by rw [hl]; exact hi), hs, by rw [List.getElem?_eq_getElem]⟩
  · rintro H ⟨xs, hs, hl⟩
    exact ⟨xs, hs, by rw [hl]; exact Nat.le_refl _⟩
  · exact fun _ _ _ _ _ _ y => y
  · intro c2 le _ ok2 hw
    obtain ⟨xs, hs, ha⟩ := at2 c2 le ok2 hw
    exact ⟨xs, hs, dpa_len ha⟩
  · rintro i x c2 H' hi le _ ok2 hw ⟨rfl, hx⟩
    obtain ⟨xs, hs, ha⟩ := at2 c2 le ok2 hw
    obtain ⟨d, h1, h2⟩ := dpa_getV ha (hx xs hs)
    exact ⟨d, c2.G, h1, .refl ok2.s, h2⟩
theorem walksT (ok : Ok W c) (h : Dp W c (.ref a) d) (e : seqT d = some ds) : WalksM W (Itt W.K a) c ⟨ds, []⟩ := by
  cases h with
  | tup hs ha =>
    cases Option.some.inj e
    refine ⟨_, _, (dpa_len ha) ▸ walk_tup, fun c' le _ ok' _ => Cs.sqt_mono ok'.s (Cs.sqt_mono le.g hs), ?_⟩
    rintro i x c2 H' hi le _ ok2 _ ⟨rfl, hx⟩
    obtain ⟨d, h1, h2⟩ := dpa_getV ha hx
    exact ⟨d, c2.G, h1, .refl ok2.s, dp_mono le h2⟩
  | _ => cases e
def chars (z : Str) : List D := z.cps.toList.map fun k => .str ⟨#[k]⟩
theorem walksS {z : Str} : WalksM W (Its z) c ⟨chars z, []⟩ := by
  refine ⟨_, _, (show (chars z).length = z.cps.size by simp [chars]) ▸ walk_str (z := z), fun _ _ _ _ _ => True.intro, ?_⟩
  rintro i x c2 H' hi le _ ok2 _ ⟨rfl, k, hk, rfl⟩
  refine ⟨.str ⟨#[k]⟩, c2.G, ?_, .refl ok2.s, .str _⟩
  show (chars z)[i]? = _
  unfold chars
  rw [List.getElem?_map, Array.getElem?_toList, hk]; rfl
def rangeD (lo : Int) (n : Nat) : List D := (List.range n).map fun i => .int (lo + (i : Nat))
theorem rangeD_len {lo : Int} {n : Nat} : (rangeD lo n).length = n := by simp [rangeD]
theorem walksR {lo : Int} {n : Nat} : WalksM W (Itr lo n) c ⟨rangeD lo n, []⟩ := by
  refine ⟨fun _ => True, YFn fun i => .int (lo + i), by show Walk _ (rangeD lo n).length _ _; rw [rangeD_len]; exact walk_range, fun _ _ _ _ _ => True.intro, ?_⟩
  rintro i x c2 H' hi le _ ok2 _ ⟨rfl, rfl⟩
  have hi' : i < n := Nat.lt_of_lt_of_eq hi rangeD_len
  exact ⟨.int (lo + (i : Nat)), c2.G, by simp [rangeD, hi'], .refl ok2.s, .int _⟩
def anyItems (μ : Store) (d : D) : Option (List D × List Nat) := match seqL μ d with
  | some ds => some (ds, d.cell)
  | none => match d with
    | .tup ds => some (ds, [])
    | .str z => some (chars z, [])
    | _ => none
def miAny (a : ME) : MI := fun ρ μ => (a ρ μ).bind fun d μ => match anyItems μ d with
  | some (ds, w) => .ok ⟨ds, w⟩ μ
  | none => .bad
theorem mi_any {m : ME} (h : PI X tg iter (Cs.iAny W.K (tE W E m))) : PI X tg iter (tI W E (miAny m)) := pi_weak h fun σ H R ⟨ρ, c, hH, ok, env, w⟩ => by
  unfold miAny at w
  cases em : m ρ c.μ with
  | exc x μ =>
    rw [em] at w
    exact .inl ⟨ρ, c, hH, ok, env, by rw [em]; exact w⟩
  | bad => rw [em] at w; exact w.elim
  | ok d μ =>
    rw [em] at w
    unfold Res.bind at w
    dsimp only at w
    cases ei : anyItems μ d with
    | none => rw [ei] at w; exact w.elim
    | some p =>
      rw [ei] at w
      unfold anyItems at ei
      split at ei
      · rename_i ds hs
        cases Option.some.inj ei
        refine .inl ⟨ρ, c, hH, ok, env, ?_⟩
        rw [em]
        intro v c1 e1 s1 ok1 r1
        subst e1
        obtain ⟨a, xs, rfl, h1, h2⟩ := seqL_ok ok1 r1 hs
        exact ⟨a, rfl, ⟨xs, h1⟩, w _ c1 rfl s1 ok1 (walksL ok1 r1 hs)⟩
      · split at ei
        · cases Option.some.inj ei
          refine .inr (.inl ⟨ρ, c, hH, ok, env, ?_⟩)
          rw [em]
          intro v c1 e1 s1 ok1 r1
          subst e1
          obtain ⟨a, xs, rfl, h1, h2⟩ := seqT_ok ok1 r1 rfl
          exact ⟨a, rfl, ⟨xs, h1⟩, w _ c1 rfl s1 ok1 (walksT ok1 r1 rfl)⟩
        · cases Option.some.inj ei
          refine .inr (.inr ⟨ρ, c, hH, ok, env, ?_⟩)
          rw [em]
          intro v c1 e1 s1 ok1 r1
          subst e1
          cases r1
          exact ⟨_, rfl, w _ c1 rfl s1 ok1 walksS⟩
        · cases ei
def miRng1 (a : MA) : MI := fun ρ μ => (a ρ μ).bind fun ds μ => match ds with
  | [.int j] => if -(2 ^ 62) ≤ j ∧ j < 2 ^ 62 then .ok ⟨rangeD 0 j.toNat, []⟩ μ else .bad
  | _ => .bad
theorem mi_rng1 {m : MA} (h : PI X tg iter (iRng1 (tA W E m))) : PI X tg iter (tI W E (miRng1 m)) := pi_weak h fun σ H R ⟨ρ, c, hH, ok, env, w⟩ =>
  ⟨ρ, c, hH, ok, env, wp_bind w fun vs ds c1 s1 ok1 r1 w1 => by
    split at w1
    · cases r1 with
      | cons h1 h2 =>
        cases h1; cases h2
        split at w1
        · rename_i hj
          exact ⟨_, rfl, hj.1, hj.2, wp_ret w1 ok1 walksR⟩
        · exact w1.elim
    · exact w1.elim⟩
def miRng2 (a : MA) : MI := fun ρ μ => (a ρ μ).bind fun ds μ => match ds with
  | [.int i, .int j] => if -(2 ^ 62) ≤ i ∧ i < 2 ^ 62 ∧ -(2 ^ 62) ≤ j ∧ j < 2 ^ 62 then .ok ⟨rangeD i (j - i).toNat, []⟩ μ else .bad
  | _ => .bad
theorem mi_rng2 {m : MA} (h : PI X tg iter (iRng2 (tA W E m))) : PI X tg iter (tI W E (miRng2 m)) := pi_weak h fun σ H R ⟨ρ, c, hH, ok, env, w⟩ =>
  ⟨ρ, c, hH, ok, env, wp_bind w fun vs ds c1 s1 ok1 r1 w1 => by
    split at w1
    · cases r1 with
      | cons h1 h2 =>
        cases h2 with
        | cons h2 h3 =>
          cases h1; cases h2; cases h3
          split at w1
          · rename_i hj
            exact ⟨_, _, rfl, hj, wp_ret w1 ok1 walksR⟩
          · exact w1.elim
    · exact w1.elim⟩
end
end Mi
namespace Mi
open PySem PySem.Spec L2
section
variable {W : Wd} {E : XK} {X : Cx} {st : Stmt} {ss : List Stmt} {e tg iter : Expr} {c : Cf} {v : V} {d : D} {ds : List D} {a : Addr}
def enumD (ds : List D) : List D := (List.range ds.length).map fun i => .tup [.int (i : Nat), ds.getD i .non]
def zipD (ds es : List D) : List D := (ds.zip es).map fun p => .tup [p.1, p.2]
theorem enumD_len : (enumD ds).length = ds.length := by simp [enumD]
theorem enumD_get {i : Nat} {d : D} (hi : ds[i]? = some d) : (enumD ds)[i]? = some (.tup [.int (i : Nat), d]) := by
  have hl := (List.getElem?_eq_some_iff.mp hi).1
  unfold enumD
  rw [List.getElem?_map, List.getElem?_range hl, Option.map_some]
  simp [List.getD, hi]
theorem pair_new {c2 : Cf} {T : Addr} {x y : V} {d e : D} (ok : Ok W c2) (hT : c2.H T = none) (hx : Dp W c2 x d) (hy : Dp W c2 y e) :
    ∃ G3, Cs.Grow Cs.NoM c2.G c2.H G3 (upd c2.H T (.tup [x, y])) ∧ Dp W (c2.to G3 (upd c2.H T (.tup [x, y]))) (.ref T) (.tup [d, e]) := by
  have le : Le c2 (c2.to (upd c2.G T (.tup [x, y])) (upd c2.H T (.tup [x, y]))) := le_to (Cs.same_new (Cs.same_none ok.s hT))
  exact ⟨_, .new ok.s hT, .tup (.inl (.inl upd_same)) (.cons (dp_mono le hx) (.cons (dp_mono le hy) .nil))⟩
theorem walksEL (ok : Ok W c) (h : Dp W c (.ref a) d) (e : seqL c.μ d = some ds) : WalksM W (Ite W.K a) c ⟨enumD ds, d.cell⟩ := by
  have at2 : ∀ c2, Le c c2 → Ok W c2 → watch d.cell c.μ c2.μ → ∃ xs, SqL W.K c2.H a xs ∧ DpA W c2 xs ds := fun c2 le ok2 hw => by
    obtain ⟨a', xs, ea, hs, ha⟩ := seqL_ok ok2 (dp_mono le h) (by rw [seqL_watch hw]; exact e)
    cases ea
    exact ⟨xs, hs, ha⟩
  refine ⟨fun H => ∃ xs, SqL W.K H a xs ∧ xs.length = ds.length, fun i H v H' => ∃ T x, v = .ref T ∧ H T = none ∧ H' = upd H T (.tup [.int (i : Nat), x]) ∧ ∀ xs, SqL W.K H a xs → xs[i]? = some x, ⟨?_, ?_, ?_⟩, ?_, ?_⟩
  · rintro i H hi ⟨xs, hs, hl⟩
    have hi' : i < ds.length := Nat.lt_of_lt_of_eq hi enumD_len
    exact ⟨xs, xs[i]'(by rw [hl]; exact hi'), hs, by rw [List.getElem?_eq_getElem]⟩
  · rintro H ⟨xs, hs, hl⟩
    exact ⟨xs, hs, by rw [hl]; exact Nat.le_of_eq enumD_len.symm⟩
  · exact fun _ _ _ _ _ _ y => y
  · intro c2 le _ ok2 hw
    obtain ⟨xs, hs, ha⟩ := at2 c2 le ok2 hw
    exact ⟨xs, hs, dpa_len ha⟩
  · rintro i x c2 H' hi le _ ok2 hw ⟨T, y, rfl, hT, rfl, hx⟩
    obtain ⟨xs, hs, ha⟩ := at2 c2 le ok2 hw
    obtain ⟨d, h1, h2⟩ := dpa_getV ha (hx xs hs)
    obtain ⟨G3, g, r⟩ := pair_new ok2 hT (.int (i : Nat)) h2
    exact ⟨_, G3, enumD_get h1, g, r⟩
theorem walksET (ok : Ok W c) (h : Dp W c (.ref a) d) (e : seqT d = some ds) : WalksM W (Cs.IteT W.K a) c ⟨enumD ds, []⟩ := by
  cases h with
  | @tup _ xs _ hs ha =>
    cases Option.some.inj e
    refine ⟨fun H => SqT W.K H a xs, fun i H v H' => ∃ T x, v = .ref T ∧ H T = none ∧ H' = upd H T (.tup [.int (i : Nat), x]) ∧ xs[i]? = some x, ⟨?_, ?_, ?_⟩, fun c' le _ ok' _ => Cs.sqt_mono ok'.s (Cs.sqt_mono le.g hs), ?_⟩
    · intro i H hi hs
      have hi' : i < xs.length := Nat.lt_of_lt_of_eq hi (enumD_len.trans (dpa_len ha).symm)
      exact ⟨_, _, hs, List.getElem?_eq_getElem hi'⟩
    · exact fun H hs => ⟨_, hs, (dpa_len ha).trans enumD_len.symm⟩
    · rintro i H x H' hi hs ⟨T, y, h1, h2, h3, h4⟩
      exact ⟨T, y, h1, h2, h3, h4 _ hs⟩
    · rintro i x c2 H' hi le _ ok2 hw ⟨T, y, rfl, hT, rfl, hx⟩
      obtain ⟨d, h1, h2⟩ := dpa_getV ha hx
      obtain ⟨G3, g, r⟩ := pair_new ok2 hT (.int (i : Nat)) (dp_mono le h2)
      exact ⟨_, G3, enumD_get h1, g, r⟩
  | _ => cases e
def miEnum (a : MA) : MI := fun ρ μ => (a ρ μ).bind fun xs μ => match xs with
  | [d] => match seqL μ d with
    | some ds => .ok ⟨enumD ds, d.cell⟩ μ
    | none => match seqT d with
      | some ds => .ok ⟨enumD ds, []⟩ μ
      | none => .bad
  | _ => .bad
theorem mi_enum {m : MA} (h : PI X tg iter (Cs.iEnumA W.K (tA W E m))) : PI X tg iter (tI W E (miEnum m)) := pi_weak h fun σ H R ⟨ρ, c, hH, ok, env, w⟩ => by
  unfold miEnum at w
  cases em : m ρ c.μ with
  | exc x μ =>
    rw [em] at w
    exact .inl ⟨ρ, c, hH, ok, env, by rw [em]; exact w⟩
  | bad => rw [em] at w; exact w.elim
  | ok xs μ =>
    rw [em] at w
    unfold Res.bind at w
    dsimp only at w
    split at w
    · rename_i d
      split at w
      · rename_i ds hs
        refine .inl ⟨ρ, c, hH, ok, env, ?_⟩
        rw [em]
        intro v c1 e1 s1 ok1 r1
        subst e1
        cases r1 with
        | cons r1 r2 =>
          cases r2
          obtain ⟨a, xs, rfl, h1, h2⟩ := seqL_ok ok1 r1 hs
          exact ⟨a, xs, rfl, h1, w _ c1 rfl s1 ok1 (walksEL ok1 r1 hs)⟩
      · split at w
        · rename_i ds hs
          refine .inr ⟨ρ, c, hH, ok, env, ?_⟩
          rw [em]
          intro v c1 e1 s1 ok1 r1
          subst e1
          cases r1 with
          | cons r1 r2 =>
            cases r2
            obtain ⟨a, xs, rfl, h1, h2⟩ := seqT_ok ok1 r1 hs
            exact ⟨a, xs, rfl, h1, w _ c1 rfl s1 ok1 (walksET ok1 r1 hs)⟩
        · exact w.elim
    · exact w.elim
theorem wipe_set {i : Nat} {x : Option V} : ∀ {vs : List Nat} {σ : L2.St}, i ∈ vs → L2.wipe (σ.set i x) vs = L2.wipe σ vs
  | v :: vs, σ, h => by
    by_cases hv : i ∈ vs
    · show (L2.wipe (σ.set i x) vs).set v none = (L2.wipe σ vs).set v none
      rw [wipe_set hv]
    · have e : i = v := by
        rcases List.mem_cons.mp h with z | z
        · exact z
        · exact absurd z hv
      subst e
      show (L2.wipe (σ.set i x) vs).set i none = (L2.wipe σ vs).set i none
      have : ∀ {us : List Nat} {σ : L2.St}, i ∉ us → L2.wipe (σ.set i x) us = (L2.wipe σ us).set i x := by
        intro us
        induction us with
        | nil => intro σ _; rfl
        | cons u us ih =>
          intro σ hu
          show (L2.wipe (σ.set i x) us).set u none = ((L2.wipe σ us).set u none).set i x
          rw [ih (fun z => hu (List.mem_cons_of_mem _ z)), List.set_comm _ _ (fun z => hu (by rw [z]; exact List.mem_cons_self))]
      rw [this hv, List.set_set]
theorem wipe_idem {vs : List Nat} {σ : L2.St} : L2.wipe (L2.wipe σ vs) vs = L2.wipe σ vs := by
  have : ∀ us : List Nat, (∀ u ∈ us, u ∈ vs) → L2.wipe (L2.wipe σ us) vs = L2.wipe σ vs := by
    intro us
    induction us with
    | nil => intro _; rfl
    | cons u us ih =>
      intro h
      show L2.wipe ((L2.wipe σ us).set u none) vs = _
      rw [wipe_set (h u List.mem_cons_self)]
      exact ih fun z hz => h z (List.mem_cons_of_mem _ hz)
  exact this vs fun _ h => h
def LcT (W : Wd) (g : TG) (vs : List Nat) (m : D → Env → Option Env) : Prop := ∀ c v d σ ρ ρ2 (k : L2.St → Hp → Prop), Ok W c → EnvR W c σ ρ → Dp W c v d → m d ρ = some ρ2 → (∀ σ2, EnvR W c σ2 ρ2 → L2.wipe σ2 vs = L2.wipe σ vs → k σ2 c.H) → g v σ c.H k
def lgName (i : Nat) : D → Env → Option Env := fun d ρ => some (ρ.set i (some d))
def lgTup2 (i j : Nat) : D → Env → Option Env := fun d ρ => match d with
  | .tup [x, y] => some ((ρ.set i (some x)).set j (some y))
  | _ => none
theorem lct_name {i : Nat} {vs : List Nat} (hi : i ∈ vs) : LcT W (gName i) vs (lgName i) := fun c v d σ ρ ρ2 k ok env r e q => by
  cases Option.some.inj e
  exact q _ (env.set i r) (wipe_set hi)
theorem lct_tup2 {i j : Nat} {vs : List Nat} (hi : i ∈ vs) (hj : j ∈ vs) : LcT W (gTup W.K 2 (gCons (gName i) (gCons (gName j) gNil))) vs (lgTup2 i j) := fun c v d σ ρ ρ2 k ok env r e q => by
  unfold lgTup2 at e
  split at e
  · cases Option.some.inj e
    cases r with
    | tup hs ha =>
      cases ha with
      | cons h1 h2 =>
        cases h2 with
        | cons h2 h3 =>
          cases h3
          exact ⟨_, _, rfl, Cs.sqt_mono ok.s hs, rfl, _, _, rfl, _, _, rfl, rfl, q _ ((env.set i h1).set j h2) (by rw [wipe_set hj, wipe_set hi])⟩
  · cases e
def E0' : XK := fun _ _ _ => False
open Classical in
noncomputable def lcA (w : List Nat) (μ0 : Store) (g : D → Env → Option Env) (t : MT) (el : ME) (ρ : Env) : List D → List D → Store → Res (List D)
  | [], acc, μ => if watch w μ0 μ then .ok acc μ else .bad
  | d :: ds, acc, μ => if watch w μ0 μ then match g d ρ with
      | some ρ2 => match t ρ2 μ with
        | .ok true μ => match el ρ2 μ with
          | .ok y μ => if acc.length < sizeLine then lcA w μ0 g t el ρ ds (acc ++ [y]) μ else .bad
          | _ => .bad
        | .ok false μ => lcA w μ0 g t el ρ ds acc μ
        | _ => .bad
      | none => .bad
    else .bad
noncomputable def mLc (b : Bool) (i : MI) (g : D → Env → Option Env) (t : MT) (el : ME) (vs : List Nat) : ME := fun ρ μ => (i ρ μ).bind fun s μ => (lcA s.w μ g t el (wipeD ρ vs) s.items [] μ).bind fun xs μ => newL b xs μ
theorem lcA_watch {w : List Nat} {μ0 : Store} {g : D → Env → Option Env} {t : MT} {el : ME} {ρ : Env} {ds acc : List D} {μ : Store} (h : lcA w μ0 g t el ρ ds acc μ ≠ .bad) : watch w μ0 μ := by
  cases ds with
  | nil =>
    unfold lcA at h
    split at h
    · assumption
    · exact absurd rfl h
  | cons d ds =>
    unfold lcA at h
    split at h
    · assumption
    · exact absurd rfl h
theorem lcA_noexc {w : List Nat} {μ0 : Store} {g : D → Env → Option Env} {t : MT} {el : ME} {ρ : Env} {x : Exc} {μ' : Store} : ∀ {ds acc : List D} {μ : Store}, lcA w μ0 g t el ρ ds acc μ ≠ .exc x μ'
  | [], acc, μ => by
    unfold lcA
    split
    · exact fun z => by cases z
    · exact fun z => by cases z
  | d :: ds, acc, μ => by
    unfold lcA
    split
    · split
      · split
        · split
          · split
            · exact lcA_noexc
            · exact fun z => by cases z
          · exact fun z => by cases z
        · exact lcA_noexc
        · exact fun z => by cases z
      · exact fun z => by cases z
    · exact fun z => by cases z
theorem ok_raw {p : Addr} {o : HO} (ok : Ok W c) (gp : c.G p = none) (hl : c.L p = none) (hm : ∀ n, live c.μ n → c.ι n ≠ p) (ht : ∀ q, (p, q) ∉ c.T) (hx : ∀ q, c.H p ≠ some (LamX.CodeO p q)) (no : ∀ ps, o ≠ .tbl ps) : Ok W (c.to c.G (upd c.H p o)) := by
  refine ⟨fun b u e => ?_, fun a u e => ⟨?_, (ok.lk a u e).2⟩, fun n x e => ?_, ok.inj, ok.lc, ok.tb.mono rfl (codeO_upd hx) (fun _ _ e => e) (tbl_upd no) fun q hq ps e => by
    show upd c.H p o q.1 = some (.tbl ps)
    rw [upd_ne (fun z => ht q.2 (by rw [← z]; exact hq))]; exact e⟩
  · show upd c.H p o b = some u
    rw [upd_ne (ne_of_none e gp)]; exact ok.s b u e
  · show upd c.H p o a = some u
    have : a ≠ p := fun z => by
      have e' : c.L a = some u := e
      rw [z, hl] at e'; cases e'
    rw [upd_ne this]; exact (ok.lk a u e).1
  · obtain ⟨h1, u, h2, h3⟩ := ok.at' n x e
    refine ⟨h1, u, ?_, h3.mono (c' := c.to c.G (upd c.H p o)) (le_to (Same.refl _)) trivial⟩
    show upd c.H p o (c.ι n) = some u
    rw [upd_ne (hm n ⟨x, e⟩)]; exact h2
theorem ok_noL {p : Addr} (ok : Ok W c) (hp : c.H p = none) : c.L p = none := by
  cases e : c.L p with
  | none => rfl
  | some o => have := (ok.lk p o e).1; rw [hp] at this; cases this
structure Aside (W : Wd) (c1 c : Cf) (p : Addr) : Prop where
  ok : Ok W c
  st : Step c1 c
  g : c.G p = none
  m : ∀ n, live c.μ n → c.ι n ≠ p
  t : ∀ q, (p, q) ∉ c.T
  x : ∀ q, c.H p ≠ some (LamX.CodeO p q)
theorem noT_new {p : Addr} (ok : Ok W c) (hp : c.H p = none) : ∀ q, (p, q) ∉ c.T := fun q m => by
  obtain ⟨ps, h, _⟩ := ok.tb.t _ m
  rw [hp] at h; cases h
theorem Aside.step {c1 c c' : Cf} {p : Addr} {o : HO} (h : Aside W c1 c p) (hp : c.H p = some o) (ok : Ok W c') (s : Step c c') (no : ∀ ps, o ≠ .tbl ps := by intro _ z; cases z) : Aside W c1 c' p ∧ c'.H p = some o := by
  have hm : ¬ Mo c p := fun z => z.elim (fun ⟨n, l, e⟩ => h.m n l e.symm) fun ⟨ps, m⟩ => no ps (Option.some.inj (hp.symm.trans m))
  have hne : c.H p ≠ none := by rw [hp]; exact fun z => by cases z
  refine ⟨⟨ok, h.st.trans s, by rw [s.g.n p hne]; exact h.g, fun n l e => ?_, by rw [s.tk]; exact h.t, by rw [s.g.h p o hm hp, ← hp]; exact h.x⟩, s.g.h p o hm hp⟩
  rcases Nat.lt_or_ge n c.μ.length with hn | hn
  · rw [s.ag n hn] at e
    exact h.m n (s.dead n hn l) e
  · have := s.fresh n hn l
    rw [e, hp] at this; cases this
theorem Aside.put {c1 c : Cf} {p : Addr} {o : HO} (h : Aside W c1 c p) (h1 : c1.H p = none) (ok1 : Ok W c1) (no : ∀ q, o ≠ LamX.CodeO p q := by intro _ z; unfold LamX.CodeO at z; cases z) (nt : ∀ ps, o ≠ .tbl ps := by intro _ z; cases z) : Aside W c1 (c.to c.G (upd c.H p o)) p := by
  have hL : c.L p = none := by rw [h.st.lk]; exact ok_noL ok1 h1
  refine ⟨ok_raw h.ok h.g hL h.m h.t h.x nt, ⟨h.st.g.put (.inl h1) h.g nt, h.st.len, h.st.ag, h.st.dead, h.st.fresh, h.st.lk, h.st.tk⟩, h.g, h.m, h.t, fun q z => by
    have z' : upd c.H p o p = some (LamX.CodeO p q) := z
    rw [upd_same] at z'
    exact no q (Option.some.inj z')⟩
theorem Aside.done {c1 c : Cf} {p : Addr} {xs : List V} {ds : List D} {b : Bool} {Q : VK} {E : XK} (h : Aside W c1 c p) (h1 : c1.H p = none) (hp : c.H p = some (.lst xs)) (ha : DpA W c xs ds) (w : Wp W (Dp W) (newL b ds c.μ) c1 Q E) : Q (.ref p) c.H := by
  cases b with
  | false =>
    have le : Le c (⟨c.ι, c.μ, upd c.G p (.lst xs), c.H, c.L, c.T⟩ : Cf) := ⟨Cs.same_new h.g, Nat.le_refl _, fun _ _ => rfl⟩
    refine w (.ref p) ⟨c.ι, c.μ, upd c.G p (.lst xs), c.H, c.L, c.T⟩ rfl ⟨h.st.g.freeze h1 h.g hp, h.st.len, h.st.ag, h.st.dead, h.st.fresh, h.st.lk, h.st.tk⟩ ⟨fun q u e => ?_, h.ok.lk, fun n x e => ?_, h.ok.inj, h.ok.lc, h.ok.tb.mono rfl (fun _ _ e => e) (fun b ps e => by
      by_cases eb : b = p
      · subst eb
        have e' : upd c.G b (.lst xs) b = some (.tbl ps) := e
        rw [upd_same] at e'; cases e'
      · have e' : upd c.G p (.lst xs) b = some (.tbl ps) := e
        rw [upd_ne eb] at e'; exact e') (fun _ _ e => ⟨_, e⟩) fun _ _ _ e => e⟩ (.lst (.inl (.inl upd_same)) (dpa_mono le ha))
    · by_cases eb : q = p
      · subst eb
        have e' : upd c.G q (.lst xs) q = some u := e
        rw [upd_same] at e'
        rw [← e']; exact hp
      · have e' : upd c.G p (.lst xs) q = some u := e
        rw [upd_ne eb] at e'
        exact h.ok.s q u e'
    · obtain ⟨k1, u, k2, k3⟩ := h.ok.at' n x e
      refine ⟨?_, u, k2, k3.mono le trivial⟩
      show upd c.G p (.lst xs) (c.ι n) = none
      rw [upd_ne (h.m n ⟨x, e⟩)]; exact k1
  | true =>
    have old : ∀ n, n < c.μ.length → (if n = c.μ.length then p else c.ι n) = c.ι n := fun n hn => by rw [if_neg (Nat.ne_of_lt hn)]
    have le : Le c (⟨fun n => if n = c.μ.length then p else c.ι n, c.μ ++ [some (.lst ds)], c.G, c.H, c.L, c.T⟩ : Cf) := ⟨Same.refl _, by simp, old⟩
    have fr : ∀ n, live (c.μ ++ [some (Cell.lst ds)]) n → live c.μ n ∨ n = c.μ.length := fun n l => by
      rcases live_app l with z | ⟨z, _⟩
      · exact .inl z
      · exact .inr z
    have top : Dp W (⟨fun n => if n = c.μ.length then p else c.ι n, c.μ ++ [some (.lst ds)], c.G, c.H, c.L, c.T⟩ : Cf) (.ref p) (.own c.μ.length) := by
      have := Dp.own (W := W) (c := (⟨fun n => if n = c.μ.length then p else c.ι n, c.μ ++ [some (.lst ds)], c.G, c.H, c.L, c.T⟩ : Cf)) (n := c.μ.length) (by simp)
      simpa using this
    refine w (.ref p) ⟨fun n => if n = c.μ.length then p else c.ι n, c.μ ++ [some (.lst ds)], c.G, c.H, c.L, c.T⟩ rfl ⟨h.st.g, Nat.le_trans h.st.len (by simp), fun n hn => (old n (Nat.lt_of_lt_of_le hn h.st.len)).trans (h.st.ag n hn), fun n hn l => ?_, fun n hn l => ?_, h.st.lk, h.st.tk⟩ ⟨h.ok.s, h.ok.lk, fun n y e => ?_, fun n m ln lm e => ?_, fun n y e hy => ?_, h.ok.tb.mono rfl (fun _ _ e => e) (fun _ _ e => e) (fun _ _ e => ⟨_, e⟩) fun _ _ _ e => e⟩ top
    · rcases fr n l with l | rfl
      · exact h.st.dead n hn l
      · exact absurd hn (Nat.not_lt_of_le h.st.len)
    · rcases fr n l with l | rfl
      · show c1.H (if n = c.μ.length then p else c.ι n) = none
        rw [old n (live_lt l)]
        exact h.st.fresh n hn l
      · show c1.H (if c.μ.length = c.μ.length then p else _) = none
        rw [if_pos rfl]; exact h1
    · show c.G (if n = c.μ.length then p else c.ι n) = none ∧ ∃ o, c.H (if n = c.μ.length then p else c.ι n) = some o ∧ _
      rcases fr n ⟨y, e⟩ with l | rfl
      · have e' : c.μ[n]? = some (some y) := by rw [← e]; exact (List.getElem?_append_left (live_lt l)).symm
        obtain ⟨k1, u, k2, k3⟩ := h.ok.at' n y e'
        rw [old n (live_lt l)]
        exact ⟨k1, u, k2, k3.mono le trivial⟩
      · have ey : Cell.lst ds = y := by
          have e2 : (c.μ ++ [some (Cell.lst ds)])[c.μ.length]? = some (some y) := e
          simp at e2
          exact e2
        subst ey
        rw [if_pos rfl]
        exact ⟨h.g, _, hp, xs, rfl, dpa_mono le ha⟩
    · have e' : (if n = c.μ.length then p else c.ι n) = (if m = c.μ.length then p else c.ι m) := e
      rcases fr n ln with l | rfl
      · rcases fr m lm with k | rfl
        · rw [old n (live_lt l), old m (live_lt k)] at e'
          exact h.ok.inj n m l k e'
        · rw [old n (live_lt l), if_pos rfl] at e'
          exact absurd e' (h.m n l)
      · rcases fr m lm with k | rfl
        · rw [old m (live_lt k), if_pos rfl] at e'
          exact absurd e'.symm (h.m m k)
        · rfl
    · show c.L (if n = c.μ.length then p else c.ι n) ≠ none
      rcases fr n ⟨y, e⟩ with l | rfl
      · have e' : c.μ[n]? = some (some y) := by rw [← e]; exact (List.getElem?_append_left (live_lt l)).symm
        rw [old n (live_lt l)]
        exact h.ok.lc n y e' hy
      · have e2 : (c.μ ++ [some (Cell.lst ds)])[c.μ.length]? = some (some y) := e
        simp at e2
        rw [← e2] at hy; cases hy
theorem lc_run {b : Bool} {g : TG} {gm : D → Env → Option Env} {t : MT} {el : ME} {vs : List Nat} {J : It} {src : Src} {ρ : Env} {σ : L2.St} {c1 : Cf} {Q : VK} (hg : LcT W g vs gm) (ok1 : Ok W c1) (env : EnvR W c1 σ ρ) (hw : WalksM W J c1 src)
    (w1 : Wp W (Dp W) ((lcA src.w c1.μ gm t el (wipeD ρ vs) src.items [] c1.μ).bind fun xs μ => newL b xs μ) c1 Q E) : ∀ D, c1.H D = none → ∃ W' : Nat → Nat → Hp → Prop, (∃ m, W' 0 m (upd c1.H D (.lst []))) ∧ ∀ i m H, W' i m H →
  (J.stop i H ∧ Q (.ref D) H) ∨ (J.go i H ∧ ∃ Nx : Hp → Prop, (∀ H', Nx H' → ∃ m', m' < m ∧ W' (i + 1) m' H') ∧ ∀ x H', J.yld i H x H' → g x (L2.wipe σ vs) H' fun σ2 H2 => L2.wipe σ2 vs = L2.wipe σ vs ∧ tT W E0' t σ2 H2 fun b H3 =>
    if b = true then tE W E0' el σ2 H3 fun y H4 => ∃ acc, H4 D = some (.lst acc) ∧ acc.length < sizeLine ∧ Nx (upd H4 D (.lst (acc ++ [y]))) else Nx H3) := by
  intro p hp
  obtain ⟨Gd, Y, wk, hG, hY⟩ := hw.ex
  have env1 := env.wipe vs
  cases el0 : lcA src.w c1.μ gm t el (wipeD ρ vs) src.items [] c1.μ with
  | bad => rw [el0] at w1; exact w1.elim
  | exc x μ' => exact absurd el0 lcA_noexc
  | ok xs μ' =>
    rw [el0] at w1
    have w1' : Wp W (Dp W) (newL b xs μ') c1 Q E := w1
    have as0 : Aside W c1 (c1.to c1.G (upd c1.H p (.lst []))) p := by
      have z : Aside W c1 c1 p := ⟨ok1, .refl ok1, Cs.same_none ok1.s hp, fun n l e => ok1.hcell l (by rw [e]; exact hp), noT_new ok1 hp, codeO_none hp⟩
      exact z.put hp ok1
    refine lc_it wk (fun i H' => ∃ c' acc ac, c'.H = H' ∧ Aside W c1 c' p ∧ c'.H p = some (.lst ac) ∧ DpA W c' ac acc ∧ lcA src.w c1.μ gm t el (wipeD ρ vs) (src.items.drop i) acc c'.μ = .ok xs μ')
      ⟨c1.to c1.G (upd c1.H p (.lst [])), [], [], rfl, as0, upd_same, .nil, el0⟩ (fun i H' _ ⟨c', acc, ac, e, as, _, _, q⟩ => by
        rw [← e]; exact hG c' as.st.le as.st.lk as.ok (lcA_watch (by rw [q]; exact fun z => by cases z))) ?_ ?_
    · rintro i x H2 H3 hi ⟨c', acc, ac, rfl, as, hp', ha, q⟩ hy
      have hw' : watch src.w c1.μ c'.μ := lcA_watch (by rw [q]; exact fun z => by cases z)
      obtain ⟨d, G3, hd, g3, hx⟩ := hY i x c' H3 hi as.st.le as.st.lk as.ok hw' hy
      have hdrop : src.items.drop i = d :: src.items.drop (i + 1) := by
        rw [List.drop_eq_getElem_cons hi]
        congr 1
        rw [List.getElem?_eq_getElem hi] at hd
        exact Option.some.inj hd
      obtain ⟨ok3, st3⟩ := step_grow as.ok g3
      obtain ⟨as3, hp3⟩ := as.step hp' ok3 st3
      rw [hdrop] at q
      unfold lcA at q
      rw [if_pos hw'] at q
      cases eg : gm d (wipeD ρ vs) with
      | none => rw [eg] at q; cases q
      | some ρ2 =>
        rw [eg] at q
        dsimp only at q
        refine hg (c'.to G3 H3) x d (L2.wipe σ vs) (wipeD ρ vs) ρ2 _ ok3 (env1.mono (as.st.le.trans st3.le)) hx eg fun σ2 env2 hwp => ⟨hwp.trans wipe_idem, ?_⟩
        refine ⟨ρ2, c'.to G3 H3, rfl, ok3, env2, ?_⟩
        show Wp W _ (t ρ2 c'.μ) _ _ _
        cases et : t ρ2 c'.μ with
        | bad => rw [et] at q; cases q
        | exc y μ2 => rw [et] at q; cases q
        | ok k μ2 =>
          rw [et] at q
          intro k' c4 e4 s4 ok4 hk
          subst hk
          obtain ⟨as4, hp4⟩ := as3.step hp3 ok4 s4
          cases k' with
          | false =>
            rw [if_neg Bool.false_ne_true]
            exact ⟨c4, acc, ac, rfl, as4, hp4, dpa_mono (st3.le.trans s4.le) ha, by rw [e4]; exact q⟩
          | true =>
            rw [if_pos rfl]
            dsimp only at q
            refine ⟨ρ2, c4, rfl, ok4, env2.mono s4.le, ?_⟩
            rw [e4]
            cases ee : el ρ2 μ2 with
            | bad => rw [ee] at q; cases q
            | exc y μ5 => rw [ee] at q; cases q
            | ok y μ5 =>
              rw [ee] at q
              dsimp only at q
              intro u c5 e5 s5 ok5 r5
              obtain ⟨as5, hp5⟩ := as4.step hp4 ok5 s5
              have ha5 := dpa_mono ((st3.le.trans s4.le).trans s5.le) ha
              split at q
              · rename_i hl
                refine ⟨ac, hp5, by rw [dpa_len ha]; exact hl, c5.to c5.G (upd c5.H p (.lst (ac ++ [u]))), acc ++ [y], ac ++ [u], rfl, as5.put hp ok1, upd_same, dpa_mono (le_to (Same.refl _)) (dpa_app ha5 (.cons r5 .nil)), ?_⟩
                show lcA _ _ _ _ _ _ _ _ c5.μ = _
                rw [e5]; exact q
              · cases q
    · rintro H' ⟨c', acc, ac, rfl, as, hp', ha, q⟩
      rw [List.drop_length] at q
      unfold lcA at q
      split at q
      · cases q
        exact as.done hp hp' ha w1'
      · cases q
theorem me_lc {b : Bool} {i : MI} {g : TG} {gm : D → Env → Option Env} {t : MT} {el : ME} {vs : List Nat} (hg : LcT W g vs gm) (h : PE X e (tLc (tI W E i) g (tT W E0' t) (tE W E0' el) vs)) : PE X e (tE W E (mLc b i gm t el vs)) := pe_weak h fun σ H Q ⟨ρ, c, hH, ok, env, w⟩ =>
  ⟨ρ, c, hH, ok, env, wp_bind w fun J src c1 s1 ok1 hw w1 => lc_run hg ok1 (env.mono s1.le) hw w1⟩
theorem mt_yes {es : List Expr} (h : PTs X es tYes) : PTs X es (tT W E (fun _ μ => .ok true μ)) := ⟨fun pins s σ H Q I ⟨ρ, c, hH, ok, env, w⟩ => h.run pins s σ H Q I (by subst hH; exact wp_ret w ok rfl)⟩
end
end Mi
namespace Mi
open PySem PySem.Spec L2
open Classical
section
variable {W : Wd} {E : XK} {X : Cx} {c : Cf} {v u : V} {d : D} {ds : List D} {Q : VK}
theorem dpa_cut {vs : List V} {ds : List D} (h : DpA W c vs ds) (lo hi : Option Int) : DpA W c (cutV vs lo hi) ((ds.drop (HT.sIx ds.length 0 lo)).take (HT.sIx ds.length ds.length hi - HT.sIx ds.length 0 lo)) := by
  unfold cutV
  rw [dpa_len h]
  exact dpa_take _ (dpa_drop _ h)
def cutD (ds : List D) (lo hi : Option Int) : List D := (ds.drop (HT.sIx ds.length 0 lo)).take (HT.sIx ds.length ds.length hi - HT.sIx ds.length 0 lo)
noncomputable def fAdd (b : Bool) : D → D → Store → Res D := fun x y μ => match x, y with
  | .int i, .int j => .ok (.int (i + j)) μ
  | .str i, .str j => if i.length + j.length ≤ sizeLine then .ok (.str (i ++ j)) μ else .bad
  | .tup xs, .tup ys => if xs.length + ys.length ≤ sizeLine then .ok (.tup (xs ++ ys)) μ else .bad
  | x, y => match seqL μ x, seqL μ y with
    | some xs, some ys => if xs.length + ys.length ≤ sizeLine then newL b (xs ++ ys) μ else .bad
    | _, _ => .bad
theorem opm_add {b : Bool} : OpM W E (Cs.rAddD W.K) (fAdd b) := fun c x y v u Q ok hx hy w => by
  have lists : ∀ xs ys, seqL c.μ x = some xs → seqL c.μ y = some ys → xs.length + ys.length ≤ sizeLine → Wp W (Dp W) (newL b (xs ++ ys) c.μ) c Q E → Cs.rAddD W.K v u c.H Q := by
    intro xs ys e1 e2 hl w
    obtain ⟨a, vs, rfl, h1, h2⟩ := seqL_ok ok hx e1
    obtain ⟨a', ws, rfl, h3, h4⟩ := seqL_ok ok hy e2
    exact .inr (.inr (.inl ⟨a, a', vs, ws, rfl, rfl, h1, h3, by rw [dpa_len h2, dpa_len h4]; exact hl, fun p hp => wp_newL w ok (dpa_app h2 h4) hp⟩))
  unfold fAdd at w
  split at w
  · cases hx; cases hy
    exact .inl ⟨_, _, rfl, rfl, wp_ret w ok (.int _)⟩
  · cases hx; cases hy
    split at w
    · rename_i hl; exact .inr (.inl ⟨_, _, rfl, rfl, hl, wp_ret w ok (.str _)⟩)
    · exact w.elim
  · split at w
    · rename_i hl
      cases hx with
      | tup h1 h2 =>
        cases hy with
        | tup h3 h4 =>
          refine .inr (.inr (.inr ⟨_, _, _, _, rfl, rfl, Cs.sqt_mono ok.s h1, Cs.sqt_mono ok.s h3, by rw [dpa_len h2, dpa_len h4]; exact hl, fun e => ?_, fun _ e => ?_, fun _ _ p hp => wp_newT w ok (dpa_app h2 h4) hp⟩))
          · subst e
            cases h2
            exact wp_ret w ok (.tup h3 h4)
          · subst e
            cases h4
            rw [List.append_nil] at w
            exact wp_ret w ok (.tup h1 h2)
    · exact w.elim
  · split at w
    · rename_i e1 e2
      split at w
      · rename_i hl; exact lists _ _ e1 e2 hl w
      · exact w.elim
    · exact w.elim
def fI2 (g : Int → Int → D) : D → D → Store → Res D := fun x y μ => match x, y with
  | .int i, .int j => .ok (g i j) μ
  | _, _ => .bad
theorem opm_I0 {g : Int → Int → V} {gd : Int → Int → D} (hg : ∀ c i j, Dp W c (g i j) (gd i j)) : OpM W E (rI0 g) (fI2 gd) := fun c x y v u Q ok hx hy w => by
  unfold fI2 at w
  split at w
  · cases hx; cases hy
    exact ⟨_, _, rfl, rfl, wp_ret w ok (hg _ _ _)⟩
  · exact w.elim
theorem opm_sub : OpM W E Cs.rSubI (fI2 fun i j => .int (i - j)) := opm_I0 fun _ _ _ => .int _
theorem opm_gt : OpM W E Cs.rGtI (fI2 fun i j => .bl (decide (j < i))) := opm_I0 fun _ _ _ => .bl _
theorem opm_ge : OpM W E Cs.rGeI (fI2 fun i j => .bl (decide (j ≤ i))) := opm_I0 fun _ _ _ => .bl _
theorem opm_le : OpM W E Cs.rLeI (fI2 fun i j => .bl (decide (i ≤ j))) := opm_I0 fun _ _ _ => .bl _
noncomputable def fI2c (C : Int → Int → Prop) (g : Int → Int → D) : D → D → Store → Res D := fun x y μ => match x, y with
  | .int i, .int j => if C i j then .ok (g i j) μ else .bad
  | _, _ => .bad
theorem opm_I {C : Int → Int → Prop} {g : Int → Int → V} {gd : Int → Int → D} (hg : ∀ c i j, Dp W c (g i j) (gd i j)) : OpM W E (rI C g) (fI2c C gd) := fun c x y v u Q ok hx hy w => by
  unfold fI2c at w
  split at w
  · cases hx; cases hy
    split at w
    · rename_i hc; exact ⟨_, _, rfl, rfl, hc, wp_ret w ok (hg _ _ _)⟩
    · exact w.elim
  · exact w.elim
theorem opm_mod : OpM W E Cs.rModI (fI2c (fun _ j => j ≠ 0) fun i j => .int (i.fmod j)) := opm_I fun _ _ _ => .int _
theorem opm_div : OpM W E Cs.rDivI (fI2c CDivN fun i j => .int (i.fdiv j)) := opm_I fun _ _ _ => .int _
theorem opm_pow : OpM W E Cs.rPowI (fI2c Cs.CPowW fun i j => .int (i ^ j.toNat)) := opm_I fun _ _ _ => .int _
def ownL (μ : Store) : D → Option (Nat × List D)
  | .own n => match μ[n]? with
    | some (some (.lst ds)) => some (n, ds)
    | _ => none
  | _ => none
theorem ownL_ok {n : Nat} (ok : Ok W c) (h : Dp W c v d) (e : ownL c.μ d = some (n, ds)) : d = .own n ∧ c.μ[n]? = some (some (.lst ds)) ∧ v = .ref (c.ι n) ∧ ∃ xs, c.H (c.ι n) = some (.lst xs) ∧ DpA W c xs ds := by
  cases h with
  | own hn =>
    unfold ownL at e
    dsimp only at e
    split at e
    · rename_i x hx
      cases Option.some.inj e
      obtain ⟨_, o, ho, xs, rfl, ha⟩ := ok.at' _ _ hx
      exact ⟨rfl, hx, rfl, xs, ho, ha⟩
    · cases e
  | _ => cases e
def ownK (μ : Store) : D → Option (Nat × List Key × List D)
  | .own n => match μ[n]? with
    | some (some (.dct ks ds)) => some (n, ks, ds)
    | _ => none
  | _ => none
noncomputable def fMul (b : Bool) : D → D → Store → Res D := fun x y μ => match x, y with
  | .int i, .int j => if CMulW i j then .ok (.int (i * j)) μ else .bad
  | x, .int k => match ownL μ x with
    | some (_, xs) => if -(2 ^ 63) ≤ k ∧ k < 2 ^ 63 ∧ xs.length * k.toNat ≤ sizeLine then newL b (List.replicate k.toNat xs).flatten μ else .bad
    | none => .bad
  | _, _ => .bad
theorem dpa_rep {vs : List V} {ds : List D} (h : DpA W c vs ds) : ∀ n, DpA W c (List.replicate n vs).flatten (List.replicate n ds).flatten
  | 0 => .nil
  | n + 1 => by
    rw [List.replicate_succ, List.replicate_succ, List.flatten_cons, List.flatten_cons]
    exact dpa_app h (dpa_rep h n)
theorem opm_mul {b : Bool} : OpM W E Cs.rMulD (fMul b) := fun c x y v u Q ok hx hy w => by
  unfold fMul at w
  split at w
  · cases hx; cases hy
    split at w
    · rename_i hc; exact .inl ⟨_, _, rfl, rfl, hc, wp_ret w ok (.int _)⟩
    · exact w.elim
  · split at w
    · rename_i n xs e
      split at w
      · rename_i hc
        cases hy
        obtain ⟨rfl, _, rfl, vs, h1, h2⟩ := ownL_ok ok hx e
        exact .inr ⟨_, _, vs, rfl, rfl, h1, hc.1, hc.2.1, by rw [dpa_len h2]; exact hc.2.2, fun p hp => wp_newL w ok (dpa_rep h2 _) hp⟩
      · exact w.elim
    · exact w.elim
  · exact w.elim
noncomputable def eqView (neg : Bool) : D → D → Store → Res D := fun x y μ => match x.view μ, y.view μ with
  | some p, some q => if SeqAt.shaped p = true ∧ SeqAt.shaped q = true then .ok (.bl (if neg = true then !PyData.eqv p q else PyData.eqv p q)) μ else .bad
  | _, _ => .bad
noncomputable def eqOne (neg : Bool) : D → D → Store → Res D := fun x y μ => match x, y with
  | .str a, .str b => .ok (.bl (if neg = true then !(a == b) else a == b)) μ
  | _, _ => eqView neg x y μ
noncomputable def fEq (neg : Bool) : D → D → Store → Res D := fun x y μ => match seqL μ x, seqL μ y with
  | some xs, some ys => if xs.length = ys.length then eqView neg x y μ else .ok (.bl neg) μ
  | _, _ => eqOne neg x y μ
def rEqZ (K : PySem.W.Frag) (b : Bool) (r : R2) : R2 := fun x y H Q => (r x y H Q ∨ ∃ p q xs ys, x = .ref p ∧ y = .ref q ∧ SqL K H p xs ∧ SqL K H q ys ∧ xs.length ≠ ys.length ∧ Q (.bl b) H) ∨ ∃ i j : Str, x = .str i ∧ y = .str j ∧ Q (.bl (if b = true then !(i == j) else i == j)) H
theorem op_eqZ {X : Cx} (hu : X.A.units + 64 < cLine) : OpR X (compareOp .Eq) (rEqZ X.K false (rEqD X.K)) := fun pins s σ H x y v u Q I rx ry h => by
  rcases h with (h | ⟨p, q, xs, ys, rfl, rfl, hp, hq, hn, w⟩) | ⟨i, j, rfl, rfl, w⟩
  rotate_left 2
  · refine op_eq pins s σ H _ _ v u Q I rx ry ⟨rfl, ?_⟩
    rw [dec_str]
    exact w
  · exact op_eqD hu pins s σ H x y v u Q I rx ry h
  · cases rx; cases ry
    obtain ⟨i1, r1, l1, _⟩ := I.list hp
    obtain ⟨i2, r2, l2, _⟩ := I.list hq
    exact SeqAt.RcAt.lists_lengths l1.isList l2.isList (by simp only [List.size_toArray, bne_iff_ne]; rw [← r1.length, ← r2.length]; exact hn) (by omega) X.prog X.w _ _ ⟨.bl _, H, I, rfl, w⟩
theorem op_neZ {X : Cx} (hu : X.A.units + 64 < cLine) : OpR X (compareOp .NotEq) (rEqZ X.K true (rNeD X.K)) := fun pins s σ H x y v u Q I rx ry h => by
  rcases h with (h | ⟨p, q, xs, ys, rfl, rfl, hp, hq, hn, w⟩) | ⟨i, j, rfl, rfl, w⟩
  rotate_left 2
  · refine op_ne pins s σ H _ _ v u Q I rx ry ⟨rfl, ?_⟩
    rw [dec_str]
    exact w
  · exact op_neD hu pins s σ H x y v u Q I rx ry h
  · cases rx; cases ry
    obtain ⟨i1, r1, l1, _⟩ := I.list hp
    obtain ⟨i2, r2, l2, _⟩ := I.list hq
    exact SeqAt.RcNeAt.lists_lengths l1.isList l2.isList (by simp only [List.size_toArray, bne_iff_ne]; rw [← r1.length, ← r2.length]; exact hn) (by omega) X.prog X.w _ _ ⟨.bl _, H, I, rfl, w⟩
theorem eqv_ok {neg : Bool} {x y : D} (ok : Ok W c) (hx : Dp W c v x) (hy : Dp W c u y) (w : Wp W (Dp W) (eqView neg x y c.μ) c Q E) :
    ∃ p q, Cs.Dp W.K c.H v p ∧ Cs.Dp W.K c.H u q ∧ SeqAt.shaped p = true ∧ SeqAt.shaped q = true ∧ Q (.bl (if neg = true then !PyData.eqv p q else PyData.eqv p q)) c.H := by
  unfold eqView at w
  split at w
  · rename_i p q e1 e2
    split at w
    · rename_i hs
      exact ⟨p, q, dp_view ok hx e1, dp_view ok hy e2, hs.1, hs.2, wp_ret w ok (.bl _)⟩
    · exact w.elim
  · exact w.elim
theorem opm_eq : OpM W E (rEqZ W.K false (rEqD W.K)) (fEq false) := fun c x y v u Q ok hx hy w => by
  have fin : Wp W (Dp W) (eqView false x y c.μ) c Q E → rEqZ W.K false (rEqD W.K) v u c.H Q := fun w => by
    obtain ⟨p, q, h1, h2, s1, s2, k⟩ := eqv_ok ok hx hy w
    exact .inl (.inl ⟨p, q, h1.old _ _ (Cs.noDict_shaped s1), h2.old _ _ (Cs.noDict_shaped s2), s1, s2, k⟩)
  unfold fEq at w
  split at w
  · rename_i xs ys e1 e2
    split at w
    · exact fin w
    · rename_i hn
      obtain ⟨a, us, rfl, h1, h2⟩ := seqL_ok ok hx e1
      obtain ⟨b, ws, rfl, h3, h4⟩ := seqL_ok ok hy e2
      exact .inl (.inr ⟨a, b, us, ws, rfl, rfl, h1, h3, by rw [dpa_len h2, dpa_len h4]; exact hn, wp_ret w ok (.bl _)⟩)
  · unfold eqOne at w
    split at w
    · cases hx; cases hy
      exact .inr ⟨_, _, rfl, rfl, wp_ret w ok (.bl _)⟩
    · exact fin w
theorem opm_ne : OpM W E (rEqZ W.K true (rNeD W.K)) (fEq true) := fun c x y v u Q ok hx hy w => by
  have fin : Wp W (Dp W) (eqView true x y c.μ) c Q E → rEqZ W.K true (rNeD W.K) v u c.H Q := fun w => by
    obtain ⟨p, q, h1, h2, s1, s2, k⟩ := eqv_ok ok hx hy w
    exact .inl (.inl ⟨p, q, h1.old _ _ (Cs.noDict_shaped s1), h2.old _ _ (Cs.noDict_shaped s2), s1, s2, k⟩)
  unfold fEq at w
  split at w
  · rename_i xs ys e1 e2
    split at w
    · exact fin w
    · rename_i hn
      obtain ⟨a, us, rfl, h1, h2⟩ := seqL_ok ok hx e1
      obtain ⟨b, ws, rfl, h3, h4⟩ := seqL_ok ok hy e2
      exact .inl (.inr ⟨a, b, us, ws, rfl, rfl, h1, h3, by rw [dpa_len h2, dpa_len h4]; exact hn, wp_ret w ok (.bl _)⟩)
  · unfold eqOne at w
    split at w
    · cases hx; cases hy
      exact .inr ⟨_, _, rfl, rfl, wp_ret w ok (.bl _)⟩
    · exact fin w
noncomputable def fLt : D → D → Store → Res D := fun x y μ => match x.view μ, y.view μ with
  | some p, some q => if p.hasDict = false ∧ q.hasDict = false ∧ PySem.W.alike p q = true ∧ p ≠ .none ∧ p.depth ≤ 64 then .ok (.bl (PySem.W.dataLt p q)) μ else .bad
  | _, _ => .bad
theorem opm_lt : OpM W E (Cs.rLtD W.K) fLt := fun c x y v u Q ok hx hy w => by
  unfold fLt at w
  split at w
  · rename_i p q e1 e2
    split at w
    · rename_i hs
      exact ⟨p, q, (dp_view ok hx e1).old _ _ hs.1, (dp_view ok hy e2).old _ _ hs.2.1, hs.2.2.1, hs.2.2.2.1, hs.2.2.2.2, wp_ret w ok (.bl _)⟩
    · exact w.elim
  · exact w.elim
def fLeS : D → D → Store → Res D := fun x y μ => match x, y with
  | .str i, .str j => .ok (.bl (!decide (j.cps.toList < i.cps.toList))) μ
  | _, _ => .bad
theorem op_leSX {X : Cx} : OpR X (compareOp .LtE) Cs.rLeS := op_le_str
theorem opm_leS : OpM W E Cs.rLeS fLeS := fun c x y v u Q ok hx hy w => by
  unfold fLeS at w
  split at w
  · cases hx; cases hy
    exact ⟨_, _, rfl, rfl, wp_ret w ok (.bl _)⟩
  · exact w.elim
def isNonD : D → Bool
  | .non => true
  | _ => false
theorem dp_non (h : Dp W c v d) : decide (v = V.non) = isNonD d := by
  cases h <;> first | rfl | exact decide_eq_false (fun z => by cases z)
def fIsN (neg : Bool) : D → D → Store → Res D := fun x y μ => match y with
  | .non => .ok (.bl (if neg = true then !isNonD x else isNonD x)) μ
  | _ => .bad
theorem opm_isN : OpM W E rIsN (fIsN false) := fun c x y v u Q ok hx hy w => by
  unfold fIsN at w
  split at w
  · cases hy
    exact ⟨rfl, by rw [dp_non hx]; exact wp_ret w ok (.bl _)⟩
  · exact w.elim
theorem opm_notN : OpM W E rNotN (fIsN true) := fun c x y v u Q ok hx hy w => by
  unfold fIsN at w
  split at w
  · cases hy
    exact ⟨rfl, by rw [dp_non hx]; exact wp_ret w ok (.bl _)⟩
  · exact w.elim
def flatD : D → Bool
  | .non => true
  | .bl _ => true
  | .int _ => true
  | .str _ => true
  | _ => false
def eqF : D → D → Bool
  | .non, .non => true
  | .bl a, .bl b => a == b
  | .bl a, .int b => (if a then 1 else 0) == b
  | .int a, .bl b => a == (if b then 1 else 0)
  | .int a, .int b => a == b
  | .str a, .str b => a == b
  | _, _ => false
def inF (x : D) (ds : List D) : Bool := ds.any fun y => eqF y x
theorem dp_flat (h : Dp W c v d) (f : flatD d = true) : flatV v = true := by
  cases h <;> first | rfl | cases f
theorem eqV_eqF {e : D} (h1 : Dp W c v d) (h2 : Dp W c u e) (f1 : flatD d = true) (f2 : flatD e = true) : L2.eqV v u = eqF d e := by
  cases h1 <;> cases h2 <;> first | rfl | cases f1 | cases f2
theorem dpa_flat : ∀ {vs : List V} {ds : List D}, DpA W c vs ds → ds.all flatD = true → vs.all flatV = true
  | _, _, .nil, _ => rfl
  | _, _, .cons h t, f => by
    rw [List.all_cons, Bool.and_eq_true] at f ⊢
    exact ⟨dp_flat h f.1, dpa_flat t f.2⟩
theorem inV_inF (h : Dp W c v d) (f : flatD d = true) : ∀ {vs : List V} {ds : List D}, DpA W c vs ds → ds.all flatD = true → inV v vs = inF d ds
  | _, _, .nil, _ => rfl
  | _, _, .cons h1 t, g => by
    rw [List.all_cons, Bool.and_eq_true] at g
    have ih := inV_inF h f t g.2
    unfold inV inF at ih ⊢
    rw [List.any_cons, List.any_cons, ih, eqV_eqF h1 h g.1 f]
def inS (i j : Str) : Bool := !(Builtin.Str.occurrences j i 0 j.length 1).isEmpty
noncomputable def fIn (neg : Bool) : D → D → Store → Res D := fun x y μ => match x, y with
  | .str i, .str j => .ok (.bl (if neg = true then !inS i j else inS i j)) μ
  | x, y => match (match seqL μ y with
      | some ds => some ds
      | none => seqT y) with
    | some ds => if flatD x = true ∧ ds.all flatD = true then .ok (.bl (if neg = true then !inF x ds else inF x ds)) μ else .bad
    | none => .bad
theorem in_seq {x y : D} {ds : List D} (ok : Ok W c) (hy : Dp W c u y) (e : (match seqL c.μ y with
      | some ds => some ds
      | none => seqT y) = some ds) : ∃ a xs, u = .ref a ∧ (SqL W.K c.H a xs ∨ SqT W.K c.H a xs) ∧ DpA W c xs ds := by
  split at e
  · rename_i ds' h
    cases Option.some.inj e
    obtain ⟨a, xs, rfl, h1, h2⟩ := seqL_ok ok hy h
    exact ⟨a, xs, rfl, .inl h1, h2⟩
  · obtain ⟨a, xs, rfl, h1, h2⟩ := seqT_ok ok hy e
    exact ⟨a, xs, rfl, .inr h1, h2⟩
theorem opm_in : OpM W E (Cs.rInD W.K) (fIn false) := fun c x y v u Q ok hx hy w => by
  unfold fIn at w
  split at w
  · cases hx; cases hy
    exact .inr ⟨_, _, rfl, rfl, wp_ret w ok (.bl _)⟩
  · split at w
    · rename_i ds e
      split at w
      · rename_i hf
        obtain ⟨a, xs, rfl, h1, h2⟩ := in_seq (x := x) ok hy e
        refine .inl ⟨a, xs, rfl, h1, dp_flat hx hf.1, dpa_flat h2 hf.2, ?_⟩
        rw [if_neg Bool.false_ne_true, inV_inF hx hf.1 h2 hf.2]
        rw [if_neg Bool.false_ne_true] at w
        exact wp_ret w ok (.bl _)
      · exact w.elim
    · exact w.elim
theorem opm_notin : OpM W E (Cs.rNiD W.K) (fIn true) := fun c x y v u Q ok hx hy w => by
  unfold fIn at w
  split at w
  · cases hx; cases hy
    exact .inr ⟨_, _, rfl, rfl, wp_ret w ok (.bl _)⟩
  · split at w
    · rename_i ds e
      split at w
      · rename_i hf
        obtain ⟨a, xs, rfl, h1, h2⟩ := in_seq (x := x) ok hy e
        refine .inl ⟨a, xs, rfl, h1, dp_flat hx hf.1, dpa_flat h2 hf.2, ?_⟩
        rw [if_pos rfl, inV_inF hx hf.1 h2 hf.2]
        rw [if_pos rfl] at w
        exact wp_ret w ok (.bl _)
      · exact w.elim
    · exact w.elim
noncomputable def fIx : D → D → Store → Res D := fun x y μ => match x, y with
  | .str z, .int i => if z.length ≤ sizeLine then match atI z.cps.toList i with
      | some k => .ok (.str ⟨#[k]⟩) μ
      | none => .bad
    else .bad
  | x, .int i => match (match seqL μ x with
      | some ds => some ds
      | none => seqT x) with
    | some ds => match atI ds i with
      | some d => .ok d μ
      | none => .bad
    | none => .bad
  | _, _ => .bad
theorem dpa_at {vs : List V} {ds : List D} {i : Int} {d : D} (h : DpA W c vs ds) (e : atI ds i = some d) : ∃ v, atI vs i = some v ∧ Dp W c v d := by
  obtain ⟨j, h1, h2⟩ := Cs.atI_map (dpa_len h) e
  obtain ⟨v, h3, h4⟩ := dpa_get h h1
  exact ⟨v, h2 v h3, h4⟩
theorem opm_ix : OpM W E (rIx W.K) fIx := fun c x y v u Q ok hx hy w => by
  unfold fIx at w
  split at w
  · cases hx; cases hy
    split at w
    · rename_i hl
      split at w
      · rename_i k hk; exact .inr (.inr ⟨_, _, k, rfl, rfl, hl, hk, wp_ret w ok (.str _)⟩)
      · exact w.elim
    · exact w.elim
  · split at w
    · rename_i ds e
      split at w
      · rename_i d hd
        cases hy
        obtain ⟨a, xs, rfl, h1, h2⟩ := in_seq (x := x) ok hx e
        obtain ⟨z, h3, h4⟩ := dpa_at h2 hd
        rcases h1 with h1 | h1
        · exact .inl ⟨a, xs, _, z, rfl, rfl, h1, h3, wp_ret w ok h4⟩
        · exact .inr (.inl ⟨a, xs, _, z, rfl, rfl, h1, h3, wp_ret w ok h4⟩)
      · exact w.elim
    · exact w.elim
  · exact w.elim
abbrev MO := Env → Store → Res (Option Int)
def tO (W : Wd) (E : XK) (m : MO) : St → Hp → (Option Int → Hp → Prop) → Prop := fun σ H Q => ∃ ρ c, c.H = H ∧ Ok W c ∧ EnvR W c σ ρ ∧ Wp W (fun _ (b d : Option Int) => b = d) (m ρ c.μ) c Q E
def moNone : MO := fun _ μ => .ok none μ
def moSome (a : ME) : MO := fun ρ μ => (a ρ μ).bind fun d μ => match d with
  | .int i => .ok (some i) μ
  | _ => .bad
theorem po_weak {o : Option Expr} {t t' : St → Hp → (Option Int → Hp → Prop) → Prop} (h : PO X o t) (f : ∀ σ H Q, t' σ H Q → t σ H Q) : PO X o t' := ⟨fun pins s σ H Q I q => h.run pins s σ H Q I (f _ _ _ q)⟩
theorem mo_none {o : Option Expr} (h : PO X o tNoPart) : PO X o (tO W E moNone) := po_weak h fun σ H Q ⟨ρ, c, hH, ok, env, w⟩ => by
  subst hH
  exact wp_ret w ok rfl
theorem mo_some {o : Option Expr} {a : ME} (h : PO X o (tPart (tE W E a))) : PO X o (tO W E (moSome a)) := po_weak h fun σ H Q ⟨ρ, c, hH, ok, env, w⟩ =>
  ⟨ρ, c, hH, ok, env, wp_bind w fun v x c1 s1 ok1 r1 w1 => by
    split at w1
    · cases r1; exact ⟨_, rfl, wp_ret w1 ok1 rfl⟩
    · exact w1.elim⟩
noncomputable def fSl (b : Bool) (x : D) (lo hi : Option Int) (μ : Store) : Res D := match x with
  | .str z => if z.length ≤ sizeLine then .ok (.str (cutS z lo hi)) μ else .bad
  | .tup ds => .ok (.tup (cutD ds lo hi)) μ
  | x => match seqL μ x with
    | some ds => newL b (cutD ds lo hi) μ
    | none => .bad
noncomputable def mSl (b : Bool) (a : ME) (l h : MO) : ME := fun ρ μ => (a ρ μ).bind fun x μ => (l ρ μ).bind fun lo μ => (h ρ μ).bind fun hi μ => fSl b x lo hi μ
theorem cut_whole {ds : List D} {lo hi : Option Int} (h : HT.sIx ds.length 0 lo = 0 ∧ HT.sIx ds.length ds.length hi = ds.length) : cutD ds lo hi = ds := by
  unfold cutD
  rw [h.1, h.2]
  simp
theorem me_slice {e : Expr} {b : Bool} {a : ME} {l h' : MO} (h : PE X e (tSl (Cs.rSlD W.K) (tE W E a) (tO W E l) (tO W E h'))) : PE X e (tE W E (mSl b a l h')) := pe_weak h fun σ H Q ⟨ρ, c, hH, ok, env, w⟩ => by
  refine ⟨ρ, c, hH, ok, env, wp_bind w fun v x c1 s1 ok1 r1 w1 => ⟨ρ, c1, rfl, ok1, env.mono s1.le, wp_bind w1 fun lo' lo c2 s2 ok2 r2 w2 => ⟨ρ, c2, rfl, ok2, env.mono (s1.le.trans s2.le), wp_bind w2 fun hi' hi c3 s3 ok3 r3 w3 => ?_⟩⟩⟩
  subst r2 r3
  have r := dp_mono (s2.le.trans s3.le) r1
  unfold fSl at w3
  split at w3
  · cases r
    split at w3
    · rename_i hl; exact .inr (.inr ⟨_, rfl, hl, wp_ret w3 ok3 (.str _)⟩)
    · exact w3.elim
  · cases r with
    | tup hs ha =>
      refine .inr (.inl ⟨_, _, rfl, Cs.sqt_mono ok3.s hs, fun hw => ?_, fun _ p hp => ?_⟩)
      · rw [dpa_len ha] at hw
        rw [cut_whole hw] at w3
        exact wp_ret w3 ok3 (.tup hs ha)
      · exact wp_newT w3 ok3 (dpa_cut ha _ _) hp
  · split at w3
    · rename_i ds e
      obtain ⟨a, xs, rfl, h1, h2⟩ := seqL_ok ok3 r e
      exact .inl ⟨a, xs, rfl, h1, fun p hp => wp_newL w3 ok3 (dpa_cut h2 _ _) hp⟩
    · exact w3.elim
def fNeg : D → Store → Res D := fun x μ => match x with
  | .int i => .ok (.int (-i)) μ
  | _ => .bad
theorem unm_neg : UnM W E (rU fun i => .int (-i)) fNeg := fun c x v Q ok hx w => by
  unfold fNeg at w
  split at w
  · cases hx; exact ⟨_, rfl, wp_ret w ok (.int _)⟩
  · exact w.elim
theorem rLenK_call {X : Cx} : CallR X (.builtin "len") (fun xs H Q => ∃ a kvs, xs = [.ref a] ∧ Rd H a (.dK kvs) ∧ Q (.int kvs.length) H) := by
  intro pins s σ H xs us Q I r h
  obtain ⟨a, kvs, rfl, e, q⟩ := h
  obtain ⟨u, rfl, rx⟩ := vals1 r
  cases rx
  exact d_len I e fun t s' I' => ⟨.int kvs.length, H, I', ⟨t, rfl⟩, q⟩
def rLenA (K : PySem.W.Frag) : List V → Hp → VK → Prop := fun xs H Q => Cs.rLenD K xs H Q ∨ ∃ a kvs, xs = [.ref a] ∧ Rd H a (.dK kvs) ∧ Q (.int kvs.length) H
theorem call_lenA {X : Cx} : CallR X (.builtin "len") (rLenA X.K) := CallR.or Cs.call_lenX rLenK_call
noncomputable def fLen : List D → Store → Res D := fun xs μ => match xs with
  | [.str z] => if z.length ≤ sizeLine then .ok (.int z.length) μ else .bad
  | [x] => match (match seqL μ x with
      | some ds => some ds
      | none => seqT x) with
    | some ds => .ok (.int ds.length) μ
    | none => match dctOf μ x with
      | some (ks, _) => .ok (.int ks.length) μ
      | none => .bad
  | _ => .bad
theorem cbm_len : CbM W E (rLenA W.K) fLen := fun c xs vs Q ok hx w => by
  unfold fLen at w
  split at w
  · cases hx with
    | cons h1 h2 =>
      cases h1; cases h2
      split at w
      · rename_i hl; exact .inl ⟨_, _, rfl, ⟨hl, rfl⟩, wp_ret w ok (.int _)⟩
      · exact w.elim
  · cases hx with
    | cons h1 h2 =>
      cases h2
      split at w
      · rename_i ds e
        obtain ⟨a, xs, rfl, h3, h4⟩ := in_seq (x := .non) ok h1 e
        refine .inl ⟨_, _, rfl, ?_, by rw [← dpa_len h4] at w; exact wp_ret w ok (.int _)⟩
        rcases h3 with h3 | h3
        · exact .inl ⟨xs, h3, rfl⟩
        · exact .inr ⟨xs, h3, rfl⟩
      · split at w
        · rename_i ks ds e
          obtain ⟨a, xs, rfl, h3, h4, _, _⟩ := dct_ok ok h1 e
          refine .inr ⟨a, _, rfl, h3, ?_⟩
          rw [kvL_len h4]
          exact wp_ret w ok (.int _)
        · exact w.elim
  · exact w.elim
def allB : List D → Option (List Bool)
  | [] => some []
  | .bl b :: ds => (allB ds).map (b :: ·)
  | _ => none
theorem allB_ok : ∀ {ds : List D} {vs : List V} {bs : List Bool}, DpA W c vs ds → allB ds = some bs → vs = bs.map V.bl
  | [], _, _, h, e => by cases h; cases Option.some.inj e; rfl
  | .bl b :: ds, _, bs, h, e => by
    cases h with
    | cons h1 h2 =>
      cases h1
      unfold allB at e
      cases q : allB ds with
      | none => rw [q] at e; cases e
      | some bs' =>
        rw [q] at e
        cases Option.some.inj e
        rw [allB_ok h2 q]; rfl
  | .non :: _, _, _, _, e => by cases e
  | .int _ :: _, _, _, _, e => by cases e
  | .str _ :: _, _, _, _, e => by cases e
  | .ty _ :: _, _, _, _, e => by cases e
  | .lst _ :: _, _, _, _, e => by cases e
  | .tup _ :: _, _, _, _, e => by cases e
  | .dct _ _ :: _, _, _, _, e => by cases e
  | .obj _ _ _ :: _, _, _, _, e => by cases e
  | .exc _ _ _ :: _, _, _, _, e => by cases e
  | .cls _ :: _, _, _, _, e => by cases e
  | .own _ :: _, _, _, _, e => by cases e
def fAll (any : Bool) : List D → Store → Res D := fun xs μ => match xs with
  | [x] => match (seqL μ x).bind allB with
    | some bs => .ok (.bl (if any = true then bs.any id else bs.all id)) μ
    | none => .bad
  | _ => .bad
theorem all_of {x : D} {bs : List Bool} (ok : Ok W c) (h : Dp W c v x) (e : (seqL c.μ x).bind allB = some bs) : ∃ a, v = .ref a ∧ SqL W.K c.H a (bs.map V.bl) := by
  cases q : seqL c.μ x with
  | none => rw [q] at e; cases e
  | some ds =>
    rw [q] at e
    obtain ⟨a, xs, rfl, h1, h2⟩ := seqL_ok ok h q
    have := allB_ok h2 e
    subst this
    exact ⟨a, rfl, h1⟩
theorem cbm_all : CbM W E (rAll W.K) (fAll false) := fun c xs vs Q ok hx w => by
  unfold fAll at w
  split at w
  · split at w
    · rename_i bs e
      cases hx with
      | cons h1 h2 =>
        cases h2
        obtain ⟨a, rfl, h3⟩ := all_of ok h1 e
        exact ⟨a, bs, rfl, h3, wp_ret w ok (.bl _)⟩
    · exact w.elim
  · exact w.elim
theorem cbm_any : CbM W E (rAny W.K) (fAll true) := fun c xs vs Q ok hx w => by
  unfold fAll at w
  split at w
  · split at w
    · rename_i bs e
      cases hx with
      | cons h1 h2 =>
        cases h2
        obtain ⟨a, rfl, h3⟩ := all_of ok h1 e
        exact ⟨a, bs, rfl, h3, wp_ret w ok (.bl _)⟩
    · exact w.elim
  · exact w.elim
def keyDD : Key → D
  | .inl i => .int i
  | .inr x => .str x
theorem dp_key {k : Key} : Dp W c (kV k) (keyDD k) := by
  cases k with
  | inl i => exact .int i
  | inr x => exact .str x
theorem dpa_keys : ∀ {ks : List Key} {xs : List V}, ks.length = xs.length → DpA W c ((Cs.kvL ks xs).map fun kv => kV kv.1) (ks.map keyDD)
  | [], xs, _ => .nil
  | k :: ks, [], h => by simp at h
  | k :: ks, x :: xs, h => .cons dp_key (dpa_keys (by simpa using h))
def rListA (K : PySem.W.Frag) : List V → Hp → VK → Prop := fun xs H Q => Cs.rListD' K xs H Q ∨ ∃ (a : Addr) (kvs : List (Key × V)), xs = [.ref a] ∧ Rd H a (.dK kvs) ∧ ∀ p, H p = none → Q (.ref p) (upd H p (.lst (kvs.map fun kv => kV kv.1)))
theorem call_listAX {X : Cx} (hc : X.calm = true) : CallR X (.type "list") (rListA X.K) := CallR.or Cs.call_listX (call_listD hc)
noncomputable def fList (b : Bool) : List D → Store → Res D := fun xs μ => match xs with
  | [x] => match (match seqL μ x with
      | some ds => some ds
      | none => seqT x) with
    | some ds => newL b ds μ
    | none => match dctOf μ x with
      | some (ks, _) => newL b (ks.map keyDD) μ
      | none => .bad
  | _ => .bad
theorem cbm_list {b : Bool} : CbM W E (rListA W.K) (fList b) := fun c xs vs Q ok hx w => by
  unfold fList at w
  split at w
  · cases hx with
    | cons h1 h2 =>
      cases h2
      split at w
      · rename_i ds e
        obtain ⟨a, xs, rfl, h3, h4⟩ := in_seq (x := .non) ok h1 e
        exact .inl ⟨a, xs, rfl, h3, fun l hl => wp_newL w ok h4 hl⟩
      · split at w
        · rename_i ks ds e
          obtain ⟨a, xs, rfl, h3, h4, _, _⟩ := dct_ok ok h1 e
          exact .inr ⟨a, _, rfl, h3, fun q hq => wp_newL w ok (dpa_keys h4) hq⟩
        · exact w.elim
  · exact w.elim
def rTupA (K : PySem.W.Frag) : List V → Hp → VK → Prop := fun xs H Q => Cs.rTupleD K xs H Q ∨ Cs.rTupleK xs H Q
theorem call_tupA {X : Cx} (hc : X.calm = true) : CallR X (.type "tuple") (rTupA X.K) := CallR.or Cs.call_tupleX (Cs.call_tuple_dK hc)
noncomputable def fTuple : List D → Store → Res D := fun xs μ => match xs with
  | [.tup ds] => .ok (.tup ds) μ
  | [x] => match seqL μ x with
    | some ds => .ok (.tup ds) μ
    | none => match dctOf μ x with
      | some (ks, _) => .ok (.tup (ks.map keyDD)) μ
      | none => .bad
  | _ => .bad
theorem cbm_tuple : CbM W E (rTupA W.K) fTuple := fun c xs vs Q ok hx w => by
  unfold fTuple at w
  split at w
  · cases hx with
    | cons h1 h2 =>
      cases h2
      cases h1 with
      | tup hs ha => exact .inl ⟨_, _, rfl, .inr ⟨Cs.sqt_mono ok.s hs, wp_ret w ok (.tup hs ha)⟩⟩
  · cases hx with
    | cons h1 h2 =>
      cases h2
      split at w
      · rename_i ds e
        obtain ⟨a, xs, rfl, h3, h4⟩ := seqL_ok ok h1 e
        exact .inl ⟨a, xs, rfl, .inl ⟨h3, fun l hl => wp_newT w ok h4 hl⟩⟩
      · split at w
        · rename_i ks ds e
          obtain ⟨a, xs, rfl, h3, h4, _, _⟩ := dct_ok ok h1 e
          exact .inr ⟨a, _, rfl, h3, fun q hq => wp_newT w ok (dpa_keys h4) hq⟩
        · exact w.elim
  · exact w.elim
def strsD : List D → Option (List Str)
  | [] => some []
  | .str x :: ds => (strsD ds).map (x :: ·)
  | _ => none
theorem strsD_ok : ∀ {ds : List D} {vs : List V} {ss : List Str}, DpA W c vs ds → strsD ds = some ss → vs = ss.map V.str
  | [], _, _, h, e => by cases h; cases Option.some.inj e; rfl
  | .str b :: ds, _, bs, h, e => by
    cases h with
    | cons h1 h2 =>
      cases h1
      unfold strsD at e
      cases q : strsD ds with
      | none => rw [q] at e; cases e
      | some bs' =>
        rw [q] at e
        cases Option.some.inj e
        rw [strsD_ok h2 q]; rfl
  | .non :: _, _, _, _, e => by cases e
  | .int _ :: _, _, _, _, e => by cases e
  | .bl _ :: _, _, _, _, e => by cases e
  | .ty _ :: _, _, _, _, e => by cases e
  | .lst _ :: _, _, _, _, e => by cases e
  | .tup _ :: _, _, _, _, e => by cases e
  | .dct _ _ :: _, _, _, _, e => by cases e
  | .obj _ _ _ :: _, _, _, _, e => by cases e
  | .exc _ _ _ :: _, _, _, _, e => by cases e
  | .cls _ :: _, _, _, _, e => by cases e
  | .own _ :: _, _, _, _, e => by cases e
noncomputable def sortS (ss : List Str) : List Str := if h : ∃ ys, Cs.SortOf ss ys then choose h else []
theorem sortS_eq {ss ys : List Str} (h : Cs.SortOf ss ys) : sortS ss = ys := by
  have ex : ∃ ys, Cs.SortOf ss ys := ⟨ys, h⟩
  unfold sortS
  rw [dif_pos ex]
  have h2 := choose_spec ex
  exact Cs.sort_same ⟨h2.1.trans h.1.symm, h2.2⟩ h.2
theorem dpa_strs : ∀ {ss : List Str}, DpA W c (ss.map V.str) (ss.map D.str)
  | [] => .nil
  | _ :: _ => .cons (.str _) dpa_strs
def keysS : List Key → Option (List Str)
  | [] => some []
  | .inr x :: ks => (keysS ks).map (x :: ·)
  | _ => none
theorem keysS_ok : ∀ {ks : List Key} {ss : List Str}, keysS ks = some ss → ks = ss.map Sum.inr
  | [], _, e => by cases Option.some.inj e; rfl
  | .inr x :: ks, ss, e => by
    unfold keysS at e
    cases q : keysS ks with
    | none => rw [q] at e; cases e
    | some s' =>
      rw [q] at e
      cases Option.some.inj e
      rw [keysS_ok q]; rfl
  | .inl _ :: _, _, e => by cases e
theorem kvL_keys : ∀ {ks : List Key} {xs : List V}, ks.length = xs.length → (Cs.kvL ks xs).map (·.1) = ks
  | [], _, _ => rfl
  | _ :: _, [], h => by simp at h
  | k :: ks, x :: xs, h => by
    show k :: (Cs.kvL ks xs).map (·.1) = _
    rw [kvL_keys (by simpa using h)]
def rSortB (K : PySem.W.Frag) : List V → Hp → VK → Prop := fun xs H Q => Cs.rSortedA K xs H Q ∨ Cs.rSortedDK xs H Q
theorem call_sortB {X : Cx} (hc : X.calm = true) : CallR X (.builtin "sorted") (rSortB X.K) := CallR.or Cs.cr_sortedA (Cs.call_sortedDX hc)
noncomputable def fSorted (b : Bool) : List D → Store → Res D := fun xs μ => match xs with
  | [x] => match (match seqL μ x with
      | some ds => some ds
      | none => seqT x) with
    | some ds => match strsD ds with
      | some ss => if ss.length < 64 then newL b ((sortS ss).map .str) μ else .bad
      | none => .bad
    | none => match dctOf μ x with
      | some (ks, _) => match keysS ks with
        | some ss => if ss.length < 64 then newL b ((sortS ss).map .str) μ else .bad
        | none => .bad
      | none => .bad
  | _ => .bad
theorem cbm_sorted {b : Bool} : CbM W E (rSortB W.K) (fSorted b) := fun c xs vs Q ok hx w => by
  unfold fSorted at w
  split at w
  · cases hx with
    | cons h1 h2 =>
      cases h2
      split at w
      · rename_i ds e
        split at w
        · rename_i ss es
          split at w
          · rename_i hl
            obtain ⟨a, xs, rfl, h3, h4⟩ := in_seq (x := .non) ok h1 e
            have ex := strsD_ok h4 es
            subst ex
            rcases h3 with h3 | h3
            · exact .inl (.inl ⟨a, ss, rfl, h3, hl, fun ys p hp hs hn => by
                rw [sortS_eq ⟨hp, hs⟩] at w
                exact wp_newL w ok dpa_strs hn⟩)
            · exact .inl (.inr ⟨a, ss, rfl, h3, hl, fun ys p hp hs hn => by
                rw [sortS_eq ⟨hp, hs⟩] at w
                exact wp_newL w ok dpa_strs hn⟩)
          · exact w.elim
        · exact w.elim
      · split at w
        · rename_i ks ds e
          split at w
          · rename_i ss es
            split at w
            · rename_i hl
              obtain ⟨a, xs, rfl, h3, h4, _, _⟩ := dct_ok ok h1 e
              refine .inr ⟨a, _, ss, rfl, h3, (kvL_keys h4).trans (keysS_ok es), hl, fun ys p hp hs hn => ?_⟩
              rw [sortS_eq ⟨hp, hs⟩] at w
              exact wp_newL w ok dpa_strs hn
            · exact w.elim
          · exact w.elim
        · exact w.elim
  · exact w.elim
noncomputable def fRepr : List D → Store → Res D := fun xs μ => match xs with
  | [x] => match x.view μ with
    | some p => if p.showable = true ∧ p.shown.length ≤ sizeLine ∧ p.depth ≤ 64 then .ok (.str p.shown) μ else .bad
    | none => .bad
  | _ => .bad
theorem cbm_repr : CbM W E (Cs.rReprD W.K) fRepr := fun c xs vs Q ok hx w => by
  unfold fRepr at w
  split at w
  · split at w
    · rename_i p e
      split at w
      · rename_i hs
        cases hx with
        | cons h1 h2 =>
          cases h2
          exact ⟨_, p, rfl, dp_view ok h1 e, hs.1, hs.2.1, hs.2.2, wp_ret w ok (.str _)⟩
      · exact w.elim
    · exact w.elim
  · exact w.elim
def fMax2 : List D → Store → Res D := fun xs μ => match xs with
  | [.int i, .int j] => .ok (.int (if j > i then j else i)) μ
  | _ => .bad
theorem cbm_max2 : CbM W E Cs.rMax2 fMax2 := fun c xs vs Q ok hx w => by
  unfold fMax2 at w
  split at w
  · cases hx with
    | cons h1 h2 =>
      cases h2 with
      | cons h2 h3 =>
        cases h1; cases h2; cases h3
        exact ⟨_, _, rfl, wp_ret w ok (.int _)⟩
  · exact w.elim
end
end Mi
namespace Mi
open PySem PySem.Spec L2 PySem.W
section
variable {prog : Program} {w : World} {A : Around} {K : PySem.W.Frag} {x D : Addr} {ox od : Obj} {E : Value → Shared → Prop}
private abbrev gaB : Value := .builtin "BaseException.__getattribute__"
private abbrev gdB : Value := .builtin "getset_descriptor.__get__"
private abbrev ocB : Value := .builtin "object.__class__"
theorem xcls (C : ExcC K D) {Q : Option Value → Shared → Prop} : ∀ (s : Shared), K.In s.heap → InstAt s.heap x ox D (some od) → Q (some (.ref D)) { s with toks := s.toks + 1 } →
    wpAny (model prog w) A (getAttr? (.ref x) "__class__") Q E s := by
  rintro ⟨hp, gs, ds, tk, os⟩ kin inst q
  have isC : (clsIn K D).isSome = true := by
    obtain ⟨_, e, _⟩ := any_some C.hd
    rw [e]; rfl
  have found := findObj_data (od := od) isC C.ha C.hn C.ht
  have e1 : (gaB == Value.builtin "object.__getattribute__") = false := by decide +kernel
  have t1 := inst.type (M := model prog w)
  have t2 := looks_findIn (M := model prog w) kin C.hg
  have t3 := looks_findIn (M := model prog w) kin C.hk
  have t4 := looks_find (M := model prog w) kin inst found
  have t5 : Looks (model prog w) hp (isInstance (.ref x) (.type "BaseException")) true := t1.andThen (looks_subIn kin C.hs)
  have h1 : (onTheHeap (Value.ref D) && gaB == .builtin "object.__getattribute__") = false := by rw [e1]; rfl
  unfold getAttr? getAttrBy? getAttrBy
  refine wpAny_bind (wpAny_mkText (wpAny_bind (wpAny_attempt (wpAny_holding (wpAny_bind (t1.at (wpAny_bind (t2.at ?_))))))))
  change wpAny _ _ (if (onTheHeap (Value.ref D) && gaB == .builtin "object.__getattribute__") = true then _ else _) _ _ _
  rw [h1, if_neg Bool.false_ne_true]
  unfold getAttrByItsOwn hookBefore
  have h2 : onTheHeap (Value.ref D) = true := rfl
  rw [if_pos h2]
  refine wpAny_bind (t3.at (wpAny_bind (wpAny_attempt (wpAny_holding ?_))))
  unfold callGetattribute
  have h3 : (false && onTheHeap gaB) = false := rfl
  rw [h3, if_neg Bool.false_ne_true]
  unfold boundAndCalled
  rw [PySem.F.excAttr_ValueError.ga.bind (.ref x)]
  refine wpAny_bind (wpAny_pure ?_)
  change wpAny _ _ (call gaB [.ref x, .str "__class__" tk]) _ _ _
  refine wpAny_call (codeAny_call_builtin PySem.F.excAttr_ValueError.ga.plain PySem.F.entry_bexc_ga ?_)
  refine @check_slot (model prog w) _ _ ⟨hp, gs, ds, tk + 1, os⟩ _ "BaseException" "__getattribute__" (.ref x) [.str "__class__" tk] [] _
    (by decide +kernel) (by decide +kernel) t5 (PySem.F.args_bexc_ga _ _) ?_
  unfold Builtin.«object.__getattribute__»
  refine wpAny_bind (wpAny_of_eq (a := ((.ref x : Value), [Value.str "__class__" tk]))
    (by first | rfl | (simp only [slotArgs]; rfl)) (wpAny_bind (wpAny_pure (wpAny_bind (t1.at (wpAny_bind (t4.at ?_)))))))
  change wpAny _ _ (holding [ocB] (call gdB [ocB, .ref x, .ref D]) >>= ret) _ _ _
  refine wpAny_bind (wpAny_holding (wpAny_call (class_get (s := ⟨hp, gs, ds, tk + 1, os⟩) (ox := ox) (od := some od) kin inst C.hm ?_)))
  refine wpAny_pure ?_
  change wpAny _ _ (handedOut (.ref D)) _ _ _
  rw [handedOut_of (v := .ref D) rfl]
  first
    | exact wpAny_pure q
    | exact wpAny_pure (wpAny_pure q)
    | exact wpAny_pure (wpAny_bind (wpAny_pure (wpAny_pure q)))
end
theorem xkit {K : PySem.W.Frag} {D x : Addr} {ox od : Obj} (C : ExcC K D) : KitX K (.ref x) (.ref D) (fun h => InstAt h x ox D (some od)) := by
  have Z := handS_kitx_exc (x := x) (ox := ox) C.hg C.hk C.hs C.hd C.ha C.hn C.ht C.hm
  refine ⟨fun _ _ _ I => I.type, fun M h X I => ?_, Z.ne, fun X I k => xcls C _ X I k⟩
  obtain ⟨_, e, _⟩ := any_some C.hd
  unfold clsIn at e
  split at e
  · rename_i c' d' cd' sl' ho
    intro A1 Q1 E1 s1 k q
    unfold isType loadHead
    have there := k _ _ (X _ _ ho)
    exact wpAny_bind (wpAny_loadPart there (wpAny_pure q))
  · cases e
inductive TyM (K : PySem.W.Frag) (H : Hp) : V → Value → Prop
  | x {v : V} {t : Value} (h : TyX K H v t) : TyM K H v t
  | e0 {a g : Addr} (C : ExcC K g) (h : H a = some (Cs.XO (.ref g) none a)) : TyM K H (.ref a) (.ref g)
  | e1 {a g dx : Addr} {fs : List (Str × V)} (C : ExcC K g) (h : H a = some (Cs.XO (.ref g) (some dx) a)) (h2 : H dx = some (.xd fs)) : TyM K H (.ref a) (.ref g)
theorem TyM.kit {X : Cx} {pins : List (Addr × Obj)} {σ : L2.St} {H : Hp} {s : Shared} {v : V} {t u : Value} (I : Inv X pins σ H s) (r : RelV v u) (h : TyM X.K H v t) : ∃ P : Heap → Prop, KitX X.K u t P ∧ P s.heap ∧ u ≠ .builtin "__main__.__loader__#opaque" := by
  cases h with
  | x h => exact kit_of I r h
  | e0 C h =>
    cases r
    obtain ⟨oe, vs, hget, hz, hv⟩ := Cs.xo_at I.hok h
    refine ⟨_, handS_kitx_exc (ox := oe) C.hg C.hk C.hs C.hd C.ha C.hn C.ht C.hm, ?_, fun z => nomatch z⟩
    obtain ⟨oc, od, oda, osl⟩ := oe
    obtain ⟨h1, h2⟩ := hz
    dsimp only at h1 h2 hv
    subst h1 h2 hv
    exact ⟨hget, rfl, rfl, trivial⟩
  | @e1 _ _ dx fs C h h2 =>
    cases r
    obtain ⟨oe, vs, hget, hz, hv⟩ := Cs.xo_at I.hok h
    obtain ⟨mA, hns, _⟩ := (show ObjOk X.prog X.w H s.heap dx (.xd fs) from I.hok dx _ h2)
    obtain ⟨od, ho, _⟩ := lookIn_ns hns
    refine ⟨_, xkit (ox := oe) (od := od) C, ⟨hget, hz.1, by unfold PySem.W.notCls; rw [hv] <;> rfl, by rw [hz.2]; exact ho⟩, fun z => nomatch z⟩
def rIsM (K : PySem.W.Frag) : List V → Hp → VK → Prop := fun xs H Q => ∃ (x cl : V) (t u : Value) (b : Bool), xs = [x, cl] ∧ ClsV cl u ∧ TyM K H x t ∧ kitOne K t u = some b ∧ Q (.bl b) H
theorem call_isM {X : Cx} : CallR X (.builtin "isinstance") (rIsM X.K) := fun pins s σ H xs us Q I r ⟨x, cl, t, u, b, e0, k, ty, e, q⟩ => by
  subst e0
  obtain ⟨u1, u2, rfl, r1, r2⟩ := vals2 r
  cases k.eq r2
  obtain ⟨P, Z, p, hx⟩ := ty.kit I r1
  exact kia_one Z I.kIn p e hx fun tk => ⟨.bl b, H, I.tok tk, rfl, q⟩
def rIsMT (K : PySem.W.Frag) : List V → Hp → VK → Prop := fun xs H Q => ∃ (x : V) (tp : Addr) (cs : List V) (t : Value) (us : List Value) (b : Bool), xs = [x, .ref tp] ∧ H tp = some (.tup cs) ∧ Paired ClsV cs us ∧ TyM K H x t ∧ kitAny K t us = some b ∧ Q (.bl b) H
theorem call_isMT {X : Cx} : CallR X (.builtin "isinstance") (rIsMT X.K) := fun pins s σ H xs us Q I r ⟨x, tp, cs, t, ws, b, e0, hT, k, ty, e, q⟩ => by
  subst e0
  obtain ⟨u1, u2, rfl, r1, r2⟩ := vals2 r
  cases (show u2 = Value.ref tp from r2)
  obtain ⟨P, Z, p, hx⟩ := ty.kit I r1
  have hT2 : ObjOk X.prog X.w H s.heap tp (.tup cs) := I.hok tp _ hT
  obtain ⟨_, its, rv, ⟨oc, od, dt, sl⟩, h1, h2, n, h3⟩ := hT2
  cases ClsV.all k rv
  simp only at h2 h3
  subst h2 h3
  exact kia_tup Z I.kIn p h1 e hx fun tk => ⟨.bl b, H, I.tok tk, rfl, q⟩
inductive TN where
  | b (n : String) | o (C : String)
def tnC : Cell → TN
  | .lst _ => .b "list"
  | .dct _ _ => .b "dict"
  | .lck _ _ => .b "dict"
  | .obj C _ _ => .o C
def tnD (μ : Store) : D → Option TN
  | .non => some (.b "NoneType")
  | .bl _ => some (.b "bool")
  | .int _ => some (.b "int")
  | .str _ => some (.b "str")
  | .lst _ => some (.b "list")
  | .tup _ => some (.b "tuple")
  | .dct _ _ => some (.b "dict")
  | .obj C _ _ => some (.o C)
  | .exc C _ _ => some (.o C)
  | .own n => match μ[n]? with
    | some (some x) => some (tnC x)
    | _ => none
  | _ => none
def errs : List String := ["CallError", "BadParameter", "BadSignature", "NoName", "BadCall", "BadPiece", "Repeated", "Refused", "BadRow", "BadCounts", "NothingBinds", "BadChain", "Stopped", "BadVariants", "BadVersions", "BadMoves", "Breaks", "NoFunction", "NoSite", "BadEntry", "BadText"]
def isaC (C T : String) : Bool := C == T || (errs.contains C && T == "CallError")
def isaN (C m : String) : Bool := errs.contains C && ["ValueError", "Exception", "BaseException"].contains m
def btys : List String := ["NoneType", "bool", "int", "str", "list", "tuple", "dict"]
def isaT : TN → D → Option Bool
  | .b n, .ty m => kitB n m
  | .b _, .cls _ => some false
  | .o C, .cls T => some (isaC C T)
  | .o C, .ty m => some (isaN C m)
  | _, _ => none
structure IsF (W : Wd) (ts ms : List String) : Prop where
  oo : ∀ C g T t, T ∈ ts → W.cm C = some g → W.cm T = some t → kitOne W.K (.ref g) (.ref t) = some (isaC C T)
  bo : ∀ n T t, n ∈ btys → T ∈ ts → W.cm T = some t → kitOne W.K (.type n) (.ref t) = some false
  ob : ∀ C g m, m ∈ ms → W.cm C = some g → kitOne W.K (.ref g) (.type m) = some (isaN C m)
  ins : ∀ C g, errs.contains C = false → W.cm C = some g → Cs.IsC W.K g
  exc : ∀ C g, errs.contains C = true → W.cm C = some g → ExcC W.K g
section
variable {W : Wd} {E : XK} {X : Cx} {c : Cf} {v : V} {d : D} {ts ms : List String} {e : Expr}
theorem tn_b (ok : Ok W c) (h : Dp W c v d) {n : String} (e : tnD c.μ d = some (.b n)) : TyX W.K c.H v (.type n) ∧ n ∈ btys := by
  cases h with
  | non => cases Option.some.inj e; exact ⟨.base .non, by decide⟩
  | bl b => cases Option.some.inj e; exact ⟨.base (.bl b), by decide⟩
  | int i => cases Option.some.inj e; exact ⟨.base (.int i), by decide⟩
  | str i => cases Option.some.inj e; exact ⟨.base (.str i), by decide⟩
  | lst hs _ =>
    cases Option.some.inj e
    refine ⟨?_, by decide⟩
    rcases ok.s.seq hs with (h | ⟨o, h⟩) | ⟨o, its, n, h, hc, _⟩
    · exact .base (.lst h)
    · exact .base (.frz h)
    · exact .kList h hc
  | tup hs _ =>
    cases Option.some.inj e
    refine ⟨?_, by decide⟩
    rcases Cs.sqt_mono ok.s hs with (h | ⟨o, h⟩) | ⟨o, its, n, h, hc, _⟩
    · exact .base (.tup h)
    · exact .fTuple h
    · exact .kTuple h hc
  | dct hr _ _ _ =>
    cases Option.some.inj e
    refine ⟨?_, by decide⟩
    rcases Cs.rd_same ok.s hr with h | ⟨o, h⟩
    · exact .base (.dK h)
    · exact .fDict h
  | own hn =>
    unfold tnD at e
    dsimp only at e
    split at e
    · rename_i x hx
      obtain ⟨_, o, ho, hc⟩ := ok.at' _ _ hx
      cases x with
      | lst ds =>
        obtain ⟨xs, rfl, _⟩ := hc
        cases Option.some.inj e
        exact ⟨.base (.lst ho), by decide⟩
      | dct ks ds =>
        obtain ⟨xs, rfl, _⟩ := hc
        cases Option.some.inj e
        exact ⟨.base (.dK ho), by decide⟩
      | lck ks ds =>
        obtain ⟨xs, od, rfl, _⟩ := hc
        cases Option.some.inj e
        exact ⟨.fDict ho, by decide⟩
      | obj C ks ds => cases Option.some.inj e
    · cases e
  | _ => cases e
theorem tn_o (F : IsF W ts ms) (ok : Ok W c) (h : Dp W c v d) {C : String} (e : tnD c.μ d = some (.o C)) : ∃ g, W.cm C = some g ∧ (errs.contains C = false ∨ errs.contains C = true) ∧ ((∃ a dx fs, v = .ref a ∧ c.H a = some (.ins g dx fs)) ∨ ∃ a, v = .ref a ∧ (c.H a = some (Cs.XO (.ref g) none a) ∨ ∃ dx fs, c.H a = some (Cs.XO (.ref g) (some dx) a) ∧ c.H dx = some (.xd fs))) := by
  have tf : ∀ b : Bool, b = false ∨ b = true := fun b => by cases b <;> simp
  cases h with
  | obj hc hg hl ha => cases Option.some.inj e; exact ⟨_, hc, tf _, .inl ⟨_, _, _, rfl, ok.s _ _ hg⟩⟩
  | @exc _ _ _ d _ _ _ hc hg hd hn hl ha =>
    cases Option.some.inj e
    cases d with
    | none => exact ⟨_, hc, tf _, .inr ⟨_, rfl, .inl (ok.s _ _ hg)⟩⟩
    | some dx => exact ⟨_, hc, tf _, .inr ⟨_, rfl, .inr ⟨dx, _, ok.s _ _ hg, ok.s _ _ (hd dx rfl)⟩⟩⟩
  | own hn =>
    unfold tnD at e
    dsimp only at e
    split at e
    · rename_i x hx
      obtain ⟨_, o, ho, hc⟩ := ok.at' _ _ hx
      cases x with
      | obj C ks ds =>
        cases Option.some.inj e
        obtain ⟨g, dx, xs, h1, rfl, _⟩ := hc
        exact ⟨g, h1, tf _, .inl ⟨_, _, _, rfl, ho⟩⟩
      | _ => cases Option.some.inj e
    · cases e
  | _ => cases e
def isExcD : D → Bool
  | .exc _ _ _ => true
  | _ => false
def kindOk (μ : Store) (d : D) : Bool := match tnD μ d with
  | some (.o C) => errs.contains C == isExcD d
  | _ => true
theorem tn_any (F : IsF W ts ms) (ok : Ok W c) (h : Dp W c v d) (hk : kindOk c.μ d = true) {tn : TN} (e : tnD c.μ d = some tn) : ∃ t, TyM W.K c.H v t ∧ ∀ cl u b, ClsV (match cl with | .ty n => .ty n | .cls C => .ref ((W.cm C).getD 0) | _ => .non) u → isaT tn cl = some b → (∀ n, cl = .ty n → n ∈ ms ∨ ∃ m, tn = .b m) → (∀ T, cl = .cls T → T ∈ ts ∧ W.cm T ≠ none) → kitOne W.K t u = some b := by
  cases tn with
  | b n =>
    obtain ⟨h1, h2⟩ := tn_b ok h e
    refine ⟨_, .x h1, fun cl u b hu hb _ hT => ?_⟩
    cases cl with
    | ty m => cases hu; exact kit_ty hb
    | cls T =>
      obtain ⟨g, hg⟩ := Option.ne_none_iff_exists'.mp (hT T rfl).2
      dsimp only at hu
      rw [hg] at hu
      cases hu
      cases Option.some.inj hb
      exact F.bo n T g h2 (hT T rfl).1 hg
    | _ => cases hb
  | o C =>
    obtain ⟨g, hg, tf, hv⟩ := tn_o F ok h e
    have key : TyM W.K c.H v (.ref g) := by
      unfold kindOk at hk
      rw [e] at hk
      have hk' : errs.contains C = isExcD d := beq_iff_eq.mp hk
      cases h with
      | obj hc hg' hl ha =>
        cases Option.some.inj e
        rw [hg] at hc; cases hc
        exact .x ((F.ins C g hk' hg).ty (ok.s _ _ hg'))
      | @exc _ _ _ d _ _ _ hc hg' hd hn hl ha =>
        cases Option.some.inj e
        rw [hg] at hc; cases hc
        cases d with
        | none => exact .e0 (F.exc C g hk' hg) (ok.s _ _ hg')
        | some dx => exact .e1 (F.exc C g hk' hg) (ok.s _ _ hg') (ok.s _ _ (hd dx rfl))
      | @own n hn =>
        have e' := e
        unfold tnD at e'
        dsimp only at e'
        split at e'
        · rename_i x hx
          obtain ⟨_, o, ho, hc⟩ := ok.at' _ _ hx
          cases x with
          | obj C' ks ds =>
            cases Option.some.inj e'
            obtain ⟨g', dx, xs, h1, rfl, _⟩ := hc
            rw [hg] at h1; cases h1
            exact .x ((F.ins C g hk' hg).ty ho)
          | _ => cases Option.some.inj e'
        · cases e'
      | _ => cases e
    refine ⟨_, key, fun cl u b hu hb hm hT => ?_⟩
    cases cl with
    | ty m =>
      cases hu
      cases Option.some.inj hb
      rcases hm m rfl with z | ⟨_, z⟩
      · exact F.ob C g m z hg
      · cases z
    | cls T =>
      obtain ⟨t, ht⟩ := Option.ne_none_iff_exists'.mp (hT T rfl).2
      dsimp only at hu
      rw [ht] at hu
      cases hu
      cases Option.some.inj hb
      exact F.oo C g T t (hT T rfl).1 hg ht
    | _ => cases hb
end
end Mi
namespace Mi
open PySem PySem.Spec L2
open Classical
section
variable {W : Wd} {E : XK} {X : Cx} {c : Cf} {v : V} {d : D} {ds : List D} {e : Expr} {st : Stmt} {Q : VK}
theorem any_step {t u : Value} {us : List Value} {a b : Bool} (h1 : PySem.W.kitOne W.K t u = some a) (h2 : PySem.W.kitAny W.K t us = some b) : PySem.W.kitAny W.K t (u :: us) = some (a || b) := by
  cases a with
  | true => exact kitAny_cons h1 (fun z => by cases z) (fun _ => rfl)
  | false => exact kitAny_cons h1 (fun _ => h2) (fun z => by cases z)
def lookF {α : Type} (f : Str) : List Str → List α → Option α
  | k :: ks, x :: xs => if f = k then some x else lookF f ks xs
  | _, _ => none
theorem lookF_ok {f : Str} : ∀ {ks : List Str} {xs : List V} {ds : List D} {d : D}, DpA W c xs ds → lookF f ks ds = some d → ∃ v, (fsL ks xs).lookup f = some v ∧ Dp W c v d
  | [], _, _, _, _, e => by cases e
  | _ :: _, _, _, _, .nil, e => by cases e
  | k :: ks, _, _, d, .cons h1 h2, e => by
    unfold lookF at e
    show ∃ v, List.lookup f ((k, _) :: fsL ks _) = some v ∧ _
    by_cases hk : f = k
    · rw [if_pos hk] at e
      cases Option.some.inj e
      exact ⟨_, by rw [List.lookup_cons, hk, beq_self_eq_true], h1⟩
    · rw [if_neg hk] at e
      obtain ⟨v, h3, h4⟩ := lookF_ok h2 e
      refine ⟨v, ?_, h4⟩
      rw [List.lookup_cons]
      have : (f == k) = false := beq_eq_false_iff_ne.mpr hk
      rw [this]; exact h3
structure FldC (W : Wd) (C : String) (f : Str) : Prop where
  cl : ∀ g, W.cm C = some g → Cls W.K g
  no : ∀ g, W.cm C = some g → NoAttr W.K g f
def mFld (Cs' : List String) (f : Str) (a : ME) : ME := fun ρ μ => (a ρ μ).bind fun x μ => match objOf μ x with
  | some (C, ks, ds) => if Cs'.contains C = true then match lookF f ks ds with
      | some d => .ok d μ
      | none => .bad
    else .bad
  | none => .bad
theorem me_fld {Cs' : List String} {f : Str} {a : ME} (F : ∀ C ∈ Cs', FldC W C f) (h : PE X e (tFld W.K (tE W E a) f)) : PE X e (tE W E (mFld Cs' f a)) := pe_weak h fun σ H Q ⟨ρ, c, hH, ok, env, w⟩ =>
  ⟨ρ, c, hH, ok, env, wp_bind w fun v x c1 s1 ok1 r1 w1 => by
    split at w1
    · rename_i C ks ds e
      split at w1
      · rename_i hC
        split at w1
        · rename_i d ed
          obtain ⟨a, g, dx, xs, rfl, h1, h2, h3, h4⟩ := obj_ok ok1 r1 e
          obtain ⟨u, h5, h6⟩ := lookF_ok h4 ed
          have FC := F C (List.contains_iff_mem.mp hC)
          exact ⟨a, g, dx, _, u, rfl, h2, FC.cl g h1, FC.no g h1, h5, wp_ret w1 ok1 h6⟩
        · exact w1.elim
      · exact w1.elim
    · exact w1.elim⟩
def putFK (f : Str) : List Str → List Str
  | [] => [f]
  | k :: ks => if k = f then k :: ks else k :: putFK f ks
def putFV {α : Type} (f : Str) (z : α) : List Str → List α → List α
  | [], xs => xs ++ [z]
  | k :: ks, x :: xs => if k = f then z :: xs else x :: putFV f z ks xs
  | _ :: _, [] => []
theorem putF_L {f : Str} {z : V} : ∀ {ks : List Str} {xs : List V}, ks.length = xs.length → putF f z (fsL ks xs) = fsL (putFK f ks) (putFV f z ks xs) ∧ (putFK f ks).length = (putFV f z ks xs).length
  | [], [], _ => ⟨rfl, rfl⟩
  | [], _ :: _, h => by simp at h
  | _ :: _, [], h => by simp at h
  | k :: ks, x :: xs, h => by
    have hl : ks.length = xs.length := by simpa using h
    obtain ⟨h1, h2⟩ := putF_L (f := f) (z := z) hl
    by_cases hk : k = f
    · constructor
      · show (if k = f then (k, z) :: fsL ks xs else _) = fsL (if k = f then k :: ks else _) (if k = f then z :: xs else _)
        rw [if_pos hk, if_pos hk, if_pos hk]; rfl
      · show (if k = f then k :: ks else _ : List Str).length = (if k = f then z :: xs else _ : List V).length
        rw [if_pos hk, if_pos hk]; simp [hl]
    · constructor
      · show (if k = f then _ else (k, x) :: putF f z (fsL ks xs)) = fsL (if k = f then _ else k :: putFK f ks) (if k = f then _ else x :: putFV f z ks xs)
        rw [if_neg hk, if_neg hk, if_neg hk, h1]; rfl
      · show (if k = f then _ else k :: putFK f ks : List Str).length = (if k = f then _ else x :: putFV f z ks xs : List V).length
        rw [if_neg hk, if_neg hk]; simp [h2]
theorem dpa_putF {f : Str} {z : V} {dz : D} (hz : Dp W c z dz) : ∀ {ks : List Str} {xs : List V} {ds : List D}, DpA W c xs ds → DpA W c (putFV f z ks xs) (putFV f dz ks ds)
  | [], _, _, h => dpa_app h (.cons hz .nil)
  | _ :: _, _, _, .nil => .nil
  | k :: ks, _, _, .cons h1 h2 => by
    unfold putFV
    by_cases hk : k = f
    · rw [if_pos hk, if_pos hk]; exact .cons hz h2
    · rw [if_neg hk, if_neg hk]; exact .cons h1 (dpa_putF hz h2)
def ownO (μ : Store) : D → Option (Nat × String × List Str × List D)
  | .own n => match μ[n]? with
    | some (some (.obj C ks ds)) => some (n, C, ks, ds)
    | _ => none
  | _ => none
theorem ownO_ok {n : Nat} {C : String} {ks : List Str} (ok : Ok W c) (h : Dp W c v d) (e : ownO c.μ d = some (n, C, ks, ds)) : d = .own n ∧ c.μ[n]? = some (some (.obj C ks ds)) ∧ v = .ref (c.ι n) ∧ ∃ g dx xs, W.cm C = some g ∧ c.H (c.ι n) = some (.ins g dx (fsL ks xs)) ∧ ks.length = xs.length ∧ DpA W c xs ds := by
  cases h with
  | own hn =>
    unfold ownO at e
    dsimp only at e
    split at e
    · rename_i x hx
      cases Option.some.inj e
      obtain ⟨_, o, ho, g, dx, xs, hc, rfl, hl, ha⟩ := ok.at' _ _ hx
      exact ⟨rfl, hx, rfl, g, dx, xs, hc, ho, hl, ha⟩
    · cases e
  | _ => cases e
def mPutF (Cs' : List String) (f : Str) (o a : ME) : MS := fun _ ρ μ => (a ρ μ).st fun z μ => (o ρ μ).st fun x μ => match ownO μ x with
  | some (n, C, ks, ds) => if Cs'.contains C = true ∧ ks.length < 1000 then .nx ρ (μ.set n (some (.obj C (putFK f ks) (putFV f z ks ds)))) else .bad
  | none => .bad
theorem ms_fld {Cs' : List String} {f : Str} {o a : ME} (F : ∀ C ∈ Cs', FldC W C f) (h : PS X st (sFld W.K (tE W E o) (tE W E a) f)) : PS X st (tS W E (mPutF Cs' f o a)) := ps_weak h fun D σ H ⟨c0, cs, ρ, c, hH, ok, s, le, env, w⟩ =>
  ⟨ρ, c, hH, ok, env, wps_bind w s fun y z c1 s1 s2 ok1 r1 w1 => ⟨ρ, c1, rfl, ok1, env.mono s2.le, wps_bind w1 s1 fun v x c2 s3 s4 ok2 r2 w2 => by
    split at w2
    · rename_i n C ks ds eo
      split at w2
      · rename_i hC
        obtain ⟨rfl, hx, rfl, g, dx, xs, h1, h2, h3, h4⟩ := ownO_ok ok2 r2 eo
        have FC := F C (List.contains_iff_mem.mp hC.1)
        obtain ⟨p1, p2⟩ := putF_L (f := f) (z := y) h3
        have lfs : (fsL ks xs).length = ks.length := by simp [fsL, h3]
        refine ⟨c2.ι n, g, dx, _, rfl, h2, FC.cl g h1, FC.no g h1, by rw [lfs]; exact hC.2, ?_⟩
        rw [p1]
        obtain ⟨ok3, s5⟩ := step_put (x := .obj C (putFK f ks) (putFV f z ks ds)) (o := .ins g dx (fsL (putFK f ks) (putFV f y ks xs))) ok2 hx rfl ⟨g, dx, _, h1, rfl, p2, dpa_putF (dp_mono s4.le r1) h4⟩
        exact w2 σ _ rfl (s3.trans s5) (le.trans (s2.le.trans (s4.le.trans s5.le))) ok3 (env.mono (s2.le.trans (s4.le.trans s5.le)))
      · exact w2.elim
    · exact w2.elim⟩⟩
def spM (W : Wd) (m : List D → Store → Res D) : Sp := fun vs H Q E => ∃ c ds, c.H = H ∧ Ok W c ∧ DpA W c vs ds ∧ Wp W (Dp W) (m ds c.μ) c Q E
def mFn (N P : Nat) (body : MS) : List D → Store → Res D := fun ds μ => if ds.length = P then match body μ.length (startD N ds) μ with
    | .nx _ μ => .ok .non μ
    | .rt d μ => .ok d μ
    | .exc x μ => .exc x μ
    | _ => .bad
  else .bad
theorem spM_len {N P : Nat} {body : MS} {vs : List V} {H : Hp} {E : XK} (h : spM W (mFn N P body) vs H Q E) : vs.length = P := by
  obtain ⟨c, ds, _, _, r, w⟩ := h
  unfold mFn at w
  split at w
  · rename_i hl; rw [dpa_len r]; exact hl
  · exact w.elim
theorem pureM {N : List Str} {P : Nat} {body : MS} {vs : List V} {H : Hp} (h : spM W (mFn N.length P body) vs H Q E) : tS W E body { nx := fun _ H' => Q .non H', rt := Q } (L2.start N vs) H := by
  obtain ⟨c, ds, hH, ok, r, w⟩ := h
  unfold mFn at w
  split at w
  · refine ⟨c, c, startD N.length ds, c, hH, ok, .refl ok, .refl c, EnvR.start r, ?_⟩
    cases eb : body c.μ.length (startD N.length ds) c.μ with
    | nx ρ μ => rw [eb] at w; exact fun σ c' e s _ ok' _ => w .non c' e s ok' .non
    | rt d μ => rw [eb] at w; exact w
    | bk ρ μ => rw [eb] at w; exact w.elim
    | ct ρ μ => rw [eb] at w; exact w.elim
    | exc x μ => rw [eb] at w; exact w
    | bad => rw [eb] at w; exact w.elim
  · exact w.elim
def mCall (m : List D → Store → Res D) (a : MA) : ME := fun ρ μ => (a ρ μ).bind m
theorem me_call {m : List D → Store → Res D} {a : MA} (h : PE X e (tCall (spM W m) [] E (tA W E a))) : PE X e (tE W E (mCall m a)) := pe_weak h fun σ H Q ⟨ρ, c, hH, ok, env, w⟩ =>
  ⟨ρ, c, hH, ok, env, wp_bind w fun vs ds c1 s1 ok1 r1 w1 => ⟨c1, ds, rfl, ok1, by rw [List.append_nil]; exact r1, w1⟩⟩
def mMeth (C : String) (f : Str) (m : List D → Store → Res D) (o : ME) (a : MA) : ME := fun ρ μ => (o ρ μ).bind fun x μ => match objOf μ x with
  | some (C', ks, _) => if C' = C ∧ f ∉ ks then (a ρ μ).bind fun ds μ => m (x :: ds) μ else .bad
  | none => .bad
theorem look_none {f : Str} : ∀ {ks : List Str} {xs : List V}, f ∉ ks → (fsL ks xs).lookup f = none
  | [], _, _ => rfl
  | _ :: _, [], _ => rfl
  | k :: ks, x :: xs, h => by
    show List.lookup f ((k, x) :: fsL ks xs) = none
    rw [List.lookup_cons]
    have : (f == k) = false := beq_eq_false_iff_ne.mpr fun z => h (by rw [z]; exact List.mem_cons_self)
    rw [this]
    exact look_none fun z => h (List.mem_cons_of_mem _ z)
theorem me_meth {C : String} {g : Addr} {f : Str} {m : List D → Store → Res D} {o : ME} {a : MA} (hC : W.cm C = some g) (h : PE X e (tMeth g f (spM W m) [] E (tE W E o) (tA W E a))) : PE X e (tE W E (mMeth C f m o a)) := pe_weak h fun σ H Q ⟨ρ, c, hH, ok, env, w⟩ =>
  ⟨ρ, c, hH, ok, env, wp_bind w fun v x c1 s1 ok1 r1 w1 => by
    split at w1
    · rename_i C' ks ds' eo
      split at w1
      · rename_i hc
        obtain ⟨a', g', dx, xs, rfl, h1, h2, h3, h4⟩ := obj_ok ok1 r1 eo
        rw [hc.1, hC] at h1
        cases h1
        exact ⟨a', dx, _, rfl, h2, look_none hc.2, ρ, c1, rfl, ok1, env.mono s1.le, wp_bind w1 fun vs ds c2 s2 ok2 r2 w2 => ⟨c2, x :: ds, rfl, ok2, by rw [List.append_nil]; exact .cons (dp_mono s2.le r1) r2, w2⟩⟩
      · exact w1.elim
    · exact w1.elim⟩
theorem me_meth0 {C : String} {g : Addr} {f : Str} {m : List D → Store → Res D} {o : ME} (hC : W.cm C = some g) (h : PE X e (tMeth g f (spM W m) [] E (tE W E o) tNil)) : PE X e (tE W E (mMeth C f m o mNil)) := pe_weak h fun σ H Q ⟨ρ, c, hH, ok, env, w⟩ =>
  ⟨ρ, c, hH, ok, env, wp_bind w fun v x c1 s1 ok1 r1 w1 => by
    split at w1
    · rename_i C' ks ds' eo
      split at w1
      · rename_i hc
        obtain ⟨a', g', dx, xs, rfl, h1, h2, h3, h4⟩ := obj_ok ok1 r1 eo
        rw [hc.1, hC] at h1
        cases h1
        exact ⟨a', dx, _, rfl, h2, look_none hc.2, c1, [x], rfl, ok1, .cons r1 .nil, w1⟩
      · exact w1.elim
    · exact w1.elim⟩
def mProp (C : String) (m : List D → Store → Res D) (o : ME) : ME := fun ρ μ => (o ρ μ).bind fun x μ => match objOf μ x with
  | some (C', _, _) => if C' = C then m [x] μ else .bad
  | none => .bad
def mkObj (frz : Bool) (C : String) (m : List D → Store → Res D) (ds : List D) (μ : Store) : Res D :=
  match m (.own μ.length :: ds) (μ ++ [some (.obj C [] [])]) with
  | .ok .non μ' => if frz = true then match μ'[μ.length]? with
      | some (some x) => match frzC x with
        | some d => .ok d (μ'.set μ.length none)
        | none => .bad
      | _ => .bad
    else .ok (.own μ.length) μ'
  | .exc x μ' => .exc x μ'
  | _ => .bad
theorem wp_make {frz : Bool} {C : String} {g : Addr} {m : List D → Store → Res D} {ds : List D} {vs : List V} {c : Cf} (hC : W.cm C = some g) (ok : Ok W c) (r : DpA W c vs ds) (w : Wp W (Dp W) (mkObj frz C m ds c.μ) c Q E) :
    ∀ x dx, c.H x = none → c.H dx = none → dx ≠ x → spM W m (.ref x :: vs) (upd (upd c.H dx (.own x)) x (.ins g dx [])) (fun v H2 => v = .non ∧ Q (.ref x) H2) E := by
  intro x dx hx hdx hne
  -- the dict's own mark lies aside: known, in a part that nothing speaks of
  obtain ⟨ok1, s1⟩ := step_new (o := .own x) ok hdx
  have hx1 : (upd c.H dx (.own x)) x = none := by rw [upd_ne (Ne.symm hne)]; exact hx
  have cell : CellAt W (c.to (upd c.G dx (.own x)) (upd c.H dx (.own x))) (.ins g dx []) (.obj C [] []) := ⟨g, dx, [], hC, rfl, rfl, .nil⟩
  obtain ⟨ok2, s2⟩ := step_add (p := x) ok1 hx1 cell
  have s12 := s1.trans s2
  refine ⟨(c.to (upd c.G dx (.own x)) (upd c.H dx (.own x))).add x (.ins g dx []) (.obj C [] []), .own c.μ.length :: ds, rfl, ok2, .cons own_top (dpa_mono s12.le r), ?_⟩
  unfold mkObj at w
  have em : ((c.to (upd c.G dx (.own x)) (upd c.H dx (.own x))).add x (.ins g dx []) (.obj C [] [])).μ = c.μ ++ [some (.obj C [] [])] := rfl
  rw [em]
  have top : ((c.to (upd c.G dx (.own x)) (upd c.H dx (.own x))).add x (.ins g dx []) (.obj C [] [])).ι c.μ.length = x := by
    simp [Cf.add, Cf.to]
  cases e : m (.own c.μ.length :: ds) (c.μ ++ [some (.obj C [] [])]) with
  | bad => rw [e] at w; exact w.elim
  | exc y μ' => rw [e] at w; exact fun u o c' e' s ok' r' => w u o c' e' (s12.trans s) ok' r'
  | ok d μ' =>
    rw [e] at w
    intro v c' e' s ok' r'
    cases d with
    | non =>
      cases r'
      refine ⟨rfl, ?_⟩
      dsimp only at w
      have lt : c.μ.length < ((c.to (upd c.G dx (.own x)) (upd c.H dx (.own x))).add x (.ins g dx []) (.obj C [] [])).μ.length := by rw [em]; simp
      have ax : c'.ι c.μ.length = x := (s.ag _ lt).trans top
      have st := s12.trans s
      cases frz with
      | false =>
        rw [if_neg Bool.false_ne_true] at w
        have q := Dp.own (W := W) (c := c') (n := c.μ.length) (Nat.lt_of_lt_of_le lt s.len)
        rw [ax] at q
        exact w (.ref x) c' e' st ok' q
      | true =>
        rw [if_pos rfl] at w
        split at w
        · rename_i y hy
          split at w
          · rename_i d' hd'
            rw [← e'] at hy w
            obtain ⟨c2, h1, h2, h3, h4, h5, h6⟩ := frz_ok st ok' hy (Nat.le_refl _) hd'
            rw [ax] at h6
            have := w (.ref x) c2 h2 h3 h4 h6
            rw [h1] at this
            exact this
          · exact w.elim
        · exact w.elim
    | _ => exact w.elim
def mMake (frz : Bool) (C : String) (m : List D → Store → Res D) (a : MA) : ME := fun ρ μ => (a ρ μ).bind (mkObj frz C m)
theorem me_make {frz : Bool} {C : String} {g : Addr} {m : List D → Store → Res D} {a : MA} (hC : W.cm C = some g) (h : PE X e (tMake g (spM W m) [] E (tA W E a))) : PE X e (tE W E (mMake frz C m a)) := pe_weak h fun σ H Q ⟨ρ, c, hH, ok, env, w⟩ =>
  ⟨ρ, c, hH, ok, env, wp_bind w fun vs ds c1 s1 ok1 r1 w1 => by
    have q := wp_make hC ok1 r1 w1
    rw [List.append_nil]
    exact q⟩
def mRaise (C : String) : MS := fun _ _ μ => .exc ⟨C, [], []⟩ μ
theorem ms_raise {C : String} {g : Addr} (hC : W.cm C = some g) (h : PS X st (fun _ _ H => E (.ref g) none H)) : PS X st (tS W E (mRaise C)) := ps_weak h fun D σ H ⟨c0, cs, ρ, c, hH, ok, s, le, env, w⟩ => by
  subst hH
  exact w (.ref g) none c rfl s ok ⟨g, hC, rfl, .inl ⟨rfl, rfl, rfl⟩⟩
end
end Mi
namespace Mi
open PySem PySem.Spec L2
open Classical
section
variable {W : Wd} {E : XK} {X : Cx} {c : Cf} {v : V} {d : D} {ds : List D} {e tg iter : Expr} {st : Stmt} {Q : VK}
def MtC (W : Wd) (E : XK) (r : V → List V → Hp → VK → Prop) (f : D → List D → Store → Res D) : Prop := ∀ c x v xs vs Q, Ok W c → Dp W c v x → DpA W c vs xs → Wp W (Dp W) (f x xs c.μ) c Q E → r v vs c.H Q
def tyM (μ : Store) : D → Option String
  | .str _ => some "str"
  | .int _ => some "int"
  | .lst _ => some "list"
  | .own n => match μ[n]? with
    | some (some (.lst _)) => some "list"
    | some (some (.dct _ _)) => some "dict"
    | _ => none
  | _ => none
theorem tyM_ok (ok : Ok W c) (h : Dp W c v d) {T : String} (e : tyM c.μ d = some T) : tyV W.K T v c.H := by
  cases h with
  | str x => cases Option.some.inj e; rfl
  | int x => cases Option.some.inj e; rfl
  | lst hs ha => cases Option.some.inj e; exact .inl ⟨rfl, _, ok.s.seq hs⟩
  | own hn =>
    unfold tyM at e
    dsimp only at e
    split at e
    · rename_i ds hx
      cases Option.some.inj e
      obtain ⟨_, o, ho, xs, rfl, _⟩ := ok.at' _ _ hx
      exact .inl ⟨rfl, xs, .inl (.inl ho)⟩
    · rename_i ks ds hx
      cases Option.some.inj e
      obtain ⟨_, o, ho, xs, rfl, _⟩ := ok.at' _ _ hx
      exact .inr (.inr (.inl ⟨rfl, .inl ⟨_, ho⟩⟩))
    · cases e
  | _ => cases e
def mBm (T : String) (f : D → List D → Store → Res D) (o : ME) (a : MA) : ME := fun ρ μ => (o ρ μ).bind fun x μ => if tyM μ x = some T then (a ρ μ).bind fun xs μ => f x xs μ else .bad
theorem me_bm {T : String} {r : V → List V → Hp → VK → Prop} {f : D → List D → Store → Res D} {o : ME} {a : MA} (hf : MtC W E r f) (h : PE X e (tBM W.K T r (tE W E o) (tA W E a))) : PE X e (tE W E (mBm T f o a)) := pe_weak h fun σ H Q ⟨ρ, c, hH, ok, env, w⟩ =>
  ⟨ρ, c, hH, ok, env, wp_bind w fun v x c1 s1 ok1 r1 w1 => by
    split at w1
    · rename_i ht
      exact ⟨tyM_ok ok1 r1 ht, ρ, c1, rfl, ok1, env.mono s1.le, wp_bind w1 fun vs xs c2 s2 ok2 r2 w2 => hf c2 x v xs vs Q ok2 (dp_mono s2.le r1) r2 w2⟩
    · exact w1.elim⟩
theorem me_bm0 {T : String} {r : V → List V → Hp → VK → Prop} {f : D → List D → Store → Res D} {o : ME} (hf : MtC W E r f) (h : PE X e (tBM0 W.K T r (tE W E o))) : PE X e (tE W E (mBm T f o mNil)) := pe_weak h fun σ H Q ⟨ρ, c, hH, ok, env, w⟩ =>
  ⟨ρ, c, hH, ok, env, wp_bind w fun v x c1 s1 ok1 r1 w1 => by
    split at w1
    · rename_i ht
      exact ⟨tyM_ok ok1 r1 ht, hf c1 x v [] [] Q ok1 r1 .nil w1⟩
    · exact w1.elim⟩
theorem wp_putL {α : D} {n : Nat} {xs : List V} {ds ds0 : List D} (w : Wp W (Dp W) (.ok α (c.μ.set n (some (.lst ds)))) c Q E) (ok : Ok W c) (hx : c.μ[n]? = some (some (.lst ds0))) (ha : DpA W c xs ds) {z : V} (hz : Dp W c z α) : Q z (upd c.H (c.ι n) (.lst xs)) := by
  obtain ⟨ok3, s5⟩ := step_put (x := .lst ds) (o := .lst xs) ok hx rfl ⟨xs, rfl, ha⟩
  exact w z (c.put n (.lst xs) (.lst ds)) rfl s5 ok3 (dp_mono s5.le hz)
def fAppend : D → List D → Store → Res D := fun x xs μ => match ownL μ x, xs with
  | some (n, ds), [y] => if ds.length < sizeLine then .ok .non (μ.set n (some (.lst (ds ++ [y])))) else .bad
  | _, _ => .bad
theorem mtc_append : MtC W E rAppend fAppend := fun c x v xs vs Q ok hx hxs w => by
  unfold fAppend at w
  split at w
  · rename_i n ds y e
    split at w
    · rename_i hl
      obtain ⟨rfl, hm, rfl, ws, h1, h2⟩ := ownL_ok ok hx e
      cases hxs with
      | cons h3 h4 =>
        cases h4
        exact ⟨_, ws, _, rfl, rfl, h1, by rw [dpa_len h2]; exact hl, wp_putL w ok hm (dpa_app h2 (.cons h3 .nil)) .non⟩
    · exact w.elim
  · exact w.elim
def fPopAt : D → List D → Store → Res D := fun x xs μ => match ownL μ x, xs with
  | some (n, ds), [.int i] => if -(2 ^ 63) ≤ i ∧ i < 2 ^ 63 then match seqIndex? i ds.length with
      | some k => match ds[k]? with
        | some y => .ok y (μ.set n (some (.lst (ds.eraseIdx k))))
        | none => .bad
      | none => .bad
    else .bad
  | _, _ => .bad
theorem mtc_popAt : MtC W E rPopAt fPopAt := fun c x v xs vs Q ok hx hxs w => by
  unfold fPopAt at w
  split at w
  · rename_i n ds i e
    split at w
    · rename_i hi
      split at w
      · rename_i k hk
        split at w
        · rename_i y hy
          obtain ⟨rfl, hm, rfl, ws, h1, h2⟩ := ownL_ok ok hx e
          cases hxs with
          | cons h3 h4 =>
            cases h3; cases h4
            obtain ⟨z, h5, h6⟩ := dpa_get h2 hy
            exact ⟨_, ws, _, k, z, rfl, rfl, h1, hi.1, hi.2, by rw [dpa_len h2]; exact hk, h5, wp_putL w ok hm (dpa_erase k h2) h6⟩
        · exact w.elim
      · exact w.elim
    · exact w.elim
  · exact w.elim
def mgSubL (o i : ME) : MG := fun z ρ μ => (o ρ μ).bind fun x μ => (i ρ μ).bind fun y μ => match ownL μ x, y with
  | some (n, ds), .int k => match ixN ds.length k with
    | some j => .ok ρ (μ.set n (some (.lst (ds.set j z))))
    | none => .bad
  | _, _ => .bad
theorem mg_subL {o i : ME} (h : PG X e (gSub (tE W E o) (tE W E i) rSetL)) : PG X e (tG W E (mgSubL o i)) := pg_weak h fun v σ H Q ⟨ρ, c, z, hH, ok, env, rz, w⟩ =>
  ⟨ρ, c, hH, ok, env, wp_bind w fun u x c1 s1 ok1 r1 w1 => ⟨ρ, c1, rfl, ok1, env.mono s1.le, wp_bind w1 fun u2 y c2 s2 ok2 r2 w2 => by
    split at w2
    · rename_i n ds k e
      split at w2
      · rename_i j hj
        obtain ⟨rfl, hm, rfl, ws, h1, h2⟩ := ownL_ok ok2 (dp_mono s2.le r1) e
        cases r2
        have le := s1.le.trans s2.le
        have ha := dpa_set j h2 (dp_mono le rz)
        obtain ⟨ok3, s5⟩ := step_put (x := .lst (ds.set j z)) (o := .lst (ws.set j v)) ok2 hm rfl ⟨_, rfl, ha⟩
        exact ⟨_, ws, _, j, rfl, rfl, h1, by rw [dpa_len h2]; exact hj, w2 σ (c2.put n (.lst (ws.set j v)) (.lst (ds.set j z))) rfl s5 ok3 (env.mono (le.trans s5.le))⟩
      · exact w2.elim
    · exact w2.elim⟩⟩
def keyOf : D → Option Key
  | .int i => some (.inl i)
  | .str x => some (.inr x)
  | _ => none
theorem keyOf_ok {k : Key} (h : Dp W c v d) (e : keyOf d = some k) : v = kV k := by
  cases h <;> first | (cases Option.some.inj e; rfl) | cases e
def lookK {α : Type} (k : Key) : List Key → List α → Option α
  | k' :: ks, x :: xs => if k' = k then some x else lookK k ks xs
  | _, _ => none
def mDGet (o i : ME) : ME := fun ρ μ => (o ρ μ).bind fun x μ => (i ρ μ).bind fun y μ => match dctOf μ x, keyOf y with
  | some (ks, ds), some k => match lookK k ks ds with
    | some d => .ok d μ
    | none => .bad
  | _, _ => .bad
def mDIn (neg : Bool) (i o : ME) : ME := fun ρ μ => (i ρ μ).bind fun y μ => (o ρ μ).bind fun x μ => match dctOf μ x, keyOf y with
  | some (ks, ds), some k => .ok (.bl (if neg = true then !(lookK k ks ds).isSome else (lookK k ks ds).isSome)) μ
  | _, _ => .bad
noncomputable def putKK (ks : List Key) (k : Key) : List Key := if k ∈ ks then ks else ks ++ [k]
def putKV {α : Type} (k : Key) (z : α) : List Key → List α → List α
  | k' :: ks, x :: xs => if k' = k then z :: xs else x :: putKV k z ks xs
  | _, xs => xs ++ [z]
theorem kvL_any {k : Key} : ∀ {ks : List Key} {xs : List V}, ks.length = xs.length → (((Cs.kvL ks xs).any fun kv => decide (kv.1 = k)) = true ↔ k ∈ ks)
  | [], _, _ => by simp [Cs.kvL]
  | _ :: _, [], h => by simp at h
  | k' :: ks, x :: xs, h => by
    have ih := kvL_any (k := k) (ks := ks) (xs := xs) (by simpa using h)
    show (((k', x) :: Cs.kvL ks xs).any fun kv => decide (kv.1 = k)) = true ↔ _
    rw [List.any_cons, Bool.or_eq_true, ih, decide_eq_true_iff, List.mem_cons]
    exact ⟨fun z => z.elim (fun q => .inl q.symm) .inr, fun z => z.elim (fun q => .inl q.symm) .inr⟩
theorem kvL_app {k : Key} {z : V} : ∀ {ks : List Key} {xs : List V}, ks.length = xs.length → Cs.kvL ks xs ++ [(k, z)] = Cs.kvL (ks ++ [k]) (xs ++ [z])
  | [], [], _ => rfl
  | [], _ :: _, h => by simp at h
  | _ :: _, [], h => by simp at h
  | k' :: ks, x :: xs, h => by
    show (k', x) :: (Cs.kvL ks xs ++ [(k, z)]) = (k', x) :: Cs.kvL (ks ++ [k]) (xs ++ [z])
    rw [kvL_app (by simpa using h)]
theorem putKV_no {α : Type} {k : Key} {z : α} : ∀ {ks : List Key} {xs : List α}, ks.length = xs.length → k ∉ ks → putKV k z ks xs = xs ++ [z]
  | [], _, _, _ => by unfold putKV; rfl
  | _ :: _, [], h, _ => by simp at h
  | k' :: ks, x :: xs, h, n => by
    unfold putKV
    rw [if_neg (fun e => n (by rw [e]; exact List.mem_cons_self)), putKV_no (by simpa using h) (fun q => n (List.mem_cons_of_mem _ q))]
    rfl
theorem kvL_map_no {k : Key} {z : V} : ∀ {ks : List Key} {xs : List V}, ks.length = xs.length → k ∉ ks → (Cs.kvL ks xs).map (fun kv => if kv.1 = k then (kv.1, z) else kv) = Cs.kvL ks xs
  | [], _, _, _ => rfl
  | _ :: _, [], h, _ => by simp at h
  | k' :: ks, x :: xs, h, n => by
    show (if k' = k then (k', z) else (k', x)) :: (Cs.kvL ks xs).map _ = (k', x) :: Cs.kvL ks xs
    rw [if_neg (fun e => n (by rw [e]; exact List.mem_cons_self)), kvL_map_no (by simpa using h) (fun q => n (List.mem_cons_of_mem _ q))]
theorem kvL_map {k : Key} {z : V} : ∀ {ks : List Key} {xs : List V}, ks.length = xs.length → ks.Nodup → k ∈ ks → (Cs.kvL ks xs).map (fun kv => if kv.1 = k then (kv.1, z) else kv) = Cs.kvL ks (putKV k z ks xs) ∧ (putKV k z ks xs).length = ks.length
  | [], _, _, _, m => by cases m
  | _ :: _, [], h, _, _ => by simp at h
  | k' :: ks, x :: xs, h, nd, m => by
    have hl : ks.length = xs.length := by simpa using h
    have nd' := List.nodup_cons.mp nd
    show (if k' = k then (k', z) else (k', x)) :: (Cs.kvL ks xs).map _ = Cs.kvL (k' :: ks) (putKV k z (k' :: ks) (x :: xs)) ∧ _
    unfold putKV
    by_cases hk : k' = k
    · rw [if_pos hk, if_pos hk, kvL_map_no hl (by rw [← hk]; exact nd'.1)]
      exact ⟨rfl, by simp [hl]⟩
    · rw [if_neg hk, if_neg hk]
      have m' : k ∈ ks := by
        rcases List.mem_cons.mp m with e | e
        · exact absurd e.symm hk
        · exact e
      obtain ⟨h1, h2⟩ := kvL_map (z := z) hl nd'.2 m'
      rw [h1]
      exact ⟨rfl, by simp [h2]⟩
theorem putK_L {k : Key} {z : V} {ks : List Key} {xs : List V} (h : ks.length = xs.length) (nd : ks.Nodup) : putK (Cs.kvL ks xs) k z = Cs.kvL (putKK ks k) (putKV k z ks xs) ∧ (putKK ks k).length = (putKV k z ks xs).length ∧ (putKK ks k).Nodup := by
  unfold putK putKK
  by_cases hm : k ∈ ks
  · obtain ⟨h1, h2⟩ := kvL_map (z := z) h nd hm
    rw [if_pos ((kvL_any h).mpr hm), if_pos hm]
    exact ⟨h1, h2.symm, nd⟩
  · rw [if_neg (fun q => hm ((kvL_any h).mp q)), if_neg hm, putKV_no h hm]
    exact ⟨kvL_app h, by simp [h], List.nodup_append.mpr ⟨nd, by simp, fun a ha b hb => by
      rw [List.mem_singleton.mp hb]; exact fun z => hm (z ▸ ha)⟩⟩
theorem dpa_putK {k : Key} {z : V} {dz : D} (hz : Dp W c z dz) : ∀ {ks : List Key} {xs : List V} {ds : List D}, DpA W c xs ds → DpA W c (putKV k z ks xs) (putKV k dz ks ds)
  | [], _, _, h => by unfold putKV; exact dpa_app h (.cons hz .nil)
  | _ :: _, _, _, .nil => by unfold putKV; exact .cons hz .nil
  | k' :: ks, _, _, .cons h1 h2 => by
    unfold putKV
    by_cases hk : k' = k
    · rw [if_pos hk, if_pos hk]; exact .cons hz h2
    · rw [if_neg hk, if_neg hk]; exact .cons h1 (dpa_putK hz h2)
noncomputable def mgSubK (o i : ME) : MG := fun z ρ μ => (o ρ μ).bind fun x μ => (i ρ μ).bind fun y μ => match ownK μ x, keyOf y with
  | some (n, ks, ds), some k => if ks.length < sizeLine then .ok ρ (μ.set n (some (.dct (putKK ks k) (putKV k z ks ds)))) else .bad
  | _, _ => .bad
def mDNew (b : Bool) : ME := fun _ μ => newK b [] [] μ
theorem me_dnew {b : Bool} (h : PE X e tDNewK) : PE X e (tE W E (mDNew b)) := pe_weak h fun σ H Q ⟨ρ, c, hH, ok, env, w⟩ => by
  subst hH
  exact fun p hp => wp_newK (xs := []) w ok .nil rfl .nil hp
def mPairs : List (ME × ME) → Env → Store → Res (List (D × D))
  | [], _, μ => .ok [] μ
  | (a, b) :: r, ρ, μ => (a ρ μ).bind fun x μ => (b ρ μ).bind fun y μ => (mPairs r ρ μ).bind fun ps μ => .ok ((x, y) :: ps) μ
def pairsK : List (D × D) → Option (List (Key × D))
  | [] => some []
  | (x, y) :: ps => match keyOf x, pairsK ps with
    | some k, some qs => some ((k, y) :: qs)
    | _, _ => none
noncomputable def mergeD : List Key → List D → List (Key × D) → List Key × List D
  | ks, ds, [] => (ks, ds)
  | ks, ds, (k, d) :: r => mergeD (putKK ks k) (putKV k d ks ds) r
noncomputable def mDisp (b : Bool) (trs : List (ME × ME)) : ME := fun ρ μ => (mPairs trs ρ μ).bind fun ps μ => match pairsK ps with
  | some qs => if qs.length ≤ 15 then newK b (mergeD [] [] qs).1 (mergeD [] [] qs).2 μ else .bad
  | none => .bad
end
end Mi
namespace Mi
open PySem PySem.Spec L2
open Classical
section
variable {W : Wd} {E : XK} {X : Cx} {c : Cf} {v : V} {d : D} {ds : List D} {e tg iter : Expr} {st : Stmt} {Q : VK}
structure Lk (a : Addr) (kvs : List (Key × V)) (G1 G2 : Hp) : Prop where
  off : ∀ b, b ≠ a → G1 b = G2 b
  at1 : G1 a = some (.dK kvs) ∨ ∃ o, G1 a = some (.frz o (.dK kvs))
  at2 : G2 a = some (.dK kvs) ∨ ∃ o, G2 a = some (.frz o (.dK kvs))
theorem Lk.symm {a : Addr} {kvs : List (Key × V)} {G1 G2 : Hp} (h : Lk a kvs G1 G2) : Lk a kvs G2 G1 := ⟨fun b n => (h.off b n).symm, h.at2, h.at1⟩
section
variable {a : Addr} {kvs : List (Key × V)} {G1 G2 : Hp}
theorem Lk.ne {b : Addr} {u : HO} (h : Lk a kvs G1 G2) (e : G1 b = some u) (n1 : u ≠ .dK kvs) (n2 : ∀ o, u ≠ .frz o (.dK kvs)) : G2 b = some u := by
  by_cases hb : b = a
  · subst hb
    rcases h.at1 with q | ⟨o, q⟩
    · rw [q] at e; exact absurd (Option.some.inj e).symm n1
    · rw [q] at e; exact absurd (Option.some.inj e).symm (n2 o)
  · rw [← h.off b hb]; exact e
theorem Lk.seqL {b : Addr} {xs : List V} {K : PySem.W.Frag} (h : Lk a kvs G1 G2) (s : SqL K G1 b xs) : SqL K G2 b xs := by
  rcases s with (s | ⟨o, s⟩) | s
  · exact .inl (.inl (h.ne s (fun z => by cases z) (fun _ z => by cases z)))
  · exact .inl (.inr ⟨o, h.ne s (fun z => by cases z) (fun _ z => by cases z)⟩)
  · exact .inr s
theorem Lk.seqT {b : Addr} {xs : List V} {K : PySem.W.Frag} (h : Lk a kvs G1 G2) (s : SqT K G1 b xs) : SqT K G2 b xs := by
  rcases s with (s | ⟨o, s⟩) | s
  · exact .inl (.inl (h.ne s (fun z => by cases z) (fun _ z => by cases z)))
  · exact .inl (.inr ⟨o, h.ne s (fun z => by cases z) (fun _ z => by cases z)⟩)
  · exact .inr s
theorem Lk.rd {b : Addr} {l : List (Key × V)} (h : Lk a kvs G1 G2) (s : Rd G1 b (.dK l)) : Rd G2 b (.dK l) := by
  by_cases hb : b = a
  · subst hb
    have : l = kvs := by
      rcases h.at1 with q | ⟨o, q⟩
      · rcases s with s | ⟨o', s⟩ <;> rw [q] at s <;> cases s; rfl
      · rcases s with s | ⟨o', s⟩ <;> rw [q] at s <;> cases s; rfl
    subst this
    exact h.at2
  · rcases s with s | ⟨o, s⟩
    · exact .inl (by rw [← h.off b hb]; exact s)
    · exact .inr ⟨o, by rw [← h.off b hb]; exact s⟩
mutual
theorem dp_lk {c1 c2 : Cf} (hi : c2.ι = c1.ι) (hm : c2.μ.length = c1.μ.length) (h : Lk a kvs c1.G c2.G) : ∀ {d : D} {v : V}, Dp W c1 v d → Dp W c2 v d
  | _, _, .non => .non
  | _, _, .bl b => .bl b
  | _, _, .int i => .int i
  | _, _, .str x => .str x
  | _, _, .ty n => .ty n
  | _, _, .lst hs ha => .lst (h.seqL hs) (dpa_lk hi hm h ha)
  | _, _, .tup hs ha => .tup (h.seqT hs) (dpa_lk hi hm h ha)
  | _, _, .dct hr hl hn ha => .dct (h.rd hr) hl hn (dpa_lk hi hm h ha)
  | _, _, .obj hc q hl ha => .obj hc (h.ne q (fun z => by cases z) (fun _ z => by cases z)) hl (dpa_lk hi hm h ha)
  | _, _, .exc hc q hd hn hl ha => .exc hc (h.ne q (fun z => by cases z) (fun _ z => by cases z)) (fun dx r => h.ne (hd dx r) (fun z => by cases z) (fun _ z => by cases z)) hn hl (dpa_lk hi hm h ha)
  | _, _, .cls hc => .cls hc
  | _, _, .own hn => by
    rw [← hi]
    exact .own (by rw [hm]; exact hn)
theorem dpa_lk {c1 c2 : Cf} (hi : c2.ι = c1.ι) (hm : c2.μ.length = c1.μ.length) (h : Lk a kvs c1.G c2.G) : ∀ {ds : List D} {vs : List V}, DpA W c1 vs ds → DpA W c2 vs ds
  | _, _, .nil => .nil
  | _, _, .cons h1 h2 => .cons (dp_lk hi hm h h1) (dpa_lk hi hm h h2)
end
end
end
end Mi
namespace Mi
open PySem PySem.Spec L2
open Classical
section
variable {W : Wd} {E : XK} {X : Cx} {c : Cf} {v : V} {d : D} {ds : List D} {e tg iter : Expr} {st : Stmt} {Q : VK}
theorem Aside.known {c1 c : Cf} {p : Addr} {o : HO} (h : Aside W c1 c p) (h1 : c1.H p = none) (hp : c.H p = some o) (no : ∀ ps, o ≠ .tbl ps := by intro _ z; cases z) : Le c (⟨c.ι, c.μ, upd c.G p o, c.H, c.L, c.T⟩ : Cf) ∧ Step c1 (⟨c.ι, c.μ, upd c.G p o, c.H, c.L, c.T⟩ : Cf) ∧ Ok W (⟨c.ι, c.μ, upd c.G p o, c.H, c.L, c.T⟩ : Cf) := by
  have le : Le c (⟨c.ι, c.μ, upd c.G p o, c.H, c.L, c.T⟩ : Cf) := ⟨Cs.same_new h.g, Nat.le_refl _, fun _ _ => rfl⟩
  refine ⟨le, ⟨h.st.g.freeze h1 h.g hp no, h.st.len, h.st.ag, h.st.dead, h.st.fresh, h.st.lk, h.st.tk⟩, ⟨fun q u e => ?_, h.ok.lk, fun n x e => ?_, h.ok.inj, h.ok.lc, h.ok.tb.mono rfl (fun _ _ e => e) (fun b ps e => by
    by_cases eb : b = p
    · have e' : upd c.G p o b = some (.tbl ps) := e
      rw [eb, upd_same] at e'
      exact absurd (Option.some.inj e') (no ps)
    · have e' : upd c.G p o b = some (.tbl ps) := e
      rw [upd_ne eb] at e'; exact e') (fun _ _ e => ⟨_, e⟩) fun _ _ _ e => e⟩⟩
  · by_cases eb : q = p
    · have e' : upd c.G p o q = some u := e
      rw [eb, upd_same] at e'
      rw [eb, ← e']; exact hp
    · have e' : upd c.G p o q = some u := e
      rw [upd_ne eb] at e'
      exact h.ok.s q u e'
  · obtain ⟨k1, u, k2, k3⟩ := h.ok.at' n x e
    refine ⟨?_, u, k2, k3.mono le trivial⟩
    show upd c.G p o (c.ι n) = none
    rw [upd_ne (h.m n ⟨x, e⟩)]; exact k1
def Cf.lift (c : Cf) (p : Addr) (x : Cell) : Cf := ⟨fun n => if n = c.μ.length then p else c.ι n, c.μ ++ [some x], c.G, c.H, c.L, c.T⟩
theorem Aside.cell {c1 c : Cf} {p : Addr} {o : HO} {x : Cell} (h : Aside W c1 c p) (h1 : c1.H p = none) (hp : c.H p = some o) (hx : CellAt W c o x) (nx : x.isL = false) : Le c (c.lift p x) ∧ Step c1 (c.lift p x) ∧ Ok W (c.lift p x) ∧ Dp W (c.lift p x) (.ref p) (.own c.μ.length) := by
  have old : ∀ n, n < c.μ.length → (c.lift p x).ι n = c.ι n := fun n hn => by simp [Cf.lift, Nat.ne_of_lt hn]
  have new : (c.lift p x).ι c.μ.length = p := by simp [Cf.lift]
  have le : Le c (c.lift p x) := ⟨Same.refl _, by simp [Cf.lift], old⟩
  have fr : ∀ n, live (c.lift p x).μ n → live c.μ n ∨ n = c.μ.length := fun n l => by
    rcases live_app l with z | ⟨z, _⟩
    · exact .inl z
    · exact .inr z
  have top : Dp W (c.lift p x) (.ref p) (.own c.μ.length) := by
    have := Dp.own (W := W) (c := c.lift p x) (n := c.μ.length) (by simp [Cf.lift])
    rw [new] at this; exact this
  refine ⟨le, ⟨h.st.g, Nat.le_trans h.st.len le.len, fun n hn => (old n (Nat.lt_of_lt_of_le hn h.st.len)).trans (h.st.ag n hn), fun n hn l => ?_, fun n hn l => ?_, h.st.lk, h.st.tk⟩, ⟨h.ok.s, h.ok.lk, fun n y e => ?_, fun n m ln lm e => ?_, fun n y e hy => ?_, h.ok.tb.mono rfl (fun _ _ e => e) (fun _ _ e => e) (fun _ _ e => ⟨_, e⟩) fun _ _ _ e => e⟩, top⟩
  · rcases fr n l with l | rfl
    · exact h.st.dead n hn l
    · exact absurd hn (Nat.not_lt_of_le h.st.len)
  · rcases fr n l with l | rfl
    · rw [old n (live_lt l)]; exact h.st.fresh n hn l
    · rw [new]; exact h1
  · rcases fr n ⟨y, e⟩ with l | rfl
    · have e' : c.μ[n]? = some (some y) := by rw [← e]; exact (List.getElem?_append_left (live_lt l)).symm
      obtain ⟨k1, u, k2, k3⟩ := h.ok.at' n y e'
      rw [old n (live_lt l)]
      exact ⟨k1, u, k2, k3.mono le trivial⟩
    · have e2 : (c.μ ++ [some x])[c.μ.length]? = some (some y) := e
      simp at e2
      subst e2
      rw [new]
      exact ⟨h.g, o, hp, hx.mono le trivial⟩
  · rcases fr n ln with l | rfl
    · rcases fr m lm with k | rfl
      · rw [old n (live_lt l), old m (live_lt k)] at e
        exact h.ok.inj n m l k e
      · rw [old n (live_lt l), new] at e
        exact absurd e (h.m n l)
    · rcases fr m lm with k | rfl
      · rw [old m (live_lt k), new] at e
        exact absurd e.symm (h.m m k)
      · rfl
  · rcases fr n ⟨y, e⟩ with l | rfl
    · have e' : c.μ[n]? = some (some y) := by rw [← e]; exact (List.getElem?_append_left (live_lt l)).symm
      rw [old n (live_lt l)]
      exact h.ok.lc n y e' hy
    · have e2 : (c.μ ++ [some x])[c.μ.length]? = some (some y) := e
      simp at e2
      rw [← e2, nx] at hy; cases hy
theorem Aside.doneK {c1 c : Cf} {p : Addr} {ks : List Key} {xs : List V} {ds : List D} {b : Bool} (h : Aside W c1 c p) (h1 : c1.H p = none) (hp : c.H p = some (.dK (Cs.kvL ks xs))) (hl : ks.length = xs.length) (hn : ks.Nodup) (ha : DpA W c xs ds) (w : Wp W (Dp W) (newK b ks ds c.μ) c1 Q E) : Q (.ref p) c.H := by
  cases b with
  | false =>
    obtain ⟨le, s, ok⟩ := h.known h1 hp
    exact w (.ref p) (⟨c.ι, c.μ, upd c.G p (.dK (Cs.kvL ks xs)), c.H, c.L, c.T⟩ : Cf) rfl s ok (.dct (.inl upd_same) hl hn (dpa_mono le ha))
  | true =>
    obtain ⟨le, s, ok, t⟩ := h.cell (x := .dct ks ds) h1 hp ⟨xs, rfl, hl, hn, ha⟩ rfl
    exact w (.ref p) (c.lift p (.dct ks ds)) rfl s ok t
theorem Aside.begin {c1 : Cf} {p : Addr} {o : HO} (ok1 : Ok W c1) (hp : c1.H p = none) (no : ∀ q, o ≠ LamX.CodeO p q := by intro _ z; unfold LamX.CodeO at z; cases z) (nt : ∀ ps, o ≠ .tbl ps := by intro _ z; cases z) : Aside W c1 (c1.to c1.G (upd c1.H p o)) p := by
  have z : Aside W c1 c1 p := ⟨ok1, .refl ok1, Cs.same_none ok1.s hp, fun n l e => ok1.hcell l (by rw [e]; exact hp), noT_new ok1 hp, codeO_none hp⟩
  exact z.put hp ok1 no nt
noncomputable def dcA (w : List Nat) (μ0 : Store) (g : D → Env → Option Env) (t : MT) (ek ev : ME) (ρ : Env) : List D → List Key → List D → Store → Res (List Key × List D)
  | [], ks, vs, μ => if watch w μ0 μ then .ok (ks, vs) μ else .bad
  | d :: ds, ks, vs, μ => if watch w μ0 μ then match g d ρ with
      | some ρ2 => match t ρ2 μ with
        | .ok true μ => match ek ρ2 μ with
          | .ok y μ => match ev ρ2 μ with
            | .ok z μ => match keyOf y with
              | some k => if ks.length < sizeLine then dcA w μ0 g t ek ev ρ ds (putKK ks k) (putKV k z ks vs) μ else .bad
              | none => .bad
            | _ => .bad
          | _ => .bad
        | .ok false μ => dcA w μ0 g t ek ev ρ ds ks vs μ
        | _ => .bad
      | none => .bad
    else .bad
noncomputable def mDc (b : Bool) (i : MI) (g : D → Env → Option Env) (t : MT) (ek ev : ME) (vs : List Nat) : ME := fun ρ μ => (i ρ μ).bind fun s μ => (dcA s.w μ g t ek ev (wipeD ρ vs) s.items [] [] μ).bind fun p μ => newK b p.1 p.2 μ
theorem pairs_ok {ks0 : List Key} : ∀ {qs : List (Key × D)} {kvs : List (Key × V)} {ks : List Key} {xs : List V} {ds : List D}, qs.length = kvs.length → (∀ (i : Nat) (k : Key) (d : D), qs[i]? = some (k, d) → ∃ v, kvs[i]? = some (k, v) ∧ Dp W c v d) → ks.length = xs.length → ks.Nodup → DpA W c xs ds →
    ∃ ys, mergeK (Cs.kvL ks xs) kvs = Cs.kvL (mergeD ks ds qs).1 ys ∧ (mergeD ks ds qs).1.length = ys.length ∧ (mergeD ks ds qs).1.Nodup ∧ DpA W c ys (mergeD ks ds qs).2
  | [], [], ks, xs, ds, _, _, hl, hn, ha => ⟨xs, rfl, hl, hn, ha⟩
  | [], _ :: _, _, _, _, h, _, _, _, _ => by simp at h
  | _ :: _, [], _, _, _, h, _, _, _, _ => by simp at h
  | (k, d) :: qs, kv :: kvs, ks, xs, ds, h, hq, hl, hn, ha => by
    obtain ⟨v, h1, h2⟩ := hq 0 k d rfl
    cases Option.some.inj h1
    obtain ⟨p1, p2, p3⟩ := putK_L (k := k) (z := v) hl hn
    have ih := pairs_ok (ks0 := ks0) (qs := qs) (kvs := kvs) (by simpa using h) (fun i k d e => hq (i + 1) k d e) p2 p3 (dpa_putK h2 ha)
    unfold mergeD
    show ∃ ys, mergeK (putK (Cs.kvL ks xs) k v) kvs = _ ∧ _
    rw [p1]
    exact ih
def PairR (W : Wd) (c : Cf) (ps : List (V × V)) (ds : List (D × D)) : Prop := DpA W c (ps.map (·.1)) (ds.map (·.1)) ∧ DpA W c (ps.map (·.2)) (ds.map (·.2))
theorem tpairs_ok {σ : L2.St} {ρ : Env} : ∀ {trs : List (ME × ME)} {c : Cf} {Q : List (V × V) → Hp → Prop}, Ok W c → EnvR W c σ ρ → Wp W (PairR W) (mPairs trs ρ c.μ) c Q E → tPairs (trs.map fun t => (tE W E t.1, tE W E t.2)) σ c.H Q
  | [], c, Q, ok, env, w => wp_ret w ok ⟨.nil, .nil⟩
  | (a, b) :: r, c, Q, ok, env, w => ⟨ρ, c, rfl, ok, env, wp_bind w fun v x c1 s1 ok1 r1 w1 => ⟨ρ, c1, rfl, ok1, env.mono s1.le, wp_bind w1 fun u y c2 s2 ok2 r2 w2 =>
      tpairs_ok ok2 (env.mono (s1.le.trans s2.le)) (wp_bind w2 fun ps ds c3 s3 ok3 r3 w3 => wp_ret w3 ok3 ⟨.cons (dp_mono (s2.le.trans s3.le) r1) r3.1, .cons (dp_mono s3.le r2) r3.2⟩)⟩⟩
theorem pairsK_ok : ∀ {ds : List (D × D)} {ps : List (V × V)} {qs : List (Key × D)}, PairR W c ps ds → pairsK ds = some qs → ∃ kvs : List (Key × V), ps = kvs.map (fun kv => (kV kv.1, kv.2)) ∧ qs.length = kvs.length ∧ ∀ (i : Nat) (k : Key) (d : D), qs[i]? = some (k, d) → ∃ v, kvs[i]? = some (k, v) ∧ Dp W c v d
  | [], [], qs, r, e => by
    cases Option.some.inj e
    exact ⟨[], rfl, rfl, fun i k d z => by simp at z⟩
  | [], _ :: _, _, r, e => by cases r.1
  | _ :: _, [], _, r, e => by cases r.1
  | (x, y) :: ds, (v, u) :: ps, qs, r, e => by
    obtain ⟨r1, r2⟩ := r
    cases r1 with
    | cons h1 t1 =>
      cases r2 with
      | cons h2 t2 =>
        unfold pairsK at e
        split at e
        · rename_i k qs' e1 e2
          cases Option.some.inj e
          obtain ⟨kvs, p1, p2, p3⟩ := pairsK_ok (ds := ds) (ps := ps) ⟨t1, t2⟩ e2
          have hv := keyOf_ok h1 e1
          refine ⟨(k, u) :: kvs, by rw [p1, List.map_cons, ← hv], by simp [p2], fun i k' d z => ?_⟩
          cases i with
          | zero => cases Option.some.inj z; exact ⟨u, rfl, h2⟩
          | succ i => exact p3 i k' d z
        · cases e
theorem me_disp {b : Bool} {trs : List (ME × ME)} (h : PE X e (tDisp (trs.map fun t => (tE W E t.1, tE W E t.2)))) : PE X e (tE W E (mDisp b trs)) := pe_weak h fun σ H Q ⟨ρ, c, hH, ok, env, w⟩ p hp => by
  subst hH
  have as := Aside.begin (o := .dK []) ok hp
  refine tpairs_ok (c := c.to c.G (upd c.H p (.dK []))) as.ok (env.mono as.st.le) ?_
  unfold mDisp at w
  show Wp W _ (mPairs trs ρ c.μ) _ _ E
  cases em : mPairs trs ρ c.μ with
  | bad => rw [em] at w; exact w.elim
  | exc x μ' => rw [em] at w; exact fun u o c2 e2 s2 ok2 r2 => w u o c2 e2 (as.st.trans s2) ok2 r2
  | ok ps μ' =>
    rw [em] at w
    intro vs c2 e2 s2 ok2 r2
    obtain ⟨as2, hp2⟩ := as.step upd_same ok2 s2
    unfold Res.bind at w
    dsimp only at w
    cases ek : pairsK ps with
    | none => rw [ek] at w; exact w.elim
    | some qs =>
      rw [ek] at w
      dsimp only at w
      split at w
      · rename_i hl
        obtain ⟨kvs, p1, p2, p3⟩ := pairsK_ok r2 ek
        obtain ⟨ys, q1, q2, q3, q4⟩ := pairs_ok (ks0 := []) (c := c2) (ks := []) (xs := []) (ds := []) p2 p3 rfl .nil .nil
        refine ⟨hp2, kvs, p1, by rw [← p2]; exact hl, ?_⟩
        have q1' : mergeK [] kvs = _ := q1
        rw [q1']
        have as3 := as2.put (o := .dK (Cs.kvL (mergeD [] [] qs).1 ys)) hp ok
        refine as3.doneK (b := b) (E := E) hp upd_same q2 q3 (dpa_mono (le_to (Same.refl _)) q4) ?_
        show Wp W (Dp W) (newK b _ _ c2.μ) c Q E
        rw [e2]; exact w
      · exact w.elim
end
end Mi
namespace Mi
open PySem PySem.Spec L2 PyProof.Rows PySem.W
open Classical
section
variable {P : Program} {w : World} {K : PySem.W.Frag} {mg : Str → Option Value} {base : Heap} {k : Nat} {f : Addr} {fd : FuncData} {N ps : List Str} {sp : Sp} {x qual : Str} {st : Stmt}
theorem ok_fun (F : Fun K x qual st f fd) (S : FnScope N ps (defScope st)) (many : ∀ vs H Q E, sp vs H Q E → vs.length = ps.length)
    (inner : ∀ (cdv : Value) (A : Around) (out : List PySem.Env) (s : Shared) (H : Hp) (vs : List V) (Q : VK) (E : XK), Room k (A.deeper (envOfC qual (defScope st) s.heap.objs.size f cdv)) → sp vs H Q E →
      ∃ t, PSs (cxOf (L2.CX P w) P w K mg base N qual (defScope st) f cdv A out s H E) (defBody st) t ∧ t { nx := fun _ H' => Q .non H', rt := Q } (L2.start N vs) H) : FnOk P w K mg base (L2.CX P w) (k + 1) f fd ps sp := by
  obtain ⟨oc, od, kV, doc, pm, an, cdv, ct, osl, e, lk, hcd⟩ := F.ex
  subst e
  exact fn_of lk hcd S many fun A out s H vs Q E hr hsp => inner cdv A out s H vs Q E hr hsp
end
def spN (W : Wd) (m : List D → Store → Res D) : Sp := fun vs H Q _ => spM W m vs H Q E0'
section
variable {W : Wd} {E E' : XK} {X : Cx} {c : Cf} {v : V} {d : D} {ds : List D} {e tg iter : Expr} {st : Stmt} {Q : VK}
def mCallN (m : List D → Store → Res D) (a : MA) : ME := fun ρ μ => (a ρ μ).bind fun ds μ => match m ds μ with
  | .ok d μ => .ok d μ
  | _ => .bad
theorem pass_no {X : Cx} : Passes (L2.CX X.prog X.w) X E0' := fun pins σ H s e s' I ⟨a, B, H', cls, d, h1, h2, h3, h4, h5, h6, h7, h8⟩ => h8.elim
theorem pass_at {X : Cx} {E : XK} (tk : Takes X (fun cls d _ H => E cls d H)) : Passes (L2.CX X.prog X.w) X E := passes_call tk fun _ _ _ _ h => h
theorem pe_basinit {A : Str} {C : Addr} {pl : Sem Bool} {e : Expr} {es : List Expr} {ta : TA} {p1 p2 pos : Pos} (hg : Gl X A) (hm : X.mg A = some (.ref C)) (cr : ClX.CRead X.K C (.type "type")) (hv : PySem.W.findCls X.K (.ref C) (.type "type") "__init__" = some (.val (.builtin "ValueError.__init__"))) (ha : PA X (e :: es) ta)
    (hdb : (A == ("__debug__" : Str)) = false := by decide)
    (hc : eval (.Call (.Attribute (.Name A p1) "__init__" p2) (e :: es) [] pos) X.env = (do
      let ov ← eval (.Name A p1) X.env
      standAt p2.atName
      let (f, first) ← holding [ov] (getMethod ov "__init__" pl)
      callWith pos f first (backTo pos (starEach (e :: es) X.env)) (backToKw pos (keywordEach [] X.env))) := by rfl)
    (he : starEach (e :: es) X.env = (false, eval e X.env) :: starEach es X.env := by rfl) (hpl : (backTo pos (starEach es X.env)).any (·.1) = false := by rfl) :
    PE X (.Call (.Attribute (.Name A p1) "__init__" p2) (e :: es) [] pos) (tVeI X.K ta) := ⟨fun pins s σ H Q I h => by
  refine PySem.W.methodCall_KW (ld_glob I hg hm ?_ hdb) hc
  obtain ⟨m, fr⟩ := I.fr
  have kin : X.K.In s.heap := I.ok.mod.kin.keeps fr.keep
  refine PySem.W.method_cls kin cr.ga (PySem.W.cls_value kin cr.rd hv (by decide +kernel) ?_)
  show wpAny _ _ (callWith pos (Value.builtin "ValueError.__init__") [] (backTo pos (starEach (e :: es) X.env)) []) _ _ _
  refine PyProof.Rows.callWith_method1 (thn (ha.run pos pins _ σ H _ (I.tok _) h) fun us s1 hh => ?_) he hpl
  obtain ⟨vs, H1, I1, r1, a, C', ws, ev, hl, T, ea, q⟩ := hh
  subst ev
  cases r1 with
  | @cons _ u0 _ ur ra rw' =>
    obtain rfl : u0 = Value.ref a := ra
    have big : ur.length ≤ sizeLine := by
      have := Paired.length rw'
      have := sizeLine_eq
      omega
    exact oinit_ok T I1 ea big fun s' J => ⟨.non, H1, J, rfl, q⟩⟩
def spXI (K : PySem.W.Frag) (f : Str) : Sp := fun vs H Q _ => ∃ a C v, vs = [.ref a, v] ∧ OexC K C ∧ PySem.W.findIn K (.ref C) f = some none ∧ H a = some (exo a C none) ∧ ∀ dx, H dx = none → dx ≠ a → Q .non (upd (upd H dx (exd dx [(f, v)])) a (exo a C (some dx)))
theorem spXI_len {K : PySem.W.Frag} {f : Str} {vs : List V} {H : Hp} {Q : VK} {E : XK} (h : spXI K f vs H Q E) : vs.length = 2 := by
  obtain ⟨a, C, v, rfl, _⟩ := h
  rfl
theorem pureXI {K : PySem.W.Frag} {f a0 a1 m : Str} {vs : List V} {H : Hp} {E : XK} (h : spXI K f vs H Q E) : tSeq (tDrop (tVeI K (tCons (tVar 0) (tCons (tC (.str m)) tNil)))) (tOst K f (tVar 0) (tVar 1)) { nx := fun _ H' => Q .non H', rt := Q } (L2.start [a0, a1] vs) H := by
  obtain ⟨a, C, v, rfl, o, n, ha, q⟩ := h
  refine ⟨.ref a, rfl, a, C, [.str m], rfl, by simp, o, ha, ?_⟩
  exact ⟨v, rfl, .ref a, rfl, a, C, rfl, o, n, .inl ⟨ha, fun dx h1 h2 => q dx h1 h2⟩⟩
def mRaiseF (C : String) (f : Str) (a : MA) : MS := fun _ ρ μ => (a ρ μ).st fun ds μ => match ds with
  | [d] => .exc ⟨C, [f], [d]⟩ μ
  | _ => .bad
theorem ms_raiseF {C : String} {f : Str} {g : Addr} {a : MA} (hC : W.cm C = some g) (o : OexC W.K g) (hn : PySem.W.findIn W.K (.ref g) f = some none) (h : PS X st (fun _ σ H => tMkO g (spXI W.K f) [] (tA W E a) σ H fun cls d H' => E cls d H')) : PS X st (tS W E (mRaiseF C f a)) := ps_weak h fun D σ H ⟨c0, cs, ρ, c, hH, ok, s, le, env, w⟩ =>
  ⟨ρ, c, hH, ok, env, wps_bind w s fun vs ds c1 s1 s2 ok1 r1 w1 => by
    split at w1
    · rename_i d
      cases r1 with
      | @cons v _ _ _ r1 r2 =>
        cases r2
        refine ⟨by simp, fun a ha => ?_⟩
        rw [List.append_nil]
        refine ⟨a, g, v, rfl, o, hn, upd_same, fun dx h1 h2 => ⟨rfl, dx, [(f, v)], upd_same, by rw [upd_ne h2, upd_same], ?_, ?_⟩⟩
        · rw [upd_ne h2] at h1; exact h1
        · have h1' : c1.H dx = none := by rw [upd_ne h2] at h1; exact h1
          have eH : upd (del (upd (upd (upd c1.H a (exo a g none)) dx (exd dx [(f, v)])) a (exo a g (some dx))) a) dx (.xd [(f, v)]) = upd c1.H dx (.xd [(f, v)]) := by
            funext b
            by_cases hb : b = dx
            · rw [hb, upd_same, upd_same]
            · rw [upd_ne hb, upd_ne hb]
              by_cases hc : b = a
              · rw [hc, del_same]; exact ha.symm
              · rw [del_ne hc, upd_ne hc, upd_ne hb, upd_ne hc]
          rw [eH]
          obtain ⟨ok3, s3⟩ := step_new (o := .xd [(f, v)]) ok1 h1'
          exact w1 (.ref g) (some dx) (c1.to (upd c1.G dx (.xd [(f, v)])) (upd c1.H dx (.xd [(f, v)]))) rfl (s1.trans s3) ok3 ⟨g, hC, rfl, .inr ⟨dx, [v], rfl, upd_same, rfl, .cons (dp_mono s3.le r1) .nil⟩⟩
    · exact w1.elim⟩
def tryR (T : String) (i k : Nat) (r : Res D) (nx : D → Store → ResS) (ρ : Env) : ResS := match r with
  | .ok d μ => nx d μ
  | .exc x μ => if isaC x.C T = true then .nx ((ρ.set k (some (.exc x.C x.ks x.ds))).set i none) μ else .exc x μ
  | .bad => .bad
theorem set3 {σ : L2.St} {i k : Nat} {a b : V} (h : i ≠ k) : ((σ.set i (some a)).set k (some b)).set i none = (σ.set k (some b)).set i none := by
  rw [List.set_comm _ _ h, List.set_set]
theorem keep_ok {T : String} {t : Addr} {i k : Nat} {D : Ends} {c0 cs c1 : Cf} {σ : L2.St} {ρ : Env} {x : Exc} {u : Value} {o : Option Addr} (hik : i ≠ k) (xm : ∀ C g, W.cm C = some g → PySem.W.exmOne W.K (.ref g) (.ref t) = some (isaC C T)) (s : Step c0 c1) (le : Le cs c1) (ok : Ok W c1) (env : EnvR W c1 σ ρ) (hx : ExcAt W c1 u o x)
    (hi : i < ρ.length) (w : WpS W (if isaC x.C T = true then .nx ((ρ.set k (some (.exc x.C x.ks x.ds))).set i none) c1.μ else .exc x c1.μ) c0 cs D E) :
    Cs.wKeep W.K (.ref t) i (fun _ _ _ => tAsg (tVar i) (gName k)) (fun cls d _ H => E cls d H) D u o σ c1.H := by
  obtain ⟨g, hC, rfl, hd⟩ := hx
  refine ⟨_, xm x.C g hC, fun hb a ha => ?_, fun hb => ?_⟩
  · rw [if_pos hb] at w
    have hl : i < σ.length := by rw [env.1]; exact hi
    refine ⟨.ref a, List.getElem?_set_self hl, fun hn => ?_⟩
    rw [set3 hik]
    obtain ⟨ok3, s3⟩ := step_new (o := Cs.XO (.ref g) o a) ok ha
    have r : Dp W (c1.to (upd c1.G a (Cs.XO (.ref g) o a)) (upd c1.H a (Cs.XO (.ref g) o a))) (.ref a) (.exc x.C x.ks x.ds) := by
      rcases hd with ⟨rfl, e1, e2⟩ | ⟨dx, xs, rfl, h1, h2, h3⟩
      · rw [e1, e2]
        exact .exc hC upd_same (fun _ z => by cases z) (fun _ => rfl) (xs := []) rfl .nil
      · refine .exc hC upd_same (fun dx' z => ?_) (fun z => by cases z) h2 (dpa_mono s3.le h3)
        cases z
        exact s3.le.g _ _ h1
    exact w _ (c1.to (upd c1.G a (Cs.XO (.ref g) o a)) (upd c1.H a (Cs.XO (.ref g) o a))) rfl (s.trans s3) (le.trans s3.le) ok3 (((env.mono s3.le).set k r).unset i)
  · rw [if_neg (by rw [hb]; exact Bool.false_ne_true)] at w
    exact w (.ref g) o c1 rfl s ok ⟨g, hC, rfl, hd⟩
def CallS (W : Wd) (te : (L2.St → XK) → TE) (m : ME) : Prop := ∀ (Ef : L2.St → XK) σ ρ c Q, Ok W c → EnvR W c σ ρ → Wp W (Dp W) (m ρ c.μ) c Q (Ef σ) → te Ef σ c.H Q
def mArgs (a : MA) (m : List D → Store → Res D) : ME := fun ρ μ => match a ρ μ with
  | .ok ds μ => m ds μ
  | _ => .bad
theorem calls_fn {m : List D → Store → Res D} {a : MA} : CallS W (fun Ef => tCallS (spM W m) Ef (tA W E0' a)) (mArgs a m) := fun Ef σ ρ c Q ok env w => by
  refine ⟨ρ, c, rfl, ok, env, ?_⟩
  unfold mArgs at w
  cases ea : a ρ c.μ with
  | bad => rw [ea] at w; exact w.elim
  | exc x μ => rw [ea] at w; exact w.elim
  | ok ds μ =>
    rw [ea] at w
    intro vs c1 e1 s1 ok1 r1
    refine ⟨c1, ds, rfl, ok1, r1, ?_⟩
    rw [e1]
    exact w.from s1
def mTryA (T : String) (i k j : Nat) (m : ME) : MS := fun _ ρ μ => if i < ρ.length then tryR T i k (m ρ μ) (fun d μ => .nx (ρ.set j (some d)) μ) ρ else .bad
def mTryD (T : String) (i k : Nat) (m : ME) : MS := fun _ ρ μ => if i < ρ.length then tryR T i k (m ρ μ) (fun _ μ => .nx ρ μ) ρ else .bad
theorem try_run {T : String} {t : Addr} {i k : Nat} {m : ME} {nx : D → Store → ResS} {D : Ends} {c0 cs c : Cf} {σ : L2.St} {ρ : Env} {te : (L2.St → XK) → TE} {Q : VK} (hm : CallS W te m) (hik : i ≠ k) (xm : ∀ C g, W.cm C = some g → PySem.W.exmOne W.K (.ref g) (.ref t) = some (isaC C T))
    (s : Step c0 c) (le : Le cs c) (ok : Ok W c) (env : EnvR W c σ ρ) (hi : i < ρ.length) (w : WpS W (tryR T i k (m ρ c.μ) nx ρ) c0 cs D E) (q : ∀ v d c1, Step c0 c1 → Step c c1 → Ok W c1 → Dp W c1 v d → WpS W (nx d c1.μ) c0 cs D E → Q v c1.H) :
    te (WE (Cs.wKeep W.K (.ref t) i (fun _ _ _ => tAsg (tVar i) (gName k)) (fun cls d _ H => E cls d H) D)) σ c.H Q := by
  refine hm _ σ ρ c Q ok env ?_
  cases em : m ρ c.μ with
  | bad => rw [em] at w; exact w.elim
  | ok d μ2 =>
    rw [em] at w
    intro v c2 e2 s2 ok2 r2
    refine q v d c2 (s.trans s2) s2 ok2 r2 ?_
    rw [e2]; exact w
  | exc x μ2 =>
    rw [em] at w
    intro u o c2 e2 s2 ok2 r2
    refine keep_ok hik xm (s.trans s2) (le.trans s2.le) ok2 (env.mono s2.le) r2 hi ?_
    rw [e2]; exact w
theorem ms_tryA {T : String} {t : Addr} {i k j : Nat} {m : ME} {te : (L2.St → XK) → TE} (hm : CallS W te m) (hik : i ≠ k) (xm : ∀ C g, W.cm C = some g → PySem.W.exmOne W.K (.ref g) (.ref t) = some (isaC C T))
    (h : PS X st (fun D σ H => tAsg (te (WE (Cs.wKeep W.K (.ref t) i (fun _ _ _ => tAsg (tVar i) (gName k)) (fun cls d _ H => E cls d H) D))) (gName j) D σ H)) : PS X st (tS W E (mTryA T i k j m)) := ps_weak h fun D σ H ⟨c0, cs, ρ, c, hH, ok, s, le, env, w⟩ => by
  subst hH
  unfold mTryA at w
  split at w
  · rename_i hi
    exact try_run hm hik xm s le ok env hi w fun v d c1 s1 s2 ok1 r1 w1 => w1 _ c1 rfl s1 (le.trans s2.le) ok1 ((env.mono s2.le).set j r1)
  · exact w.elim
def mFldX (Cs' : List String) (f : Str) (a : ME) : ME := fun ρ μ => (a ρ μ).bind fun x μ => match x with
  | .exc C ks ds => if Cs'.contains C = true then match lookF f ks ds with
      | some d => .ok d μ
      | none => .bad
    else .bad
  | _ => .bad
end
end Mi
namespace Mi
open PySem PySem.Spec L2 PyProof.Rows PySem.W PySem.Calls
section
variable {prog : Program} {w : World} {A : Around} {E : Value → Shared → Prop} {s : Shared} {l : Addr} {items : Array Value} {Q : List Value → Shared → Prop}
end
section
variable {W : Wd} {E : XK} {X : Cx} {c : Cf} {v : V} {d : D} {ds : List D} {e tg iter : Expr} {es : List Expr} {st : Stmt} {Q : VK}
def mCMeth (C : String) (m : List D → Store → Res D) (a : MA) : ME := fun ρ μ => (a ρ μ).bind fun ds μ => m (.cls C :: ds) μ
def mInitSK (m : List D → Store → Res D) : List D → Store → Res D := fun ds μ => match ds with
  | x :: rest => if rest.length ≤ sizeLine then m [x, .tup rest, .dct [] []] μ else .bad
  | [] => .bad
def mInitS (m : List D → Store → Res D) : List D → Store → Res D := fun ds μ => match ds with
  | x :: rest => if rest.length ≤ sizeLine then m [x, .tup rest] μ else .bad
  | [] => .bad
def mRevL (b : Bool) (a : ME) : ME := fun ρ μ => (a ρ μ).bind fun x μ => match seqL μ x with
  | some ds => newL b ds.reverse μ
  | none => .bad
end
end Mi
namespace Mi
open PySem PySem.Spec L2 PyProof.Rows PySem.W
section
variable {W : Wd} {E : XK} {X : Cx} {c : Cf} {v : V} {d : D} {ds : List D} {e : Expr} {ts ms : List String}
def fIsS (cl : D) : D → Store → Res D := fun x μ => if kindOk μ x = true then match (tnD μ x).bind fun tn => isaT tn cl with
    | some b => .ok (.bl b) μ
    | none => .bad
  else .bad
def ClOk (W : Wd) (ts ms : List String) : D → V → Prop
  | .cls T, v => T ∈ ts ∧ ∃ g, W.cm T = some g ∧ v = .ref g
  | .ty n, v => n ∈ ms ∧ v = .ty n
  | _, _ => False
theorem clok_v {cl : D} {u : V} (h : ClOk W ts ms cl u) : ∃ z, ClsV u z ∧ ClsV (match (generalizing := false) cl with | .ty n => .ty n | .cls C => .ref ((W.cm C).getD 0) | _ => .non) z ∧ (∀ n, cl = .ty n → n ∈ ms) ∧ (∀ T, cl = .cls T → T ∈ ts ∧ W.cm T ≠ none) := by
  cases cl with
  | cls T =>
    obtain ⟨h1, g, h2, rfl⟩ := h
    refine ⟨.ref g, .own g, (by dsimp only; rw [h2]; exact .own g), fun n z => (by cases z), fun T' z => (by cases z; exact ⟨h1, by rw [h2]; exact fun z => by cases z⟩)⟩
  | ty n =>
    obtain ⟨h1, rfl⟩ := h
    exact ⟨.type n, .ty n, .ty n, fun n z => (by cases z; exact h1), fun T z => (by cases z)⟩
  | _ => exact h.elim
theorem me_is {cl : D} {u : V} {a : ME} (F : IsF W ts ms) (hc : ClOk W ts ms cl u) (h : PE X e (tCB (rIsM W.K) (tCons (tE W E a) (tCons (tC u) tNil)))) : PE X e (tE W E (mUn (fIsS cl) a)) := pe_weak h fun σ H Q ⟨ρ, c, hH, ok, env, w⟩ =>
  ⟨ρ, c, hH, ok, env, wp_bind w fun v x c1 s1 ok1 r1 w1 => by
    unfold fIsS at w1
    split at w1
    · rename_i hk
      cases et : tnD c1.μ x with
      | none => rw [et] at w1; exact w1.elim
      | some tn =>
        rw [et] at w1
        obtain ⟨t, h4, h5⟩ := tn_any F ok1 r1 hk et
        cases eb : isaT tn cl with
        | none =>
          have w2 : Wp W (Dp W) (match isaT tn cl with | some b => .ok (.bl b) c1.μ | none => .bad) c1 Q E := w1
          rw [eb] at w2
          exact w2.elim
        | some b =>
          have w2 : Wp W (Dp W) (match isaT tn cl with | some b => .ok (.bl b) c1.μ | none => .bad) c1 Q E := w1
          rw [eb] at w2
          obtain ⟨z, z1, z2, z3, z4⟩ := clok_v hc
          exact ⟨v, u, t, z, b, rfl, z1, h4, h5 cl z b z2 eb (fun n q => .inl (z3 n q)) z4, wp_ret w2 ok1 (.bl b)⟩
    · exact w1.elim⟩
def isaL (tn : TN) : List D → Option Bool
  | [] => some false
  | cl :: r => match isaT tn cl, isaL tn r with
    | some a, some b => some (a || b)
    | _, _ => none
def fIsL (cls : List D) : D → Store → Res D := fun x μ => if kindOk μ x = true then match (tnD μ x).bind fun tn => isaL tn cls with
    | some b => .ok (.bl b) μ
    | none => .bad
  else .bad
def ClsOk (W : Wd) (ts ms : List String) : List D → List V → Prop
  | [], [] => True
  | cl :: cs, u :: us => ClOk W ts ms cl u ∧ ClsOk W ts ms cs us
  | _, _ => False
def tCs : List V → TA
  | [] => tNil
  | v :: vs => tCons (tC v) (tCs vs)
theorem tCs_run {σ : L2.St} : ∀ {us : List V} {H : Hp} {Q : List V → Hp → Prop}, Q us H → tCs us σ H Q
  | [], _, _, q => q
  | u :: us, _, _, q => tCs_run (us := us) (Q := fun xs H2 => _) q
theorem isaL_ok {t : Value} {tn : TN} (hk : ∀ cl u b, ClsV (match cl with | .ty n => .ty n | .cls C => .ref ((W.cm C).getD 0) | _ => .non) u → isaT tn cl = some b → (∀ n, cl = .ty n → n ∈ ms ∨ ∃ m, tn = .b m) → (∀ T, cl = .cls T → T ∈ ts ∧ W.cm T ≠ none) → kitOne W.K t u = some b) :
    ∀ {cs : List D} {us : List V} {b : Bool}, ClsOk W ts ms cs us → isaL tn cs = some b → ∃ zs, Paired ClsV us zs ∧ kitAny W.K t zs = some b
  | [], [], b, _, e => by cases Option.some.inj e; exact ⟨[], .nil, kitAny_nil⟩
  | [], _ :: _, _, h, _ => h.elim
  | _ :: _, [], _, h, _ => h.elim
  | cl :: cs, u :: us, b, h, e => by
    unfold isaL at e
    split at e
    · rename_i a b' ea eb
      cases Option.some.inj e
      obtain ⟨zs, p, q⟩ := isaL_ok hk h.2 eb
      obtain ⟨z, z1, z2, z3, z4⟩ := clok_v h.1
      exact ⟨z :: zs, .cons z1 p, any_step (hk cl z a z2 ea (fun n q => .inl (z3 n q)) z4) q⟩
    · cases e
theorem me_isL {cls : List D} {us : List V} {a : ME} (F : IsF W ts ms) (hc : ClsOk W ts ms cls us) (hl : us.length ≤ sizeLine) (h : PE X e (tCB (rIsMT W.K) (tCons (tE W E a) (tCons (tTup (tCs us)) tNil)))) : PE X e (tE W E (mUn (fIsL cls) a)) := pe_weak h fun σ H Q ⟨ρ, c, hH, ok, env, w⟩ =>
  ⟨ρ, c, hH, ok, env, wp_bind w fun v x c1 s1 ok1 r1 w1 => by
    refine tCs_run ⟨hl, fun p hp => ?_⟩
    unfold fIsL at w1
    split at w1
    · rename_i hk
      obtain ⟨ok3, s3⟩ := step_new (o := .tup us) ok1 hp
      cases et : tnD c1.μ x with
      | none => rw [et] at w1; exact w1.elim
      | some tn =>
        rw [et] at w1
        have et3 : tnD (c1.to (upd c1.G p (.tup us)) (upd c1.H p (.tup us))).μ x = some tn := et
        obtain ⟨t, h4, h5⟩ := tn_any F ok3 (dp_mono s3.le r1) hk et3
        have w2 : Wp W (Dp W) (match isaL tn cls with | some b => .ok (.bl b) c1.μ | none => .bad) c1 Q E := w1
        cases eb : isaL tn cls with
        | none => rw [eb] at w2; exact w2.elim
        | some b =>
          rw [eb] at w2
          obtain ⟨zs, p1, p2⟩ := isaL_ok h5 hc eb
          exact ⟨v, p, us, t, zs, b, rfl, upd_same, p1, h4, p2, w2 (.bl b) (c1.to (upd c1.G p (.tup us)) (upd c1.H p (.tup us))) rfl s3 ok3 (.bl b)⟩
    · exact w1.elim⟩
def mYes : MT := fun _ μ => .ok true μ
theorem ms_setLc {b : Bool} {j : Nat} {st : Stmt} {i : MI} {g : TG} {gm : D → Env → Option Env} {t : MT} {el : ME} {vs : List Nat} (hg : LcT W g vs gm) (h : PS X st (tAsg (tLc (tI W E i) g (tT W E0' t) (tE W E0' el) vs) (gName j))) : PS X st (tS W E (mSet j (mLc b i gm t el vs))) := ps_weak h fun D σ H ⟨c0, cs, ρ, c, hH, ok, s, le, env, w⟩ => by
  have key : ∀ Q : VK, Wp W (Dp W) (mLc b i gm t el vs ρ c.μ) c Q E → tLc (tI W E i) g (tT W E0' t) (tE W E0' el) vs σ H Q := fun Q w => ⟨ρ, c, hH, ok, env, wp_bind w fun J src c1 s1 ok1 hw w1 => lc_run hg ok1 (env.mono s1.le) hw w1⟩
  exact key _ (wps_bind w s fun v d c1 s1 s2 ok1 r1 w1 => w1 _ c1 rfl s1 (le.trans s2.le) ok1 ((env.mono s2.le).set j r1))
theorem passes_own {K1 : Value → Shared → Prop} {E1 : Value → Shared → Prop} (hx : X.xe = fun e s' => wpAny (model X.prog X.w) X.A (leaving X.env e) (fun _ s'' => K1 e s'') E1 s') : PassesOwn (model X.prog X.w) X.A X.env X.xe := passes_of hx
end
section
variable {K : PySem.W.Frag}
def cmOf (l : List (String × Addr)) : String → Option Addr := fun s => l.lookup s
theorem cm_mem {l : List (String × Addr)} {C : String} {g : Addr} (h : cmOf l C = some g) : (C, g) ∈ l := by
  induction l with
  | nil => cases h
  | cons p r ih =>
    obtain ⟨k, a⟩ := p
    unfold cmOf at h ih
    rw [List.lookup_cons] at h
    by_cases hk : (C == k) = true
    · rw [hk] at h
      cases h
      have := beq_iff_eq.mp hk
      subst this
      exact List.mem_cons_self
    · rw [Bool.eq_false_iff.mpr hk] at h
      exact List.mem_cons_of_mem _ (ih h)
def clsB (K : PySem.W.Frag) (g : Addr) : Bool := plainGet K g Str.empty && (hasDictIn K g && (plainOver K g && decide (findIn K (.ref g) "__setattr__" = some (some (.builtin "object.__setattr__")))))
theorem clsB_ok {g : Addr} (h : clsB K g = true) : Cls K g := by
  unfold clsB at h
  simp only [Bool.and_eq_true, decide_eq_true_eq] at h
  exact ⟨h.1, h.2.1, h.2.2.1, h.2.2.2⟩
def cAttrB (K : PySem.W.Frag) (g : Addr) : Bool := decide (findIn K (.ref g) "__class__" = some (some (.builtin "object.__class__"))) && (decide (specialIn K (.builtin "object.__class__") "__get__" = some (some (.builtin "getset_descriptor.__get__"))) && (decide (takesIn K (.builtin "object.__class__") = some true) && decide (mroIn K g (.type "object") = some true)))
def insB (K : PySem.W.Frag) (g : Addr) : Bool := clsB K g && cAttrB K g
theorem insB_ok {g : Addr} (h : insB K g = true) : Cs.IsC K g := by
  unfold insB cAttrB at h
  simp only [Bool.and_eq_true, decide_eq_true_eq] at h
  exact ⟨clsB_ok h.1, h.2.1, h.2.2.1, h.2.2.2.1, h.2.2.2.2⟩
def excB (K : PySem.W.Frag) (g : Addr) : Bool := decide (findIn K (.ref g) "__getattribute__" = some (some (.builtin "BaseException.__getattribute__"))) && (decide (findIn K (.ref g) "__getattr__" = some none) && (decide (subIn K (.ref g) (.type "BaseException") = some true) && (hasDictIn K g && cAttrB K g)))
theorem excB_ok {g : Addr} (h : excB K g = true) : ExcC K g := by
  unfold excB cAttrB at h
  simp only [Bool.and_eq_true, decide_eq_true_eq] at h
  exact ⟨h.1, h.2.1, h.2.2.1, h.2.2.2.1, h.2.2.2.2.1, h.2.2.2.2.2.1, h.2.2.2.2.2.2.1, h.2.2.2.2.2.2.2⟩
def isfB (K : PySem.W.Frag) (l : List (String × Addr)) (ts ms : List String) : Bool :=
  (l.all fun p => l.all fun q => !ts.contains q.1 || decide (kitOne K (.ref p.2) (.ref q.2) = some (isaC p.1 q.1))) &&
  ((btys.all fun n => l.all fun q => !ts.contains q.1 || decide (kitOne K (.type n) (.ref q.2) = some false)) &&
  ((ms.all fun m => l.all fun p => decide (kitOne K (.ref p.2) (.type m) = some (isaN p.1 m))) &&
  (l.all fun p => if errs.contains p.1 then excB K p.2 else insB K p.2)))
theorem isfB_ok {l : List (String × Addr)} {ts ms : List String} {tabs : List (Addr × Str)} (h : isfB K l ts ms = true) : IsF ⟨K, cmOf l, tabs⟩ ts ms := by
  unfold isfB at h
  simp only [Bool.and_eq_true, List.all_eq_true, Bool.or_eq_true, Bool.not_eq_true', decide_eq_true_eq] at h
  obtain ⟨h1, h2, h3, h4⟩ := h
  have has : ∀ {T : String}, T ∈ ts → ¬ (ts.contains T = false) := fun {T} m z => by
    rw [List.contains_iff_mem.mpr m] at z; cases z
  refine ⟨fun C g T t hT hC ht => ?_, fun n T t hn hT ht => ?_, fun C g m hm hC => h3 m hm _ (cm_mem hC), fun C g he hC => ?_, fun C g he hC => ?_⟩
  · rcases h1 _ (cm_mem hC) _ (cm_mem ht) with z | z
    · exact absurd z (has hT)
    · exact z
  · rcases h2 n hn _ (cm_mem ht) with z | z
    · exact absurd z (has hT)
    · exact z
  · have := h4 _ (cm_mem hC)
    dsimp only at this
    rw [he] at this
    exact insB_ok (by simpa using this)
  · have := h4 _ (cm_mem hC)
    dsimp only at this
    rw [he] at this
    exact excB_ok (by simpa using this)
def xmB (K : PySem.W.Frag) (l : List (String × Addr)) (T : String) (t : Addr) : Bool := decide (subIn K (.ref t) (.type "BaseException") = some true) && (hasDictIn K t && (decide (typeIn K (.ref t) = some (.type "type")) && l.all fun p => decide (subIn K (.ref p.2) (.ref t) = some (isaC p.1 T))))
theorem xmB_ok {l : List (String × Addr)} {T : String} {t : Addr} (h : xmB K l T t = true) : ∀ C g, cmOf l C = some g → exmOne K (.ref g) (.ref t) = some (isaC C T) := fun C g hC => by
  unfold xmB at h
  simp only [Bool.and_eq_true, List.all_eq_true, decide_eq_true_eq] at h
  exact exm_ref h.1 h.2.1 h.2.2.1 (h.2.2.2 _ (cm_mem hC))
def noB (K : PySem.W.Frag) (l : List (Addr × Str)) : Bool := l.all fun p => decide (findIn K (.ref p.1) p.2 = some none)
theorem noB_ok {l : List (Addr × Str)} (h : noB K l = true) {g : Addr} {f : Str} (m : (g, f) ∈ l) : findIn K (.ref g) f = some none := by
  unfold noB at h
  simp only [List.all_eq_true, decide_eq_true_eq] at h
  exact h _ m
def mkB (K : PySem.W.Frag) (g f : Addr) : Bool := makesIn K g && (decide (findIn K (.ref g) "__init__" = some (some (.ref f))) && (isFn K (.ref f) && keepIn K (.ref g)))
theorem mkB_ok {g f : Addr} (h : mkB K g f = true) : Mk K g f := by
  unfold mkB at h
  simp only [Bool.and_eq_true, decide_eq_true_eq] at h
  exact ⟨h.1, h.2.1, h.2.2.1, h.2.2.2⟩
def meB (K : PySem.W.Frag) (g : Addr) (m : Str) (f : Addr) : Bool := decide (findIn K (.ref g) m = some (some (.ref f))) && (isFn K (.ref f) && keepIn K (.ref f))
theorem meB_ok {g f : Addr} {m : Str} (h : meB K g m f = true) : Meth K g m f := by
  unfold meB at h
  simp only [Bool.and_eq_true, decide_eq_true_eq] at h
  exact ⟨h.1, h.2.1, h.2.2⟩
def crB (K : PySem.W.Frag) (g : Addr) : Bool := readsIn K g (.type "type") && decide (specialIn K (.ref g) "__getattribute__" = some (some (.builtin "type.__getattribute__")))
theorem crB_ok {g : Addr} (h : crB K g = true) : ClX.CRead K g (.type "type") := by
  unfold crB at h
  simp only [Bool.and_eq_true, decide_eq_true_eq] at h
  exact ⟨h.1, h.2⟩
def all1 {P : String → Prop} {a : String} (h : P a) : ∀ C ∈ [a], P C := fun C m => by
  rw [List.mem_singleton.mp m]; exact h
end
theorem ints_dp {W : Wd} {c : Cf} : ∀ ns : List Int, DpA W c (ns.map V.int) (ns.map D.int)
  | [] => .nil
  | n :: ns => .cons (.int n) (ints_dp ns)
theorem law_core {W : Wd} {m : List D → Store → Res D} {a : Addr} {ns : List Int} {H G : Hp} {Q : VK} {E : XK} {μ : Store} (e : m [.lst (ns.map D.int)] [] = .ok (.bl true) μ) (hG : Same G H) (nG : ∀ b ps, G b ≠ some (.tbl ps)) (hs : SqL W.K G a (ns.map V.int)) (q : ∀ H', Q (.bl true) H') (ht : ∀ p ∈ W.tabs, H p.1 = some (.tbl #[])) (ho : ∀ a ps, H a = some (.tbl ps) → ∃ q, (a, q) ∈ W.tabs) : spN W m [.ref a] H Q E := by
  let c : Cf := ⟨fun _ => 0, [], G, H, fun _ => none, W.tabs⟩
  have ok : Ok W c := ⟨hG, fun b o e => (by cases e), fun n x e => (by simp [c] at e), fun n m l => (by obtain ⟨x, hx⟩ := l; simp [c] at hx), fun n x e => (by simp [c] at e), rfl, nG, ho, fun p hp => ⟨_, ht p hp, True.intro, fun pos cv e => (by simp [PySem.codeAmong] at e)⟩⟩
  refine ⟨c, [.lst (ns.map D.int)], rfl, ok, .cons (.lst hs (ints_dp ns)) .nil, ?_⟩
  show Wp W (Dp W) (m [.lst (ns.map D.int)] []) c Q E0'
  rw [e]
  intro v c' e' s' ok' r'
  cases r'
  exact q c'.H
theorem law_sp {W : Wd} {m : List D → Store → Res D} (hm : ∀ ns : List Int, ns.length ≤ 63 → ∃ μ, m [.lst (ns.map D.int)] [] = .ok (.bl true) μ) {vs : List V} {H : Hp} {Q : VK} {E : XK} (h : Cs.spLaw W.K vs H Q E) (ht : ∀ p ∈ W.tabs, H p.1 = some (.tbl #[])) (ho : ∀ a ps, H a = some (.tbl ps) → ∃ q, (a, q) ∈ W.tabs) : spN W m vs H Q E := by
  obtain ⟨a, ns, rfl, hs, hl, q⟩ := h
  obtain ⟨μ, e⟩ := hm ns hl
  rcases hs with hr | hk
  · have at_ : ∀ b o, (if b = a then H a else none) = some o → b = a ∧ H a = some o := fun b o e => by
      by_cases hb : b = a
      · rw [if_pos hb] at e; exact ⟨hb, e⟩
      · rw [if_neg hb] at e; cases e
    refine law_core (G := fun b => if b = a then H a else none) e (fun b o e => ?_) (fun b ps e => ?_) (.inl ?_) q ht ho
    · obtain ⟨rfl, h⟩ := at_ b o e; exact h
    · obtain ⟨_, h⟩ := at_ b _ e
      rcases hr with z | ⟨o, z⟩
      · rw [z] at h; cases h
      · rw [z] at h; cases h
    · rcases hr with z | ⟨o, z⟩
      · exact .inl ((if_pos rfl).trans z)
      · exact .inr ⟨o, (if_pos rfl).trans z⟩
  · exact law_core (G := fun _ => none) e (fun b o e => by cases e) (fun b ps e => by cases e) (.inr hk) q ht ho
def OexCls (K : PySem.W.Frag) (C : Addr) : Prop := ∃ nm q N bs bm sn sub ab col dd k0 k1 k2 k3 k5, K.lookup C = some (excClassObj nm q C N bs bm true sn sub ab col dd k0 k1 k2 k3 k5 "ValueError.__new__") ∧ PySem.HandSPX.refsVE bm = true
end Mi
namespace Mi
open PySem PySem.Spec L2 LamX PyProof.Rows
section
variable {X : Cx} {pins : List (Addr × Obj)} {σ : L2.St} {H : Hp} {s : Shared}
end
section
variable {W : Wd} {E : XK} {X : Cx} {c : Cf} {e : Expr} {st : Stmt}
def mLamC (w : Store → Res D) : ME := fun _ μ => w μ
def mLam (m : (Store → Res D) → Store → Res D) (el : ME) : ME := fun ρ μ => m (fun μ' => el ρ μ') μ
end
end Mi
namespace Mi
open PySem PySem.Spec L2 LamX PyProof.Rows
section
variable {W : Wd} {X : Cx}
end
end Mi
namespace Mi
open PySem PySem.Spec L2 LamX PyProof.Rows Cs
section
variable {P : Program} {w : World} {K : PySem.W.Frag} {mg mb : Str → Option Value} {base : Heap} {k : Nat} {f fa a c : Addr} {fd : FuncData} {N ps : List Str} {sp : Sp} {x qual : Str} {st : Stmt} {cs : List (Addr × Addr)} {s₁ : Shared} {vs : List Value} {ns : List Int}
structure Entry (cs : List (Addr × Addr)) (a : Addr) (H : Hp) : Prop where
  tab : ∀ p ∈ cs, H p.2 = some (.tbl #[])
  only : ∀ b o, H b = some o → (∃ p ∈ cs, p.2 = b) ∨ (b = a ∧ ∃ ob xs, o = .frz ob (.lst xs))
theorem lawT0 {H : Hp} (KX : K.In s₁.heap) (hns : s₁.heap.Ns mainGlobals mg) (hb : s₁.heap.Ns builtinsNs mb) (hbb : ∀ x : Str, x ≠ "__name__" → mb x = bootBuiltins x) (hlim : s₁.heap.NoLimit) (hg : s₁.gens = #[])
    (hT : ∀ p ∈ cs, s₁.heap.get? p.2 = some { cls := .none, data := .fields #[] }) (nT : ∀ p ∈ cs, K.lookup p.2 = none) (C : ∀ p ∈ cs, PySem.W.CodeHd s₁.heap p.1 p.2)
    (hbm : ∃ (bm : Addr) (ob : Obj), mg "__builtins__" = some (.ref bm) ∧ bm ≠ builtinsNs ∧ s₁.heap.get? bm = some ob ∧ ob.cls = .type "module" ∧ ob.dict = some builtinsNs ∧ ob.data = .plain)
    (ha : s₁.heap.get? a = some { cls := .type "list", data := .seq vs.toArray }) (hr : Room k callerA) (F : ∀ base : Heap, K.In base → base.Ns mainGlobals mg → (∀ p ∈ cs, TabB base mg p.1 p.2) → FnG P w K mg base CX0 k fa fd [x] sp) (hbind : ∀ (s : Shared) (u : Value), BindsTo s fd ⟨[u], []⟩ [(x, u)])
    (hO : Entry cs a H) (hsp : sp [.ref a] H (fun v _ => v = .bl true) fun _ _ _ => False) (hok : HOk P w H s₁.heap) (hK : H a ≠ none → K.lookup a = none) :
    codeAny (model P w) callerA (.call (.ref fa) ⟨[.ref a], []⟩) (lawEnd s₁) s₁ := by
  -- what lies elsewhere is not tracked
  have free : ∀ {b : Addr} {o : Obj}, s₁.heap.get? b = some o → (∀ vs n, o.data ≠ .seq vs n) → o.data ≠ .fields #[] → H b = none := by
    intro b o e n1 n2
    cases q : H b with
    | none => rfl
    | some u =>
      rcases hO.only b u q with ⟨p, hp, rfl⟩ | ⟨rfl, _⟩
      · rw [hT p hp] at e; cases e; exact absurd rfl n2
      · rw [ha] at e; cases e; exact absurd rfl (n1 _ _)
  have freeD : ∀ {b : Addr} {o : Obj} {es : Array DictEntry} {ep : Nat}, s₁.heap.get? b = some o → o.data = .dict es ep → H b = none := fun e d => free e (fun _ _ z => by rw [d] at z; cases z) fun z => by rw [d] at z; cases z
  have stays : ∀ {b : Addr} {o : Obj}, s₁.heap.get? b = some o → H b = none → (hidT s₁.heap H).get? b = some o := fun e n => hidT_get e n
  have nsIn : ∀ {b : Addr} {m : Str → Option Value}, s₁.heap.Ns b m → (hidT s₁.heap H).Ns b m := by
    rintro b m ⟨o, es, ep, e, d, r⟩
    exact ⟨o, es, ep, stays e (freeD e d), d, r⟩
  have kin : K.In (hidT s₁.heap H) := fun b o e => by
    refine stays (KX b o e) ?_
    cases q : H b with
    | none => rfl
    | some u =>
      rcases hO.only b u q with ⟨p, hp, rfl⟩ | ⟨rfl, _⟩
      · rw [nT p hp] at e; cases e
      · rw [hK (by rw [q]; exact fun z => by cases z)] at e; cases e
  have tabs : ∀ p ∈ cs, TabB (hidT s₁.heap H) mg p.1 p.2 := by
    intro p hp
    refine ⟨?_, ?_, fun z => ?_⟩
    · obtain ⟨o, us, file, tf, flags, tg, inF, text, tt, e1, r1, r2, r3, rest⟩ := C p hp
      refine ⟨o, us, file, tf, flags, tg, inF, text, tt, stays e1 (free e1 (fun _ _ z => by rw [r2] at z; cases z) fun z => ?_), r1, r2, r3, rest⟩
      rw [r2] at z
      cases z
      simp at r3
    · obtain ⟨bm, ob, b1, b2, b3, b4, b5, b6⟩ := hbm
      refine ⟨bm, ob, b1, b2, fun q => ?_, fun q => ?_, stays b3 (free b3 (fun _ _ z => by rw [b6] at z; cases z) fun z => by rw [b6] at z; cases z), b4, b5, b6⟩
      · obtain ⟨o, es, ep, e, d, _⟩ := hns
        rw [q, e] at b3; cases b3
        rw [d] at b6; cases b6
      · rw [q, hT p hp] at b3; cases b3; cases b6
    · obtain ⟨o, es, ep, e, d, _⟩ := hns
      rw [z, hT p hp] at e; cases e; cases d
  obtain ⟨mc, l1, l2⟩ := hlim
  have e0 : Env0 P w K mg (hidT s₁.heap H) callerA [] s₁ H := ⟨rfl, ⟨kin, nsIn hns, ⟨mb, nsIn hb, hbb⟩, ⟨mc, nsIn l1, l2⟩⟩, fun b o e => of_hidT e, Nat.le_of_eq (hidT_size _ _), trivial, (fun b hb => nomatch hb), hok, .of_eq hg⟩
  refine codeAny_mono ((F _ kin (nsIn hns) tabs).goes callerA [] s₁ H ⟨[.ref a], []⟩ [.ref a] [.ref a] _ _ rfl hr e0 (hbind s₁ (.ref a)) (.cons rfl .nil) hsp) fun r s' h => ?_
  cases r with
  | error e => exact h.elim
  | ok fl => cases fl with
    | next => exact h.elim
    | brk => exact h.elim
    | cont => exact h.elim
    | ret u =>
      obtain ⟨v, H', os, bare, un, hok', r', q⟩ := h
      have ev : v = .bl true := q
      subst ev
      have eu : u = Value.bool true := r'
      subst eu
      have tabNow : ∀ p ∈ cs, ∃ more : Array Value, s'.heap.get? p.2 = some { cls := .none, data := .fields more } := fun p hp => by
        obtain ⟨more, z⟩ := un.tbls p.2 #[] (hO.tab p hp)
        exact ⟨_, hok' p.2 _ z⟩
      have else_ : ∀ b o, (¬ ∃ p ∈ cs, p.2 = b) → s₁.heap.get? b = some o → s'.heap.get? b = some o := fun b o nb e => by
        cases q : H b with
        | none => exact un.keep b o e q (fun y => nomatch y) (fun y => nomatch y)
        | some u =>
          rcases hO.only b u q with z | ⟨_, ob, xs, rfl⟩
          · exact absurd z nb
          · have z2 := un.frzs b ob _ q
            have y1 := (hok b _ q).1
            rw [e] at y1
            cases y1
            exact (hok' b _ z2).1
      refine ⟨rfl, ⟨fun b o e => ?_, fun b o e => ?_⟩, os, bare⟩
      · by_cases hb : ∃ p ∈ cs, p.2 = b
        · obtain ⟨p, hp, rfl⟩ := hb
          obtain ⟨more, hm⟩ := tabNow p hp
          rw [hT p hp] at e
          cases e
          exact .inr (.inl ⟨((C p hp).tab (hT p hp)).isCodeTable, rfl, #[], more, rfl, by rw [Array.empty_append]; exact hm⟩)
        · exact .inl (else_ b o hb e)
      · by_cases hb : ∃ p ∈ cs, p.2 = b
        · obtain ⟨p, hp, rfl⟩ := hb
          obtain ⟨more, hm⟩ := tabNow p hp
          exact ⟨_, hm⟩
        · exact ⟨o, else_ b o hb e⟩
theorem lawT (KX : K.In s₁.heap) (hns : s₁.heap.Ns mainGlobals mg) (hb : s₁.heap.Ns builtinsNs mb) (hbb : ∀ x : Str, x ≠ "__name__" → mb x = bootBuiltins x) (hlim : s₁.heap.NoLimit) (hg : s₁.gens = #[])
    (hT : ∀ p ∈ cs, s₁.heap.get? p.2 = some { cls := .none, data := .fields #[] }) (nT : ∀ p ∈ cs, K.lookup p.2 = none) (C : ∀ p ∈ cs, PySem.W.CodeHd s₁.heap p.1 p.2)
    (hbm : ∃ (bm : Addr) (ob : Obj), mg "__builtins__" = some (.ref bm) ∧ bm ≠ builtinsNs ∧ s₁.heap.get? bm = some ob ∧ ob.cls = .type "module" ∧ ob.dict = some builtinsNs ∧ ob.data = .plain)
    (ha : s₁.heap.get? a = some { cls := .type "list", data := .seq vs.toArray }) (hi : IntsAre vs ns) (hl : ns.length ≤ sizeLine) (hr : Room k callerA) (F : ∀ base : Heap, K.In base → base.Ns mainGlobals mg → (∀ p ∈ cs, TabB base mg p.1 p.2) → FnG P w K mg base CX0 k fa fd [x] sp) (hbind : ∀ (s : Shared) (u : Value), BindsTo s fd ⟨[u], []⟩ [(x, u)])
    (hsp : ∀ H : Hp, Entry cs a H → SqL K H a (ns.map V.int) → sp [.ref a] H (fun v _ => v = .bl true) fun _ _ _ => False) :
    codeAny (model P w) callerA (.call (.ref fa) ⟨[.ref a], []⟩) (lawEnd s₁) s₁ := by
  have rv := vals_ints hi
  have apart : ∀ p ∈ cs, p.2 ≠ a := fun p hp z => by
    have q := hT p hp
    rw [z, ha] at q
    have q2 : Data.seq vs.toArray _ = Data.fields #[] := congrArg Obj.data (Option.some.inj q)
    cases q2
  have mem : ∀ b, b ∈ cs.map (·.2) ↔ ∃ p ∈ cs, p.2 = b := fun b => List.mem_map
  by_cases hk : K.lookup a = none
  · generalize hH : (fun b => if b = a then some (HO.frz { cls := .type "list", data := .seq vs.toArray } (.lst (ns.map V.int))) else if b ∈ cs.map (·.2) then some (.tbl #[]) else none : Hp) = H
    have ata : H a = some (.frz { cls := .type "list", data := .seq vs.toArray } (.lst (ns.map V.int))) := by rw [← hH]; exact if_pos rfl
    have att : ∀ p ∈ cs, H p.2 = some (.tbl #[]) := fun p hp => by rw [← hH]; exact (if_neg (apart p hp)).trans (if_pos ((mem _).mpr ⟨p, hp, rfl⟩))
    have off : ∀ b, b ≠ a → (¬ ∃ p ∈ cs, p.2 = b) → H b = none := fun b n1 n2 => by rw [← hH]; exact (if_neg n1).trans (if_neg fun z => n2 ((mem b).mp z))
    have only : Entry cs a H := ⟨att, fun b o e => by
      by_cases n2 : ∃ p ∈ cs, p.2 = b
      · exact .inl n2
      · by_cases n1 : b = a
        · rw [n1, ata] at e
          cases e
          exact .inr ⟨n1, _, _, rfl⟩
        · rw [off b n1 n2] at e; cases e⟩
    refine lawT0 KX hns hb hbb hlim hg hT nT C hbm ha hr F hbind only (hsp H only (.inl (.inr ⟨_, ata⟩))) (fun b u z => ?_) fun _ => hk
    by_cases n1 : b = a
    · subst n1
      have y := ata.symm.trans z
      cases y
      exact ⟨ha, by rw [List.length_map]; exact hl, vs, _, rv, ha⟩
    · by_cases n2 : ∃ p ∈ cs, p.2 = b
      · obtain ⟨p, hp, rfl⟩ := n2
        have y := (att p hp).symm.trans z
        cases y
        exact hT p hp
      · rw [off b n1 n2] at z; cases z
  · obtain ⟨o, ho⟩ := Option.ne_none_iff_exists'.mp hk
    have e := (KX a o ho).symm.trans ha
    cases e
    generalize hH : (fun b => if b ∈ cs.map (·.2) then some (HO.tbl #[]) else none : Hp) = H
    have att : ∀ p ∈ cs, H p.2 = some (.tbl #[]) := fun p hp => by rw [← hH]; exact if_pos ((mem _).mpr ⟨p, hp, rfl⟩)
    have off : ∀ b, (¬ ∃ p ∈ cs, p.2 = b) → H b = none := fun b n2 => by rw [← hH]; exact if_neg fun z => n2 ((mem b).mp z)
    have only : Entry cs a H := ⟨att, fun b o e => by
      by_cases n2 : ∃ p ∈ cs, p.2 = b
      · exact .inl n2
      · rw [off b n2] at e; cases e⟩
    refine lawT0 KX hns hb hbb hlim hg hT nT C hbm ha hr F hbind only (hsp H only (.inr ⟨_, vs.toArray, _, ho, rfl, rfl, rfl, by rw [List.size_toArray, hi.length]; exact hl, by simpa using rv⟩)) (fun b u z => ?_) fun z => absurd (off a fun ⟨p, hp, q⟩ => apart p hp q) z
    by_cases n2 : ∃ p ∈ cs, p.2 = b
    · obtain ⟨p, hp, rfl⟩ := n2
      have y := (att p hp).symm.trans z
      cases y
      exact hT p hp
    · rw [off b n2] at z; cases z
end
def spLawT (K : PySem.W.Frag) (ts : List (Addr × Str)) : Sp := fun vs H Q E => Cs.spLaw K vs H Q E ∧ (∀ p ∈ ts, H p.1 = some (.tbl #[])) ∧ ∀ a ps, H a = some (.tbl ps) → ∃ q, (a, q) ∈ ts
end Mi
namespace Mi
open PySem PySem.Spec L2 PyProof.Rows
section
variable {W : Wd} {E : XK} {X : Cx} {c : Cf} {v : V} {d : D} {ds : List D} {e tg iter : Expr} {st : Stmt} {Q : VK} {kws : List Keyword}
def lgTup4 (i j k l : Nat) : D → Env → Option Env := fun d ρ => match d with
  | .tup [x, y, z, u] => some ((((ρ.set i (some x)).set j (some y)).set k (some z)).set l (some u))
  | _ => none
theorem lct_tup4 {i j k l : Nat} {vs : List Nat} (hi : i ∈ vs) (hj : j ∈ vs) (hk : k ∈ vs) (hl : l ∈ vs) : LcT W (gTup W.K 4 (gCons (gName i) (gCons (gName j) (gCons (gName k) (gCons (gName l) gNil))))) vs (lgTup4 i j k l) := fun c v d σ ρ ρ2 q ok env r e h => by
  unfold lgTup4 at e
  split at e
  · cases Option.some.inj e
    cases r with
    | tup hs ha =>
      cases ha with
      | cons h1 h2 => cases h2 with
        | cons h2 h3 => cases h3 with
          | cons h3 h4 => cases h4 with
            | cons h4 h5 =>
              cases h5
              exact ⟨_, _, rfl, Cs.sqt_mono ok.s hs, rfl, _, _, rfl, _, _, rfl, _, _, rfl, _, _, rfl, rfl, h _ ((((env.set i h1).set j h2).set k h3).set l h4) (by rw [wipe_set hl, wipe_set hk, wipe_set hj, wipe_set hi])⟩
  · cases e
def fInt : List D → Store → Res D := fun xs μ => match xs with
  | [.int i] => .ok (.int i) μ
  | [.bl k] => .ok (.int (if k = true then 1 else 0)) μ
  | _ => .bad
theorem dpa_rg {a b : Int} : DpA W c (rgV a b) (rangeD a (b - a).toNat) := by
  unfold rgV rangeD
  generalize List.range (b - a).toNat = l
  induction l with
  | nil => exact .nil
  | cons i l ih => exact .cons (.int _) ih
open Classical in
noncomputable def fRg (tup b : Bool) (i j : Int) : Store → Res D := fun μ => if RgOk i j then (if tup = true then .ok (.tup (rangeD i (j - i).toNat)) μ else newL b (rangeD i (j - i).toNat) μ) else .bad
noncomputable def mRg1 (tup b : Bool) (a : ME) : ME := fun ρ μ => (a ρ μ).bind fun x μ => match x with
  | .int j => fRg tup b 0 j μ
  | _ => .bad
noncomputable def mRg2 (tup b : Bool) (a a' : ME) : ME := fun ρ μ => (a ρ μ).bind fun x μ => (a' ρ μ).bind fun y μ => match x, y with
  | .int i, .int j => fRg tup b i j μ
  | _, _ => .bad
theorem rg_lst {b : Bool} {i j : Int} (ok : Ok W c) (w : Wp W (Dp W) (fRg false b i j c.μ) c Q E) : RgOk i j ∧ ∀ q, c.H q = none → Q (.ref q) (upd c.H q (.lst (rgV i j))) := by
  unfold fRg at w
  split at w
  · rename_i h
    rw [if_neg (by simp)] at w
    exact ⟨h, fun p hp => wp_newL w ok dpa_rg hp⟩
  · exact w.elim
theorem rg_tup {b : Bool} {i j : Int} (ok : Ok W c) (w : Wp W (Dp W) (fRg true b i j c.μ) c Q E) : RgOk i j ∧ ∀ q, c.H q = none → Q (.ref q) (upd c.H q (.tup (rgV i j))) := by
  unfold fRg at w
  split at w
  · rename_i h
    rw [if_pos rfl] at w
    exact ⟨h, fun p hp => wp_newT w ok dpa_rg hp⟩
  · exact w.elim
theorem pk_weak {t t' : TA} (h : PK X kws t) (f : ∀ σ H Q, t' σ H Q → t σ H Q) : PK X kws t' := ⟨fun p pins s σ H Q I q => h.run p pins s σ H Q I (f _ _ _ q)⟩
theorem mk_nil (h : PK X kws tNil) : PK X kws (tA W E mNil) := pk_weak h fun σ H Q ⟨ρ, c, hH, ok, env, w⟩ => by
  subst hH
  exact wp_ret w ok .nil
theorem mk_cons {a : ME} {b : MA} (h : PK X kws (tCons (tE W E a) (tA W E b))) : PK X kws (tA W E (mCons a b)) := pk_weak h fun σ H Q ⟨ρ, c, hH, ok, env, w⟩ =>
  ⟨ρ, c, hH, ok, env, wp_bind w fun v x c1 s1 ok1 r1 w1 => ⟨ρ, c1, rfl, ok1, env.mono s1.le, wp_bind w1 fun vs xs c2 s2 ok2 r2 w2 => wp_ret w2 ok2 (.cons (dp_mono s2.le r1) r2)⟩⟩
def mMakeK (frz : Bool) (C : String) (m : List D → Store → Res D) (n k : Nat) (a b : MA) : ME := fun ρ μ => (a ρ μ).bind fun xs μ => (b ρ μ).bind fun ys μ => if xs.length = n ∧ ys.length = k then mkObj frz C m (xs ++ ys) μ else .bad
end
end Mi
namespace Mi
open PySem PySem.Spec L2 PyProof.Rows
section
variable {W : Wd} {E : XK} {X : Cx} {c : Cf} {v : V} {d : D} {ds : List D} {e tg iter : Expr} {st : Stmt} {Q : VK}
def mCallO (C : String) (m : List D → Store → Res D) (o : ME) (a : MA) : ME := fun ρ μ => (o ρ μ).bind fun x μ => match x with
  | .obj C' _ _ => if C' = C then (a ρ μ).bind fun ds μ => m (x :: ds) μ else .bad
  | _ => .bad
def intsD : List D → Option (List Int)
  | [] => some []
  | .int x :: ds => (intsD ds).map (x :: ·)
  | _ => none
theorem intsD_ok : ∀ {ds : List D} {vs : List V} {ss : List Int}, DpA W c vs ds → intsD ds = some ss → vs = ss.map V.int
  | [], _, _, h, e => by cases h; cases Option.some.inj e; rfl
  | .int b :: ds, _, bs, h, e => by
    cases h with
    | cons h1 h2 =>
      cases h1
      unfold intsD at e
      cases q : intsD ds with
      | none => rw [q] at e; cases e
      | some bs' =>
        rw [q] at e
        cases Option.some.inj e
        rw [intsD_ok h2 q]; rfl
  | .non :: _, _, _, _, e => by cases e
  | .bl _ :: _, _, _, _, e => by cases e
  | .str _ :: _, _, _, _, e => by cases e
  | .ty _ :: _, _, _, _, e => by cases e
  | .lst _ :: _, _, _, _, e => by cases e
  | .tup _ :: _, _, _, _, e => by cases e
  | .dct _ _ :: _, _, _, _, e => by cases e
  | .obj _ _ _ :: _, _, _, _, e => by cases e
  | .exc _ _ _ :: _, _, _, _, e => by cases e
  | .cls _ :: _, _, _, _, e => by cases e
  | .own _ :: _, _, _, _, e => by cases e
def sortI (ns : List Int) : List Int := ns.mergeSort fun a b => decide (a ≤ b)
theorem sortI_perm (ns : List Int) : (sortI ns).Perm ns := List.mergeSort_perm _ _
theorem sortI_le (ns : List Int) : (sortI ns).Pairwise (· ≤ ·) := by
  have := List.pairwise_mergeSort (le := fun a b : Int => decide (a ≤ b)) (fun a b c h1 h2 => by simp at *; omega) (fun a b => by simp; omega) ns
  exact this.imp fun h => by simpa using h
theorem sortI_eq {ns ys : List Int} (h1 : ys.Perm ns) (h2 : ys.Pairwise (· ≤ ·)) : sortI ns = ys :=
  List.Perm.eq_of_pairwise (fun a b _ _ h h' => Int.le_antisymm h h') (sortI_le ns) h2 ((sortI_perm ns).trans h1.symm)
theorem dpa_ints : ∀ {ss : List Int}, DpA W c (ss.map V.int) (ss.map D.int)
  | [] => .nil
  | _ :: _ => .cons (.int _) dpa_ints
def noX (r : Res D) : Res D := match r with
  | .ok d μ => .ok d μ
  | _ => .bad
def mPropN (C : String) (m : List D → Store → Res D) (o : ME) : ME := mProp C (fun ds μ => noX (m ds μ)) o
def mPar3 (i j k : Nat) (a : MA) : MS := fun _ ρ μ => (a ρ μ).st fun ds μ => match ds with
  | [x, y, z] => .nx (((ρ.set i (some x)).set j (some y)).set k (some z)) μ
  | _ => .bad
end
end Mi
namespace Mi
open PySem PySem.Spec L2 PyProof.Rows
section
variable {W : Wd} {E : XK} {X : Cx} {c : Cf} {v : V} {d : D} {ds : List D} {e : Expr} {es : List Expr} {st : Stmt} {Q : VK}
end
end Mi
namespace Mi
open PySem PySem.Spec L2 PyProof.Rows PySem.SeqAt
section
variable {prog : Program} {w : World} {K : Type} [DecidableEq K] {knd : KeyKind prog w K} {A : Around} {E : Value → Shared → Prop} {s : Shared}
end
section
variable {X : Cx} {pins : List (Addr × Obj)} {σ : L2.St} {H : Hp} {s : Shared}
end
section
variable {W : Wd} {E : XK} {c : Cf}
end
end Mi
namespace SetT
open PySem PySem.Spec PyProof.Rows
def ddS (l : List Str) : List Str := l.foldl (fun a x => if a.any (· == x) = true then a else a ++ [x]) []
theorem ddS_app (l : List Str) (x : Str) : ddS (l ++ [x]) = if (ddS l).any (· == x) = true then ddS l else ddS l ++ [x] := by
  unfold ddS
  rw [List.foldl_append]; rfl
theorem tail_ind {P : List Str → Prop} (h0 : P []) (h1 : ∀ l x, P l → P (l ++ [x])) (l : List Str) : P l := by
  have : ∀ r : List Str, P r.reverse := fun r => by
    induction r with
    | nil => exact h0
    | cons x r ih => rw [List.reverse_cons]; exact h1 _ x ih
  have z := this l.reverse
  rwa [List.reverse_reverse] at z
theorem ddS_le (l : List Str) : (ddS l).length ≤ l.length := by
  refine tail_ind (P := fun l => (ddS l).length ≤ l.length) (by simp [ddS]) (fun a x ih => ?_) l
  rw [ddS_app, List.length_append]
  split
  · exact Nat.le_succ_of_le ih
  · rw [List.length_append]; simp; exact ih
theorem ddS_mem (l : List Str) (y : Str) : (ddS l).any (· == y) = l.any (· == y) := by
  refine tail_ind (P := fun l => (ddS l).any (· == y) = l.any (· == y)) rfl (fun a x ih => ?_) l
  rw [ddS_app, List.any_append, ← ih]
  split
  · rename_i h
    by_cases e : x = y
    · subst e; rw [h]; rfl
    · simp [e]
  · rw [List.any_append]
theorem hold_app (l : List Str) (x k : Str) : ((ddS l).any (· == k) || decide (k = x)) = (ddS (l ++ [x])).any (· == k) := by
  rw [ddS_mem, ddS_mem, List.any_append]
  have : (x == k) = decide (k = x) := by
    by_cases e : k = x
    · subst e; simp
    · rw [decide_eq_false e]; exact beq_eq_false_iff_ne.mpr fun z => e z.symm
  simp [this]
theorem size_app (l : List Str) (x : Str) : (if (ddS l).any (· == x) then (ddS l).length else (ddS l).length + 1) = (ddS (l ++ [x])).length := by
  rw [ddS_app]
  split <;> simp
section
variable {prog : Program} {w : World} {A : Around} {R : Result → Shared → Prop} {J : Addr} {fp wr : List Addr} {G : Array GenState → Array GenState → Prop} {n : Nat} {T : Nat → Value → Prop} {St : Nat → Shared → Prop}
theorem take_put {xs : List Str} {i : Nat} (h : i < xs.length) : xs.take (i + 1) = xs.take i ++ [xs.getD i Str.empty] := by
  rw [List.take_add_one, List.getD_eq_getElem?_getD, List.getElem?_eq_getElem h]; rfl
end
section
variable {prog : Program} {w : World} {A : Around} {E : Value → Shared → Prop} {s : Shared}
abbrev noSet (led : Bool) : Obj := { cls := .type "set", dict := none, data := .set #[] 0 (.fresh 0 0 led) }
theorem str_at : ∀ {us : List Value} {ys : List Str}, StrsAre us ys → ∀ (i : Nat) (v : Value), us[i]? = some v → ∃ t, v = .str (ys.getD i Str.empty) t
  | _, _, .nil, i, v, h => by cases i <;> cases h
  | _, _, .cons n t hr, 0, v, h => ⟨t, (Option.some.inj h).symm⟩
  | _, _, .cons n t hr, i + 1, v, h => str_at hr i v h
set_option maxHeartbeats 4000000 in
end
end SetT
namespace Mi
open PySem PySem.Spec L2 PyProof.Rows
section
variable {W : Wd} {E : XK} {X : Cx} {c : Cf} {v : V} {d : D} {ds : List D} {e : Expr} {st : Stmt} {Q : VK}
theorem strs_of : ∀ {ys : List Str} {us : List Value}, Vals (ys.map V.str) us → StrsAre us ys
  | [], _, .nil => .nil
  | _ :: _, _, .cons ⟨k, e⟩ t => e ▸ .cons _ k (strs_of t)
def fCountI : D → List D → Store → Res D := fun x xs μ => match (seqL μ x).bind intsD, xs with
  | some ns, [.int k] => .ok (.int (ns.count k : Nat)) μ
  | _, _ => .bad
def mDGet2 (o i z : ME) : ME := fun ρ μ => (o ρ μ).bind fun x μ => (match dctOf μ x with
  | some _ => (i ρ μ).bind fun y μ => (z ρ μ).bind fun u μ => match dctOf μ x, keyOf y with
    | some (ks, ds), some k => .ok ((lookK k ks ds).getD u) μ
    | _, _ => .bad
  | none => .bad)
def pkI {α : Type} (n k : Nat) (ix : List Nat) (us ws : List α) : List α := if us.length = n ∧ ws.length = k then ix.filterMap ((us ++ ws)[·]?) else []
theorem vals_pick {vs : List V} {us : List Value} (r : Vals vs us) : ∀ ix : List Nat, Vals (ix.filterMap (vs[·]?)) (ix.filterMap (us[·]?))
  | [] => .nil
  | i :: ix => by
    have ih := vals_pick r ix
    cases e : vs[i]? with
    | none =>
      have e2 : us[i]? = none := by
        rw [List.getElem?_eq_none_iff] at e ⊢
        rw [← r.length]; exact e
      simpa [e, e2] using ih
    | some x =>
      obtain ⟨u, hu, ru⟩ := r.get e
      simpa [e, hu] using (show Vals (x :: _) (u :: _) from .cons ru ih)
theorem dpa_pick {vs : List V} (r : DpA W c vs ds) : ∀ ix : List Nat, DpA W c (ix.filterMap (vs[·]?)) (ix.filterMap (ds[·]?))
  | [] => .nil
  | i :: ix => by
    have ih := dpa_pick r ix
    cases e : ds[i]? with
    | none =>
      have e2 : vs[i]? = none := by
        rw [List.getElem?_eq_none_iff] at e ⊢
        rw [dpa_len r]; exact e
      simpa [e, e2] using ih
    | some x =>
      obtain ⟨u, hu, ru⟩ := dpa_get r e
      simpa [e, hu] using DpA.cons ru ih
theorem vals_pkI {n k : Nat} {ix : List Nat} {vs zs : List V} {us ws : List Value} (r : Vals vs us) (q : Vals zs ws) : Vals (pkI n k ix vs zs) (pkI n k ix us ws) := by
  unfold pkI
  rw [r.length, q.length]
  split
  · exact vals_pick (r.append q) ix
  · exact .nil
theorem kb_of {K : PySem.W.Frag} {x qual : Str} {f : Addr} {fd : FuncData} (F : Fun K x qual st f fd) {ps ks : List Str} {n : Nat} {ix : List Nat} (hp : ps ≠ [])
    (h : ∀ (kV doc pm : Value) (an : Option Addr) (cdv ct : Value) (us ws : List Value), us.length = n → ws.length = ks.length → bindArgs (PySem.W.fnOf x qual (defArgs st) (defBody st) (defScope st) .none kV doc pm an cdv ct) ⟨us, ks.zip ws⟩ = pure (ps.zip (pkI n ks.length ix us ws))) :
    KBinds K fd ps ks (pkI n ks.length ix) (pkI n ks.length ix) := by
  obtain ⟨oc, od, kV, doc, pm, an, cdv, ct, osl, e, lk, hcd⟩ := F.ex
  subst e
  refine ⟨fun s us ws kin hl => ?_, vals_pkI⟩
  by_cases z : us.length = n ∧ ws.length = ks.length
  · exact BindsTo.of_eq (h kV doc pm an cdv ct us ws z.1 z.2)
  · unfold pkI at hl
    rw [if_neg z] at hl
    exact absurd (List.eq_nil_of_length_eq_zero hl.symm) hp
theorem pe_callK0 {CX : CXT} {k : Nat} {f : Addr} {fd : FuncData} {ps ks : List Str} {sp : Sp} {x : Str} {p pos : Pos} {kws : List Keyword} {tk : TA} {g : List Value → List Value → List Value} {gV : List V → List V → List V}
    (F : FnOk X.prog X.w X.K X.mg X.base CX k f fd ps sp) (hr : Room k X.A) (hg : Gl X x) (hm : X.mg x = some (.ref f)) (hk : PySem.W.keepIn X.K (.ref f) = true) (hb : KBinds X.K fd ps ks g gV) (hx : Passes CX X E) (hkw : PK X kws tk)
    (hall : (backToKw pos (keywordEach kws X.env)).all (·.1.isSome) = true := by rfl) (hks : (backToKw pos (keywordEach kws X.env)).filterMap (·.1) = ks := by rfl) (hdb : (x == ("__debug__" : Str)) = false := by decide)
    (hpl : ((backTo pos (starEach [] X.env)).any (·.1) || (backToKw pos (keywordEach kws X.env)).any (·.1.isNone)) = false := by rfl) : PE X (.Call (.Name x p) [] kws pos) (tCallK sp gV E tNil tk) :=
  ⟨fun pins s σ H Q I h => wpAny_Call_Name_kw (ld_glob I hg hm (PySem.W.callWith_KW0 (h₀ := X.base) I.ok.mod.kin hk hall (thn (hkw.run pos pins s σ H _ I h) fun ws s2 ⟨zs, H2, I2, rz, q2⟩ => ⟨I2.kIn, by
    rw [hks]
    exact run_fnk (us := []) (vs := []) F hr hb hx I2 .nil rz q2⟩) hpl) hdb)⟩
def mCallK (n k : Nat) (ix : List Nat) (m : List D → Store → Res D) (a b : MA) : ME := fun ρ μ => (a ρ μ).bind fun xs μ => (b ρ μ).bind fun ys μ => if xs.length = n ∧ ys.length = k then m (ix.filterMap ((xs ++ ys)[·]?)) μ else .bad
theorem me_callK0 {k : Nat} {ix : List Nat} {m : List D → Store → Res D} {b : MA} (h : PE X e (tCallK (spM W m) (pkI 0 k ix) E tNil (tA W E b))) : PE X e (tE W E (mCallK 0 k ix m mNil b)) := pe_weak h fun σ H Q ⟨ρ, c, hH, ok, env, w⟩ =>
  ⟨ρ, c, hH, ok, env, wp_bind (f := fun ys μ => if ([] : List D).length = 0 ∧ ys.length = k then m (ix.filterMap (([] ++ ys)[·]?)) μ else .bad) w fun zs ys c2 s2 ok2 r2 w2 => by
    split at w2
    · rename_i hl
      refine ⟨c2, _, rfl, ok2, ?_, w2⟩
      unfold pkI
      rw [dpa_len r2, if_pos ⟨rfl, hl.2⟩]
      exact dpa_pick r2 ix
    · exact w2.elim⟩
end
end Mi
namespace Mi
open PySem PySem.Spec L2 PyProof.Rows PySem.SeqAt
section
variable {prog : Program} {w : World} {K : Type} [DecidableEq K] {knd : KeyKind prog w K} {A : Around} {E : Value → Shared → Prop} {s : Shared}
end
section
variable {X : Cx} {pins : List (Addr × Obj)} {σ : L2.St} {H : Hp} {s : Shared}
end
section
variable {W : Wd} {E : XK} {c : Cf}
end
end Mi
namespace Mi
open PySem PySem.Spec L2 PyProof.Rows
section
variable {W : Wd} {E : XK} {X : Cx} {c : Cf} {v : V} {d : D} {ds es : List D} {e tg iter : Expr} {st : Stmt} {Q : VK} {a b : Addr}
theorem zipD_len : (zipD ds es).length = min ds.length es.length := by simp [zipD]
theorem zipD_get {i : Nat} {x y : D} (hx : ds[i]? = some x) (hy : es[i]? = some y) : (zipD ds es)[i]? = some (.tup [x, y]) := by
  unfold zipD
  rw [List.getElem?_map]
  have h1 := List.getElem?_eq_some_iff.mp hx
  have h2 := List.getElem?_eq_some_iff.mp hy
  obtain ⟨l1, rfl⟩ := h1
  obtain ⟨l2, rfl⟩ := h2
  rw [List.getElem?_eq_getElem (by rw [List.length_zip]; omega)]
  simp
theorem watch_app {w1 w2 : List Nat} {μ μ' : Store} (h : watch (w1 ++ w2) μ μ') : watch w1 μ μ' ∧ watch w2 μ μ' := ⟨fun n hn => h n (List.mem_append_left _ hn), fun n hn => h n (List.mem_append_right _ hn)⟩
theorem walksZL {f : D} (ok : Ok W c) (h : Dp W c (.ref a) d) (h' : Dp W c (.ref b) f) (e : seqL c.μ d = some ds) (e' : seqL c.μ f = some es) : WalksM W (Itz W.K a b) c ⟨zipD ds es, d.cell ++ f.cell⟩ := by
  have at2 : ∀ c2, Le c c2 → Ok W c2 → watch (d.cell ++ f.cell) c.μ c2.μ → (∃ xs, SqL W.K c2.H a xs ∧ DpA W c2 xs ds) ∧ ∃ ys, SqL W.K c2.H b ys ∧ DpA W c2 ys es := fun c2 le ok2 hw => by
    obtain ⟨a', xs, ea, hs, ha⟩ := seqL_ok ok2 (dp_mono le h) (by rw [seqL_watch (watch_app hw).1]; exact e)
    obtain ⟨b', ys, eb, hs', hb⟩ := seqL_ok ok2 (dp_mono le h') (by rw [seqL_watch (watch_app hw).2]; exact e')
    cases ea; cases eb
    exact ⟨⟨xs, hs, ha⟩, ys, hs', hb⟩
  refine ⟨fun H => ∃ xs ys, SqL W.K H a xs ∧ xs.length = ds.length ∧ SqL W.K H b ys ∧ ys.length = es.length, fun i H v H' => ∃ T x y, v = .ref T ∧ H T = none ∧ H' = upd H T (.tup [x, y]) ∧ (∀ xs, SqL W.K H a xs → xs[i]? = some x) ∧ ∀ ys, SqL W.K H b ys → ys[i]? = some y, ⟨?_, ?_, ?_⟩, ?_, ?_⟩
  · rintro i H hi ⟨xs, ys, hs, hl, hs', hl'⟩
    have hi' : i < min ds.length es.length := Nat.lt_of_lt_of_eq hi zipD_len
    exact ⟨xs, ys, xs[i]'(by omega), ys[i]'(by omega), hs, hs', by rw [List.getElem?_eq_getElem], by rw [List.getElem?_eq_getElem]⟩
  · rintro H ⟨xs, ys, hs, hl, hs', hl'⟩
    refine ⟨xs, ys, hs, hs', ?_⟩
    show xs.length ≤ (zipD ds es).length ∨ ys.length ≤ (zipD ds es).length
    rw [zipD_len]; omega
  · exact fun _ _ _ _ _ _ y => y
  · intro c2 le _ ok2 hw
    obtain ⟨⟨xs, hs, ha⟩, ys, hs', hb⟩ := at2 c2 le ok2 hw
    exact ⟨xs, ys, hs, dpa_len ha, hs', dpa_len hb⟩
  · rintro i x c2 H' hi le _ ok2 hw ⟨T, y, z, rfl, hT, rfl, hx, hy⟩
    obtain ⟨⟨xs, hs, ha⟩, ys, hs', hb⟩ := at2 c2 le ok2 hw
    obtain ⟨d1, h1, h2⟩ := dpa_getV ha (hx xs hs)
    obtain ⟨d2, h3, h4⟩ := dpa_getV hb (hy ys hs')
    obtain ⟨G3, g, r⟩ := pair_new ok2 hT h2 h4
    exact ⟨_, G3, zipD_get h1 h3, g, r⟩
theorem walksZT {f : D} (ok : Ok W c) (h : Dp W c (.ref a) d) (h' : Dp W c (.ref b) f) (e : seqT d = some ds) (e' : seqT f = some es) : WalksM W (RZ.ItzT W.K a b) c ⟨zipD ds es, []⟩ := by
  cases h with
  | @tup _ xs _ hs ha =>
    cases Option.some.inj e
    cases h' with
    | @tup _ ys _ hs' hb =>
      cases Option.some.inj e'
      refine ⟨fun H => SqT W.K H a xs ∧ SqT W.K H b ys, fun i H v H' => ∃ T x y, v = .ref T ∧ H T = none ∧ H' = upd H T (.tup [x, y]) ∧ xs[i]? = some x ∧ ys[i]? = some y, ⟨?_, ?_, ?_⟩, fun c' le _ ok' _ => ⟨Cs.sqt_mono ok'.s (Cs.sqt_mono le.g hs), Cs.sqt_mono ok'.s (Cs.sqt_mono le.g hs')⟩, ?_⟩
      · intro i H hi hs
        have hi' : i < min ds.length es.length := Nat.lt_of_lt_of_eq hi zipD_len
        have l1 := dpa_len ha
        have l2 := dpa_len hb
        exact ⟨xs, ys, xs[i]'(by omega), ys[i]'(by omega), hs.1, hs.2, by rw [List.getElem?_eq_getElem], by rw [List.getElem?_eq_getElem]⟩
      · intro H hs
        refine ⟨xs, ys, hs.1, hs.2, ?_⟩
        show xs.length ≤ (zipD ds es).length ∨ ys.length ≤ (zipD ds es).length
        have l1 := dpa_len ha
        have l2 := dpa_len hb
        rw [zipD_len]; omega
      · rintro i H x H' hi hs ⟨T, y, z, h1, h2, h3, h4, h5⟩
        exact ⟨T, y, z, h1, h2, h3, h4 _ hs.1, h5 _ hs.2⟩
      · rintro i x c2 H' hi le _ ok2 hw ⟨T, y, z, rfl, hT, rfl, hx, hy⟩
        obtain ⟨d1, h1, h2⟩ := dpa_getV ha hx
        obtain ⟨d2, h3, h4⟩ := dpa_getV hb hy
        obtain ⟨G3, g, r⟩ := pair_new ok2 hT (dp_mono le h2) (dp_mono le h4)
        exact ⟨_, G3, zipD_get h1 h3, g, r⟩
    | _ => cases e'
  | _ => cases e
def zipS (μ : Store) (d f : D) : Option Src := match seqL μ d, seqL μ f with
  | some ds, some es => some ⟨zipD ds es, d.cell ++ f.cell⟩
  | _, _ => match seqT d, seqT f with
    | some ds, some es => some ⟨zipD ds es, []⟩
    | _, _ => none
def miZip (a b : ME) : MI := fun ρ μ => (a ρ μ).bind fun x μ => (b ρ μ).bind fun y μ => match zipS μ x y with
  | some s => .ok s μ
  | none => .bad
theorem zipS_ok {x y : D} {u w : V} {s : Src} (ok : Ok W c) (hx : Dp W c u x) (hy : Dp W c w y) (e : zipS c.μ x y = some s) : ∃ a b xs ys, [u, w] = [V.ref a, V.ref b] ∧ ((SqL W.K c.H a xs ∧ SqL W.K c.H b ys ∧ WalksM W (Itz W.K a b) c s) ∨ (SqT W.K c.H a xs ∧ SqT W.K c.H b ys ∧ WalksM W (RZ.ItzT W.K a b) c s)) := by
  unfold zipS at e
  split at e
  · rename_i ds es e1 e2
    cases Option.some.inj e
    obtain ⟨a, xs, rfl, h1, h2⟩ := seqL_ok ok hx e1
    obtain ⟨b, ys, rfl, h3, h4⟩ := seqL_ok ok hy e2
    exact ⟨a, b, xs, ys, rfl, .inl ⟨h1, h3, walksZL ok hx hy e1 e2⟩⟩
  · split at e
    · rename_i ds es e1 e2
      cases Option.some.inj e
      obtain ⟨a, xs, rfl, h1, h2⟩ := seqT_ok ok hx e1
      obtain ⟨b, ys, rfl, h3, h4⟩ := seqT_ok ok hy e2
      exact ⟨a, b, xs, ys, rfl, .inr ⟨h1, h3, walksZT ok hx hy e1 e2⟩⟩
    · cases e
theorem mi_zip {m n : ME} (h : PI X tg iter (RZ.iZipA W.K (tCons (tE W E m) (tCons (tE W E n) tNil)))) : PI X tg iter (tI W E (miZip m n)) := pi_weak h fun σ H R ⟨ρ, c, hH, ok, env, w⟩ =>
  ⟨ρ, c, hH, ok, env, wp_bind w fun u x c1 s1 ok1 r1 w1 => ⟨ρ, c1, rfl, ok1, env.mono s1.le, wp_bind w1 fun z y c2 s2 ok2 r2 w2 => by
    split at w2
    · rename_i s es
      obtain ⟨a, b, xs, ys, q, h⟩ := zipS_ok ok2 (dp_mono s2.le r1) r2 es
      refine ⟨a, b, xs, ys, q, ?_⟩
      rcases h with ⟨h1, h2, h3⟩ | ⟨h1, h2, h3⟩
      · exact .inl ⟨h1, h2, w2 _ c2 rfl (.refl ok2) ok2 h3⟩
      · exact .inr ⟨h1, h2, w2 _ c2 rfl (.refl ok2) ok2 h3⟩
    · exact w2.elim⟩⟩
def fPop0 : D → List D → Store → Res D := fun x xs μ => match ownL μ x, xs with
  | some (n, ds), [] => match ds[ds.length - 1]? with
    | some y => .ok y (μ.set n (some (.lst ds.dropLast)))
    | none => .bad
  | _, _ => .bad
theorem dpa_dropLast : ∀ {vs : List V} {ds : List D}, DpA W c vs ds → DpA W c vs.dropLast ds.dropLast := fun {vs ds} h => by
  rw [List.dropLast_eq_take, List.dropLast_eq_take, dpa_len h]
  exact dpa_take _ h
theorem mtc_pop0 : MtC W E rPop fPop0 := fun c x v xs vs Q ok hx hxs w => by
  unfold fPop0 at w
  split at w
  · rename_i n ds e
    split at w
    · rename_i y hy
      obtain ⟨rfl, hm, rfl, ws, h1, h2⟩ := ownL_ok ok hx e
      cases hxs
      obtain ⟨z, h3, h4⟩ := dpa_get h2 hy
      exact ⟨_, ws, z, rfl, rfl, h1, by rw [dpa_len h2]; exact h3, wp_putL w ok hm (dpa_dropLast h2) h4⟩
    · exact w.elim
  · exact w.elim
def rMin2 : List V → Hp → VK → Prop := fun xs H Q => ∃ i j, xs = [.int i, .int j] ∧ Q (.int (if j < i then j else i)) H
theorem call_min2X {X : Cx} (hc : X.calm = true) : CallR X (.builtin "min") rMin2 := call_min2 hc
def fMin2 : List D → Store → Res D := fun xs μ => match xs with
  | [.int i, .int j] => .ok (.int (if j < i then j else i)) μ
  | _ => .bad
theorem cbm_min2 : CbM W E rMin2 fMin2 := fun c xs vs Q ok hx w => by
  unfold fMin2 at w
  split at w
  · cases hx with
    | cons h1 h2 =>
      cases h2 with
      | cons h2 h3 =>
        cases h1; cases h2; cases h3
        exact ⟨_, _, rfl, wp_ret w ok (.int _)⟩
  · exact w.elim
end
end Mi
namespace OwnX
open PySem PySem.Spec L2 PyProof.Rows PySem.W
section
variable {prog : Program} {w : World} {A : Around} {E : Value → Shared → Prop} {s : Shared} {K : PySem.W.Frag} {x C f : Addr} {ox : Obj} {od : Option Obj} {y : Value}
end
section
variable {X : Cx} {CX : CXT} {C g : Addr} {n : Nat} {sp : Sp} {E : XK}
end
end OwnX
namespace Mi
open PySem PySem.Spec L2 PyProof.Rows
section
variable {W : Wd} {E : XK} {X : Cx} {c : Cf} {v : V} {d : D} {ds : List D} {e : Expr} {Q : VK} {C : String} {g f : Addr} {m : List D → Store → Res D} {ts ms : List String}
end
end Mi
namespace SetT
open PySem PySem.Spec PyProof.Rows L2
def keyS (e : Int × Value) : Str := match e.2 with | .str k _ => k | _ => Str.empty
def GoodS (P : Program) (w : World) (e : Int × Value) : Prop := ∃ k tk, e.2 = Value.str k tk ∧ e.1 = (PySem.strKind P w).hash k
def SetX (P : Program) (w : World) (h : Heap) (a : Addr) (S : Str → Bool) (n : Nat) : Prop :=
  ∃ o es ep t, h.get? a = some o ∧ o.ExactSet ∧ o.data = .set es ep t ∧ (∀ e ∈ es.toList, GoodS P w e) ∧ (es.toList.map keyS).Nodup ∧ (∀ k, S k = true ↔ k ∈ es.toList.map keyS) ∧
    es.size < scanBound ∧ t.fits es.size = true ∧ es.size = n ∧ Ris t.place.toList ∧ (w.params.followText "set-order" = true ∨ t.led = true)
section
variable {P : Program} {w : World} {h h' : Heap} {a : Addr} {S : Str → Bool} {n : Nat}
theorem SetX.at (R : SetX P w h a S n) (k : ∀ o, h.get? a = some o → h'.get? a = some o) : SetX P w h' a S n := by
  obtain ⟨o, es, ep, t, ho, r⟩ := R
  exact ⟨o, es, ep, t, k o ho, r⟩
theorem SetX.congr {S' : Str → Bool} {n' : Nat} (R : SetX P w h a S n) (e : ∀ k, S k = S' k) (e2 : n = n') : SetX P w h a S' n' := by
  have q : S = S' := funext e
  rw [← q, ← e2]; exact R
theorem goodS_is {e : Int × Value} (g : GoodS P w e) (k : Str) : (PySem.strKind P w).is k e.2 = true ↔ keyS e = k := by
  obtain ⟨k0, tk, h1, _⟩ := g
  unfold keyS
  rw [h1]
  show ((k0 == k) = true) ↔ k0 = k
  exact beq_iff_eq
theorem goodS_elems {l : List (Int × Value)} (g : ∀ e ∈ l, GoodS P w e) : ElemsOf (PySem.strKind P w) l := fun e he => by
  obtain ⟨k, tk, h1, h2⟩ := g e he
  exact ⟨⟨k, by rw [h1]; exact strKind_is P w k tk, h2⟩, by rw [h1] <;> rfl⟩
theorem goodS_mem {l : List (Int × Value)} (g : ∀ e ∈ l, GoodS P w e) (k : Str) : k ∈ l.map keyS ↔ ∃ e ∈ l, (PySem.strKind P w).is k e.2 = true := by
  rw [List.mem_map]
  constructor
  · rintro ⟨e, he, q⟩
    exact ⟨e, he, (goodS_is (g e he) k).2 q⟩
  · rintro ⟨e, he, q⟩
    exact ⟨e, he, (goodS_is (g e he) k).1 q⟩
end
section
variable {P : Program} {w : World} {A : Around} {E : Value → Shared → Prop} {s : Shared} {a : Addr} {S : Str → Bool} {n : Nat}
theorem setX_tail {g : Bool → Sem Unit} (hg : ∀ (b : Bool) (s₁ : Shared) (Q' : Unit → Shared → Prop), Q' () s₁ → wpAny (model P w) A (g b) Q' E s₁)
    {o : Obj} {es : Array (Int × Value)} {ep : Nat} {t : SetTable} (ho : s.heap.get? a = some o) (hex : o.ExactSet) (hd : o.data = .set es ep t)
    {es1 : Array (Int × Value)} {t2 : SetTable} {S' : Str → Bool} (g1 : ∀ e ∈ es1.toList, GoodS P w e) (nd1 : (es1.toList.map keyS).Nodup) (m1 : ∀ k, S' k = true ↔ k ∈ es1.toList.map keyS)
    (hb1 : es1.size < scanBound) (hf2 : t2.fits es1.size = true) (hr : Ris t2.place.toList) (hl : w.params.followText "set-order" = true ∨ t2.led = true) {wasDummy : Bool} {R : Option Bool → Shared → Prop}
    (hR : ∀ h', Heap.SameBut a s.heap h' → SetX P w h' a S' es1.size → R (some true) { s with heap := h' }) :
    wpAny (model P w) A (do
        storeSet a es1 t2
        if (!wasDummy && t2.tooFull) = true then do
            g (relayAll t2 es1 (SetTable.grown es1.size)).2.2
            storeSet a (relayAll t2 es1 (SetTable.grown es1.size)).1 (relayAll t2 es1 (SetTable.grown es1.size)).2.1
            pure (some true)
          else pure (some true)) R E s := by
  refine wpAny_bind (wpAny_storeSet_of ho hd ?_ (fits_of_scanBound hb1))
  have ho1 := store_at (es' := es1) (t' := t2) ho hd
  have sb1 := Heap.SameBut.update s.heap a (Obj.putSet es1 t2)
  split
  · have pm := relayAll_perm t2 es1 (SetTable.grown es1.size)
    have hf3 := relayAll_fits t2 es1 (SetTable.grown es1.size)
    have hr3 := relayAll_ris t2 es1 (SetTable.grown es1.size)
    have hl3 := relayAll_led t2 es1 (SetTable.grown es1.size)
    generalize relayAll t2 es1 (SetTable.grown es1.size) = Z at pm hf3 hr3 hl3 ⊢
    obtain ⟨es2, t3, gave⟩ := Z
    dsimp only at pm hf3 hr3 hl3 ⊢
    have hsz : es2.size = es1.size := by rw [← Array.length_toList, pm.length_eq, Array.length_toList]
    have hb2 : es2.size < scanBound := by rw [hsz]; exact hb1
    refine wpAny_bind (hg _ _ _ ?_)
    refine wpAny_bind (wpAny_storeSet_of ho1 rfl ?_ (fits_of_scanBound hb2))
    have ho2 := store_at (es' := es2) (t' := t3) ho1 rfl
    refine wpAny_pure (hR _ (sb1.trans (Heap.SameBut.update _ a _)) ?_)
    exact ⟨_, es2, _, t3, ho2, hex, rfl, fun e he => g1 e (pm.mem_iff.mp he), (pm.map keyS).nodup_iff.mpr nd1, fun k => (m1 k).trans (pm.map keyS).mem_iff.symm, hb2, hf3, hsz, hr3,
      hl.imp id fun z => by rw [hl3]; exact z⟩
  · exact wpAny_pure (hR _ sb1 ⟨_, es1, _, t2, ho1, hex, rfl, g1, nd1, m1, hb1, hf2, rfl, hr, hl⟩)
theorem setX_add {k : Str} {tk : Tok} {Q : Bool → Shared → Prop} (R : SetX P w s.heap a S n) (room : n + 1 < scanBound)
    (hQ : ∀ h', Heap.SameBut a s.heap h' → SetX P w h' a (fun j => S j || decide (j = k)) (if S k = true then n else n + 1) → Q (!S k) { s with heap := h' }) :
    wpAny (model P w) A (setAddHashed a (.str k tk) ((PySem.strKind P w).hash k)) Q E s := by
  obtain ⟨o, es, ep, t, ho, hex, hd, g, nd, hm, hb, hf, hn, hr, hl⟩ := R
  have hkey : (PySem.strKind P w).is k (.str k tk) = true := strKind_is P w k tk
  have hsc : (Value.str k tk).scannable = true := rfl
  have hel : ElemsOf (PySem.strKind P w) es.toList := goodS_elems g
  unfold setAddHashed setAddHashedIn
  refine wpAny_holding (wpAny_bind (wpAny_setState_of ho hd hf ?_))
  dsimp only
  rw [byScan_of hsc hb hel]
  simp only [↓reduceIte]
  unfold setAddByScan
  refine wpAny_bind ?_
  refine wpAny_bind (wpAny_rule ?_)
  refine wpAny_bind (wpAny_setScan_of hkey ho hd hf hel ?_)
  cases hfi : List.findIdx? (fun e => (PySem.strKind P w).is k e.2) es.toList with
  | some j =>
    dsimp only
    obtain ⟨hj, pj, _⟩ := List.findIdx?_eq_some_iff_getElem.mp hfi
    have hSk : S k = true := (hm k).2 ((goodS_mem (P := P) (w := w) g k).2 ⟨es.toList[j], List.getElem_mem hj, pj⟩)
    refine wpAny_pure (wpAny_pure ?_)
    have q := hQ s.heap (Heap.SameBut.refl a s.heap) ⟨o, es, ep, t, ho, hex, hd, g, nd, fun i => by
      rw [Bool.or_eq_true, decide_eq_true_eq, ← hm i]
      exact ⟨fun z => z.elim id (fun e => e ▸ hSk), .inl⟩, hb, hf, by rw [if_pos hSk]; exact hn, hr, hl⟩
    rw [hSk] at q
    exact q
  | none =>
    dsimp only
    have hnk : k ∉ es.toList.map keyS := fun z => by
      obtain ⟨e, he, q⟩ := (goodS_mem (P := P) (w := w) g k).1 z
      have c := List.findIdx?_eq_none_iff.mp hfi e he
      rw [q] at c
      cases c
    have hSk : S k = false := by
      cases q : S k with
      | false => rfl
      | true => exact absurd ((hm k).1 q) hnk
    have hgw : ∀ (b : Bool) {s₁ : Shared} {Q' : Unit → Shared → Prop}, Q' () s₁ → wpAny (model P w) A (match b with | true => rule "set.scan.the-table-gave-way" | false => pure ()) Q' E s₁ :=
      fun b s₁ Q' q => by cases b <;> first | exact wpAny_pure q | exact wpAny_rule q
    have pm := layNew_perm t es ((PySem.strKind P w).hash k) (.str k tk)
    have hf1 := layNew_fits t es ((PySem.strKind P w).hash k) (.str k tk)
    have hr1 := layNew_ris t es ((PySem.strKind P w).hash k) (.str k tk) hr
    have hl1 := layNew_led t es ((PySem.strKind P w).hash k) (.str k tk)
    generalize layNew t es ((PySem.strKind P w).hash k) (.str k tk) = Z at pm hf1 hr1 hl1 ⊢
    obtain ⟨es1, t1, wasDummy, gave⟩ := Z
    dsimp only at pm hf1 hr1 hl1 ⊢
    rw [Array.toList_push] at pm
    have pc : es1.toList.Perm (((PySem.strKind P w).hash k, Value.str k tk) :: es.toList) := pm.trans (List.perm_append_singleton _ _)
    have pk : (es1.toList.map keyS).Perm (k :: es.toList.map keyS) := pc.map keyS
    have g1 : ∀ e ∈ es1.toList, GoodS P w e := fun e he => by
      rcases List.mem_cons.mp (pc.mem_iff.mp he) with z | z
      · rw [z]; exact ⟨k, tk, rfl, rfl⟩
      · exact g e z
    have nd1 : (es1.toList.map keyS).Nodup := pk.nodup_iff.mpr (List.nodup_cons.mpr ⟨hnk, nd⟩)
    have m1 : ∀ i, (S i || decide (i = k)) = true ↔ i ∈ es1.toList.map keyS := fun i => by
      rw [Bool.or_eq_true, decide_eq_true_eq, hm i, pk.mem_iff, List.mem_cons]
      exact Or.comm
    have hsz : es1.size = n + 1 := by rw [← Array.length_toList, pc.length_eq, List.length_cons, Array.length_toList, hn]
    have hb1 : es1.size < scanBound := by rw [hsz]; exact room
    have hled : w.params.followText "set-order" = true ∨ t1.led = true := hl.imp id fun z => by rw [hl1]; exact z
    have fin : ∀ h', Heap.SameBut a s.heap h' → SetX P w h' a (fun j => S j || decide (j = k)) es1.size → Q true { s with heap := h' } := fun h' sb r => by
      have q := hQ h' sb
      rw [hSk] at q
      rw [hsz] at r
      exact q r
    refine wpAny_bind (hgw _ ?_)
    split
    · refine wpAny_bind ?_
      rw [hashByValue_scannable 8 hsc]
      refine wpAny_pure ?_
      refine setX_tail ?_ ho hex hd g1 nd1 m1 hb1 ?_ ?_ ?_ ?_
      · intro b s₁ Q' q; cases b <;> first | exact wpAny_pure q | exact wpAny_rule q
      · first | (split <;> first | exact hf1 | exact SetTable.fits_plain_off hf1) | exact hf1
      · first | (split <;> exact hr1) | exact hr1
      · first | (split <;> exact hled) | exact hled
      · intro h' sb r; dsimp only; exact wpAny_pure (fin h' sb r)
    · refine wpAny_bind (wpAny_pure ?_)
      simp only [↓reduceIte]
      refine setX_tail ?_ ho hex hd g1 nd1 m1 hb1 hf1 hr1 hled ?_
      · intro b s₁ Q' q; cases b <;> first | exact wpAny_pure q | exact wpAny_rule q
      · intro h' sb r; dsimp only; exact wpAny_pure (fin h' sb r)
theorem setX_fresh {h : Heap} (P : Program) (w : World) : SetX P w (h.push { cls := .type "set", dict := none, data := .set #[] 0 (.fresh 0 0 (!w.params.followText "set-order")) }) h.objs.size (fun _ => false) 0 :=
  ⟨_, #[], 0, _, Heap.get?_push_size _ rfl, ⟨rfl, rfl, rfl⟩, rfl, (fun e he => by simp at he), (by simp), (fun k => by simp), (by decide), (by rfl), rfl, List.Pairwise.nil, by
    show _ ∨ (!w.params.followText "set-order") = true
    cases w.params.followText "set-order"
    · exact .inr rfl
    · exact .inl rfl⟩
end
abbrev HoldX (P : Program) (w : World) (S : Addr) (l : List Str) (h : Heap) : Prop := SetX P w h S (fun k => (ddS l).any (· == k)) (ddS l).length
section
variable {prog : Program} {w : World} {A : Around} {R : Result → Shared → Prop} {J : Addr} {fp wr : List Addr} {G : Array GenState → Array GenState → Prop} {n : Nat} {T : Nat → Value → Prop} {St : Nat → Shared → Prop}
theorem loop_putX (W : WalksS prog w A.in1 J fp wr G n T St) {S : Addr} (far : S ∉ fp) {xs : List Str} (hx : xs.length = n) (few : n + 1 < scanBound) (hT : ∀ i v, T i v → ∃ t, v = .str (xs.getD i Str.empty) t) :
    ∀ (m i : Nat) (s : Shared), i + m = n → St i s → HoldX prog w S (xs.take i) s.heap → (∀ s', Moved (S :: wr) G s s' → HoldX prog w S xs s'.heap → R (.ok (.ret .none)) s') → codeAny (model prog w) A (.builtin "set.update.loop" ⟨[.ref S, .ref J], []⟩) R s
  | 0, i, s, hi, st, hs, hR => by
    obtain rfl : i = n := by omega
    refine codeAny_builtin F.entry_set_update_loop (Around.under_plainId F.plain_set_update_loop _ ▸ ?_)
    refine wpAny_bind (W.done s _ _ st fun s' mv => wpAny_pure (hR s' (mv.mono fun b hb => List.mem_cons_of_mem _ hb) ?_))
    rw [List.take_of_length_le (Nat.le_of_eq hx)] at hs
    exact hs.at fun o ho => mv.heap S o (fun z => far (W.sub _ z)) ho
  | m + 1, i, s, hi, st, hs, hR => by
    have lt : i < xs.length := by omega
    refine codeAny_builtin F.entry_set_update_loop (Around.under_plainId F.plain_set_update_loop _ ▸ ?_)
    refine wpAny_bind (W.item i s _ _ (hx ▸ lt) st fun v s' hP st' mv => ?_)
    obtain ⟨t, rfl⟩ := hT i v hP
    have hs' : HoldX prog w S (xs.take i) s'.heap := hs.at fun o ho => mv.heap S o (fun z => far (W.sub _ z)) ho
    refine wpAny_bind (wpAny_holding ?_)
    unfold setAdd
    refine wpAny_holding (wpAny_bind ((PySem.strKind prog w).pyHash (k := xs.getD i Str.empty) (strKind_is _ _ _ _) ?_))
    have sc : (ddS (xs.take i)).length + 1 < scanBound := by
      have a1 := ddS_le (xs.take i)
      rw [List.length_take] at a1
      omega
    refine setX_add (P := prog) (w := w) (s := { s' with toks := s'.toks + 1 }) hs' sc fun h2 sb hs2 => ?_
    have hs3 : HoldX prog w S (xs.take (i + 1)) h2 := by
      show SetX prog w h2 S (fun k => (ddS (xs.take (i + 1))).any (· == k)) (ddS (xs.take (i + 1))).length
      rw [take_put lt]
      exact hs2.congr (fun k => hold_app _ _ k) (size_app _ _)
    refine wpAny_pure ⟨plainId_quiet F.plain_set_update_loop _, loop_putX W far hx few hT m (i + 1) _ (by omega) (W.frame _ s' _ _ st' (Nat.le_succ _) fun b hb o e => (sb.2 b fun z => far (z ▸ hb)).trans e) hs3 fun s4 mv4 hs4 => hR s4 (Moved.trans W.gtrans ((mv.mono fun b hb => List.mem_cons_of_mem _ hb).then_heap (Nat.le_succ _) fun b o hb e => (sb.2 b fun z => hb (by rw [z]; exact List.mem_cons_self)).trans e) mv4) hs4⟩
end
end SetT
namespace SetT
open PySem PySem.Spec PyProof.Rows L2
section
variable {prog : Program} {w : World} {A : Around} {E : Value → Shared → Prop} {s : Shared}
theorem call_setX {l : Addr} {us : Array Value} {xs : List Str} {Q : Value → Shared → Prop} (hh : A.handled = none) (hl : s.heap.IsList l us ∨ s.heap.IsTuple l us) (hi : StrsAre us.toList xs) (few : xs.length + 1 < scanBound)
    (h : ∀ (h' : Heap) (tk : Nat), HoldX prog w s.heap.objs.size xs h' → (∀ b o, b < s.heap.objs.size → s.heap.get? b = some o → h'.get? b = some o) → Q (.ref s.heap.objs.size) { s with heap := h', toks := tk }) :
    wpAny (model prog w) A (call (.type "set") [.ref l]) Q E s := by
  obtain ⟨c, tl, hmro⟩ := PySem.F.called_set.mro
  have g1 := PySem.F.called_set.made
  have g2 := PySem.F.called_set.sub
  refine wpAny_call (codeAny_of_tree (show wpAny _ _ (callAny (.type "set") _) _ _ _ from wpAny_pure ⟨Code.quiet_builtin _ (by decide +kernel), codeAny_builtin PySem.F.entry_type_call ?_⟩))
  rw [Around.under_plain (weight_type_call_type "set" [.ref l] []) rfl]
  have g3 := PySem.F.called_set.notType
  have g4 := PySem.F.called_set.canCreate
  have g5 := PySem.F.typeCall_set_1 (.ref l)
  repeat (any_goals (first | assumption | wp_step))
  refine codeAny_mono (code_set_led1 (.ref l) (E := E) (Q₁ := fun x s1 => x = .ref s.heap.objs.size ∧ s1 = { s with heap := s.heap.push (noSet (!w.params.followText "set-order")) }) ⟨rfl, rfl⟩) fun r s1 hr => ?_
  rcases r with e | (x | _ | _ | _) <;> first | exact hr | exact hr.elim | skip
  obtain ⟨rfl, rfl⟩ := hr
  have hS : (s.heap.push (noSet (!w.params.followText "set-order"))).get? s.heap.objs.size = some (noSet (!w.params.followText "set-order")) := Heap.get?_push_size _ rfl
  have hT : Shared.TypeIs { s with heap := s.heap.push (noSet (!w.params.followText "set-order")) } (.ref s.heap.objs.size) "set" := ⟨_, hS, rfl⟩
  have g6 := PySem.F.called_set.init.lookup
  have g7 := PySem.F.called_set.init.bind (.ref s.heap.objs.size)
  repeat (any_goals (first | assumption | wp_step))
  refine codeAny_mono (codeAny_call_builtin (R := wants (fun r s2 => r = .none ∧ ∃ h' tk, s2 = { s with heap := h', toks := tk } ∧ HoldX prog w s.heap.objs.size xs h' ∧ (∀ b o, b < s.heap.objs.size → s.heap.get? b = some o → h'.get? b = some o)) E)
    PySem.F.called_set.init.plain PySem.F.entry_set_init (check_set_init_1 hT ?_)) fun r2 s2 hr2 => ?_
  · have fin : ∀ (ob : Obj), wpAny (model prog w) A.in1.in1 (runValue (.builtin "set.update.loop" ⟨[.ref s.heap.objs.size, .ref (s.heap.push (noSet (!w.params.followText "set-order"))).objs.size], []⟩)) (fun _ s2 => ∃ h' tk, s2 = { s with heap := h', toks := tk } ∧ HoldX prog w s.heap.objs.size xs h' ∧ (∀ b o, b < s.heap.objs.size → s.heap.get? b = some o → h'.get? b = some o)) E { s with heap := (s.heap.push (noSet (!w.params.followText "set-order"))).push ob } → True := fun _ _ => trivial
    rcases hl with hl | hl
    · obtain ⟨⟨k1, k2, k3, k4⟩, ho, hc, nl, hd⟩ := hl
      simp only at hc hd
      subst hc hd
      have ho' : (s.heap.push (noSet (!w.params.followText "set-order"))).get? l = some { cls := .type "list", dict := k2, data := .seq us nl, slots := k4 } := Heap.get?_push_of_some _ ho
      have g8 := PySem.F.sub_list_set
      have g9 := PySem.F.sub_list_frozenset
      have ne : (Value.type "list" == Value.type "dict") = false := by decide
      have hl1 : (s.heap.push (noSet (!w.params.followText "set-order"))).IsList l us := ⟨_, ho', rfl, nl, rfl⟩
      unfold Builtin.«set.__init__» noKeywords Builtin.Frozenset.updateFrom
      generalize hPI : pyIter = PI
      wp_walk
      subst hPI
      refine wpAny_pyIter_list hl1 (wpAny_bind (wpAny_runValue ?_))
      have lt : l < s.heap.objs.size := Heap.lt_size ho
      have hh3 : A.in1.in1.in1.handled = none := by simp [hh]
      have sz : (s.heap.push (noSet (!w.params.followText "set-order"))).objs.size = s.heap.objs.size + 1 := Heap.size_push _ _
      have ne1 : l ≠ (s.heap.push (noSet (!w.params.followText "set-order"))).objs.size := by rw [sz]; exact Nat.ne_of_lt (Nat.lt_succ_of_lt lt)
      have far : s.heap.objs.size ∉ [(s.heap.push (noSet (!w.params.followText "set-order"))).objs.size, l] := by
        rw [sz]
        intro z
        rcases List.mem_cons.mp z with z | z
        · exact absurd z (Nat.ne_of_lt (Nat.lt_succ_self _))
        · exact absurd (List.mem_singleton.mp z) (Nat.ne_of_gt lt)
      have hx : xs.length = us.size := by rw [← StrsAre.len_eq hi, Array.length_toList]
      refine loop_putX ((Walks.list hh3 _ l ne1 us).toS) far hx (by omega) (fun i v hv => str_at hi i v ((Array.getElem?_toList).trans hv)) us.size 0 _ (Nat.zero_add _) ⟨⟨_, Heap.get?_push_size _ rfl, rfl, rfl⟩, hl1.push _⟩ ?_ ?_
      · exact ((setX_fresh (h := s.heap) prog w).at fun o e => Heap.get?_push_of_some _ e).congr (fun _ => rfl) rfl
      · rintro ⟨h2, g2', d2, t2, o2⟩ mv hs2
        have eg : g2' = s.gens := mv.gens
        have ed : d2 = s.drawn := mv.drawn
        have eo : o2 = s.os := mv.os
        subst eg ed eo
        refine wpAny_pure (wpAny_pure ⟨rfl, h2, t2, rfl, hs2, fun b o hb e => mv.heap b o (fun z => ?_) (Heap.get?_push_of_some _ (Heap.get?_push_of_some _ e))⟩)
        rw [sz] at z
        rcases List.mem_cons.mp z with z | z
        · exact absurd z (Nat.ne_of_lt hb)
        · exact absurd (List.mem_singleton.mp z) (Nat.ne_of_lt (Nat.lt_succ_of_lt hb))
    · obtain ⟨⟨k1, k2, k3, k4⟩, ho, hc, nl, hd⟩ := hl
      simp only at hc hd
      subst hc hd
      have ho' : (s.heap.push (noSet (!w.params.followText "set-order"))).get? l = some { cls := .type "tuple", dict := k2, data := .seq us nl, slots := k4 } := Heap.get?_push_of_some _ ho
      have g8 := PySem.F.sub_tuple_set
      have g9 := PySem.F.sub_tuple_frozenset
      have ne : (Value.type "tuple" == Value.type "dict") = false := by decide
      have hl1 : (s.heap.push (noSet (!w.params.followText "set-order"))).IsTuple l us := ⟨_, ho', rfl, nl, rfl⟩
      unfold Builtin.«set.__init__» noKeywords Builtin.Frozenset.updateFrom
      generalize hPI : pyIter = PI
      wp_walk
      subst hPI
      refine wpAny_pyIter_tuple hl1 (wpAny_bind (wpAny_runValue ?_))
      have lt : l < s.heap.objs.size := Heap.lt_size ho
      have hh3 : A.in1.in1.in1.handled = none := by simp [hh]
      have sz : (s.heap.push (noSet (!w.params.followText "set-order"))).objs.size = s.heap.objs.size + 1 := Heap.size_push _ _
      have ne1 : l ≠ (s.heap.push (noSet (!w.params.followText "set-order"))).objs.size := by rw [sz]; exact Nat.ne_of_lt (Nat.lt_succ_of_lt lt)
      have far : s.heap.objs.size ∉ [(s.heap.push (noSet (!w.params.followText "set-order"))).objs.size, l] := by
        rw [sz]
        intro z
        rcases List.mem_cons.mp z with z | z
        · exact absurd z (Nat.ne_of_lt (Nat.lt_succ_self _))
        · exact absurd (List.mem_singleton.mp z) (Nat.ne_of_gt lt)
      have hx : xs.length = us.size := by rw [← StrsAre.len_eq hi, Array.length_toList]
      refine loop_putX ((Walks.tuple hh3 _ l ne1 us).toS) far hx (by omega) (fun i v hv => str_at hi i v ((Array.getElem?_toList).trans hv)) us.size 0 _ (Nat.zero_add _) ⟨⟨_, Heap.get?_push_size _ rfl, rfl, rfl⟩, hl1.push _⟩ ?_ ?_
      · exact ((setX_fresh (h := s.heap) prog w).at fun o e => Heap.get?_push_of_some _ e).congr (fun _ => rfl) rfl
      · rintro ⟨h2, g2', d2, t2, o2⟩ mv hs2
        have eg : g2' = s.gens := mv.gens
        have ed : d2 = s.drawn := mv.drawn
        have eo : o2 = s.os := mv.os
        subst eg ed eo
        refine wpAny_pure (wpAny_pure ⟨rfl, h2, t2, rfl, hs2, fun b o hb e => mv.heap b o (fun z => ?_) (Heap.get?_push_of_some _ (Heap.get?_push_of_some _ e))⟩)
        rw [sz] at z
        rcases List.mem_cons.mp z with z | z
        · exact absurd z (Nat.ne_of_lt hb)
        · exact absurd (List.mem_singleton.mp z) (Nat.ne_of_lt (Nat.lt_succ_of_lt hb))
  · rcases r2 with e | (x | _ | _ | _) <;> first | exact hr2 | exact hr2.elim | skip
    obtain ⟨rfl, h2, t2, rfl, hs2, kp⟩ := hr2
    repeat (any_goals (first | assumption | wp_step))
    exact h _ _ hs2 kp
theorem strs_vals {P : Program} {w : World} : ∀ {vs : List Value} {es : List (Int × Value)}, vs.Perm (es.map (·.2)) → (∀ e ∈ es, GoodS P w e) → StrsAre vs (vs.map fun v => keyS (0, v)) := fun {vs es} pm g => by
  have : ∀ v ∈ vs, ∃ k tk, v = Value.str k tk := fun v hv => by
    obtain ⟨e, he, q⟩ := List.mem_map.mp (pm.mem_iff.mp hv)
    obtain ⟨k, tk, h1, _⟩ := g e he
    exact ⟨k, tk, by rw [← q]; exact h1⟩
  clear pm
  induction vs with
  | nil => exact .nil
  | cons v vs ih =>
    obtain ⟨k, tk, rfl⟩ := this v List.mem_cons_self
    exact .cons _ tk (ih fun u hu => this u (List.mem_cons_of_mem _ hu))
theorem sorted_setX {a : Addr} {S : Str → Bool} {n : Nat} {Q : Value → Shared → Prop} (R : SetX prog w s.heap a S n) (hh : A.handled = none) (h64 : n < 64)
    (hQ : ∀ s' p (out : Array Value) (c : Nat) (ys : List Str), (∀ b o, s.heap.get? b = some o → s'.heap.get? b = some o) → s'.gens = s.gens → s'.os = s.os → s.heap.objs.size ≤ p →
      s'.heap.get? p = some (seqObj "list" out c) → StrsAre out.toList ys → sortedS ys = true → ys.Nodup → (∀ k, k ∈ ys ↔ S k = true) → ys.length = n → Q (.ref p) s') :
    wpAny (model prog w) A (call (.builtin "sorted") [.ref a]) Q E s := by
  obtain ⟨o, es, ep, t, ho, hex, hd, g, nd, hm, hb, hf, hn, hr, hl⟩ := R
  refine Calls.call_function_entry kind_sorted plain_sorted entry_sorted (args_sorted1 _) ?_
  unfold Builtin.«sorted»
  refine wpAny_bind (m := checkCount "sorted" 1 1 _) (wpAny_pure ?_)
  refine wpAny_bind (collect_set (A := A.in1) hh ⟨o, ho, hex.1, hd⟩ hf hb hr hl fun s1 vs k1 hz g1 o1 pm => ?_)
  have hvl : vs.length = n := by rw [pm.length_eq, List.length_map, Array.length_toList]; exact hn
  have hS := strs_vals pm g
  have pk : (vs.map fun v => keyS (0, v)).Perm (es.toList.map keyS) := by
    have q := pm.map fun v => keyS (0, v)
    rw [List.map_map] at q
    exact q
  refine wpAny_bind (wpAny_newList ?_ (by rw [hvl, sizeLine_eq]; omega))
  have hoL : (s1.heap.push (seqObj "list" vs.toArray 0)).get? s1.heap.objs.size = some (seqObj "list" vs.toArray 0) := Heap.get?_push_size _ rfl
  refine wpAny_bind (wpAny_holding (wpAny_call_entry slot_list_sort ⟨_, hoL, rfl⟩ entry_list_sort
    (list_sort_treeK strKind_oneLt (s := { s1 with heap := s1.heap.push (seqObj "list" vs.toArray 0) }) hoL hS.keysOf (fun v1 v2 rest e => keyKind_strs (by rw [← e]; exact hS)) (by rw [hvl]; exact h64) fun st' hp hs => ⟨_, rfl, ?_⟩) (args_list_sort _)))
  obtain ⟨ys, z1, z2, z3⟩ := sorted_out_str hS hp hs
  obtain ⟨e', he'⟩ := sortedHeap_at (vs := vs) (out := (arrOf st').map (·.2)) hoL
  have pn : ys.Perm (es.toList.map keyS) := z2.trans pk
  refine wpAny_pure ⟨_, rfl, hQ _ s1.heap.objs.size ((arrOf st').map (·.2)) e' ys (fun b u e => ?_) g1 o1 hz he' z1 z3 (pn.nodup_iff.mpr nd) (fun k => by rw [pn.mem_iff, ← hm k]) ?_⟩
  · have q := k1 b u e
    have hlt := Heap.lt_size q
    show (sortedHeap (s1.heap.push (seqObj "list" vs.toArray 0)) s1.heap.objs.size vs ((arrOf st').map (·.2))).get? b = some u
    rw [sortedHeap_old (Nat.ne_of_lt hlt) (by rw [size_push']; exact Nat.lt_succ_of_lt hlt)]
    exact Heap.get?_push_of_some _ q
  · rw [pn.length_eq, List.length_map, Array.length_toList]; exact hn
end
end SetT
namespace SetT
open PySem PySem.Spec PyProof.Rows L2
theorem ddS_nodup (l : List Str) : (ddS l).Nodup := by
  refine tail_ind (P := fun l => (ddS l).Nodup) (by simp [ddS]) (fun a x ih => ?_) l
  rw [ddS_app]
  split
  · exact ih
  · rename_i h
    rw [List.nodup_append]
    refine ⟨ih, by simp, fun y hy z hz => ?_⟩
    rw [List.mem_singleton.mp hz]
    intro e
    subst e
    exact h (List.any_eq_true.mpr ⟨y, hy, by simp⟩)
theorem ddS_in {l : List Str} {y : Str} : y ∈ ddS l ↔ y ∈ l := by
  have h := ddS_mem l y
  have a1 : y ∈ ddS l ↔ (ddS l).any (· == y) = true := by rw [List.any_eq_true]; exact ⟨fun h => ⟨y, h, by simp⟩, fun ⟨z, hz, e⟩ => by rw [← beq_iff_eq.mp e]; exact hz⟩
  have a2 : y ∈ l ↔ l.any (· == y) = true := by rw [List.any_eq_true]; exact ⟨fun h => ⟨y, h, by simp⟩, fun ⟨z, hz, e⟩ => by rw [← beq_iff_eq.mp e]; exact hz⟩
  rw [a1, a2, h]
end SetT
namespace Mi
open PySem PySem.Spec L2 PyProof.Rows
section
variable {W : Wd} {E : XK} {X : Cx} {c : Cf} {v : V} {d : D} {ds : List D} {e : Expr} {st : Stmt} {Q : VK}
def tSortSet (K : PySem.W.Frag) (ta : TE) : TE := fun σ H Q => ta σ H fun x H1 => ∃ (l : Addr) (xs : List Str), x = .ref l ∧ (SqL K H1 l (xs.map V.str) ∨ SqT K H1 l (xs.map V.str)) ∧ (xs.length < 64 ∨ ((SetT.ddS xs).length < 64 ∧ xs.length ≤ 1000)) ∧ ∀ ys p, Cs.SortOf (SetT.ddS xs) ys → H1 p = none → Q (.ref p) (upd H1 p (.lst (ys.map V.str)))
theorem pe_sortSet {a : Expr} {ta : TE} {p p2 q pos : Pos} (hc : X.calm = true) (hg : Gl X "sorted") (hm : X.mg "sorted" = none) (hg2 : Gl X "set") (hm2 : X.mg "set" = none) (ha : PE X a ta)
    (na : starEach [a] X.env = (false, eval a X.env) :: starEach [] X.env := by rfl) : PE X (.Call (.Name "sorted" p) [.Call (.Name "set" p2) [a] [] q] [] pos) (tSortSet X.K ta) := by
  refine ⟨fun pins s σ H Q I h => Call_ (ld_blt I hg hm boot_sorted (PyProof.Rows.callWith_builtin1 (PyProof.Rows.args_cons (Call_ (ld_blt I hg2 hm2 boot_set ?_)) rfl) rfl rfl))⟩
  refine PyProof.Rows.callWith_type1 (PyProof.Rows.args_cons (thn (ha.run pins s σ H _ I h) fun v s1 ⟨x, H1, I1, r1, l, xs, ex, hq, h1, q1⟩ => PyProof.Rows.args_nil ?_) na) na rfl
  subst ex
  cases r1
  have le := SetT.ddS_le xs
  have go : ∀ (us : Array Value), (s1.heap.IsList l us ∨ s1.heap.IsTuple l us) → StrsAre us.toList xs → wpAny (model X.prog X.w) X.A (call (.type "set") [.ref l]) (fun v s' => wpAny (model X.prog X.w) X.A (call (.builtin "sorted") [v]) (EP X pins σ Q) X.xe s') X.xe s1 := by
    intro us hl hs
    refine SetT.call_setX (I1.ok.hd hc) hl hs (by unfold scanBound; omega) fun h2 tk hS hk => ?_
    have I2 : Inv X pins σ H1 { s1 with heap := h2, toks := tk } := I1.kept fun b o e => hk b o (Heap.lt_size e) e
    have e2 : ({ s1 with heap := h2, toks := tk } : Shared).heap = h2 := rfl
    rw [← e2] at hS
    generalize ({ s1 with heap := h2, toks := tk } : Shared) = s2 at I2 hS ⊢
    refine SetT.sorted_setX hS (I1.ok.hd hc) (by omega) fun s' p out c ys k g o hp hg hi hs hn hm hl => ?_
    have hlen : (ys.map V.str).length ≤ sizeLine := by rw [List.length_map, hl, sizeLine_eq]; omega
    have hn2 : H1 p = none := I2.hok.fresh hp
    have J : Inv X pins σ (upd H1 p (.lst (ys.map V.str))) { s2 with heap := s'.heap, gens := s'.gens, drawn := s'.drawn, toks := s'.toks } :=
      I2.call (ch := []) (Un.laid k hp hn2) (I2.hok.laid k hp ⟨hlen, out.toList, c, vals_of_strs hi, hg⟩) (by rw [g]; exact I2.bare) (fun _ z => nomatch z)
    have e : s' = { s2 with heap := s'.heap, gens := s'.gens, drawn := s'.drawn, toks := s'.toks } := by
      cases s'
      cases s2
      cases o
      rfl
    rw [e]
    refine ⟨.ref p, _, J, rfl, q1 ys p ⟨?_, hs⟩ hn2⟩
    refine (List.perm_ext_iff_of_nodup hn (SetT.ddS_nodup xs)).mpr fun k => (hm k).trans ?_
    rw [List.any_eq_true]
    exact ⟨fun ⟨z, hz, e⟩ => by rw [← beq_iff_eq.mp e]; exact hz, fun h => ⟨k, h, by simp⟩⟩
  rcases hq with hq | hq
  · obtain ⟨its, r, pl, hz⟩ := I1.list hq
    exact wpAny_mono (go its.toArray (.inl pl.isList) (strs_of r)) (fun v s' h => PyProof.Rows.args_nil h) fun _ _ h => h
  · obtain ⟨its, r, pl, hz⟩ := I1.tuple hq
    exact wpAny_mono (go its.toArray (.inr pl) (strs_of r)) (fun v s' h => PyProof.Rows.args_nil h) fun _ _ h => h
def seqA (μ : Store) (x : D) : Option (List D) := match seqL μ x with
  | some ds => some ds
  | none => seqT x
theorem seqA_ok {x : D} (ok : Ok W c) (h : Dp W c v x) (e : seqA c.μ x = some ds) : ∃ a xs, v = .ref a ∧ (SqL W.K c.H a xs ∨ SqT W.K c.H a xs) ∧ DpA W c xs ds := by
  unfold seqA at e
  split at e
  · rename_i ds' e1
    cases Option.some.inj e
    obtain ⟨a, xs, e2, h1, h2⟩ := seqL_ok ok h e1
    exact ⟨a, xs, e2, .inl h1, h2⟩
  · obtain ⟨a, xs, e2, h1, h2⟩ := seqT_ok ok h e
    exact ⟨a, xs, e2, .inr h1, h2⟩
noncomputable def mSortSet (b : Bool) (a : ME) : ME := fun ρ μ => (a ρ μ).bind fun x μ => match (seqA μ x).bind strsD with
  | some ss => if ss.length < 64 ∨ ((SetT.ddS ss).length < 64 ∧ ss.length ≤ 1000) then newL b ((sortS (SetT.ddS ss)).map .str) μ else .bad
  | none => .bad
theorem me_sortSet {b : Bool} {a : ME} (h : PE X e (tSortSet W.K (tE W E a))) : PE X e (tE W E (mSortSet b a)) := pe_weak h fun σ H Q ⟨ρ, c, hH, ok, env, w⟩ =>
  ⟨ρ, c, hH, ok, env, wp_bind w fun v x c1 s1 ok1 r1 w1 => by
    split at w1
    · rename_i ss es
      split at w1
      · rename_i hl
        cases e1 : seqA c1.μ x with
        | none => rw [e1] at es; cases es
        | some ds =>
          rw [e1] at es
          obtain ⟨a, us, rfl, h1, h2⟩ := seqA_ok ok1 r1 e1
          have ev := strsD_ok h2 es
          subst ev
          refine ⟨a, ss, rfl, h1, hl, fun ys p hs hn => ?_⟩
          rw [sortS_eq hs] at w1
          exact wp_newL w1 ok1 dpa_strs hn
      · exact w1.elim
    · exact w1.elim⟩
end
end Mi
namespace Mi
open PySem PySem.Spec L2 PyProof.Rows
section
variable {W : Wd} {E : XK} {X : Cx} {c : Cf} {v : V} {d : D} {ds : List D} {e : Expr} {es : List Expr} {st : Stmt} {Q : VK}
end
end Mi
namespace Mi
open PySem PySem.Spec L2 PyProof.Rows
section
variable {W : Wd} {E : XK} {X : Cx} {c : Cf} {v : V} {d : D} {ds : List D} {e : Expr} {Q : VK}
end
end Mi
namespace Mi
open PySem PySem.Spec L2 PyProof.Rows
section
variable {prog : Program} {w : World} {A : Around} {E : Value → Shared → Prop} {s : Shared}
end
section
variable {X : Cx}
end
section
variable {W : Wd} {E : XK} {X : Cx} {e : Expr}
def mRevA (b : Bool) (a : ME) : ME := fun ρ μ => (a ρ μ).bind fun x μ => match x with
  | .tup ds => .ok (.tup ds.reverse) μ
  | x => match seqL μ x with
    | some ds => newL b ds.reverse μ
    | none => .bad
end
end Mi
namespace Mi
open PySem PySem.Spec L2 PyProof.Rows
set_option maxRecDepth 8000 in
section
variable {X : Cx}
end
section
variable {W : Wd} {E : XK} {X : Cx} {st : Stmt}
end
end Mi
namespace OwnX
open PySem PySem.Spec L2 PyProof.Rows PySem.W
section
variable {prog : Program} {w : World} {A : Around} {E : Value → Shared → Prop} {s : Shared} {K : PySem.W.Frag} {x C f : Addr} {ox : Obj} {od : Option Obj} {y : Value}
end
section
variable {X : Cx} {CX : CXT} {C g : Addr} {n : Nat} {sp : Sp} {E : XK}
end
end OwnX
namespace Mi
open PySem PySem.Spec L2 PyProof.Rows
section
variable {W : Wd} {E : XK} {X : Cx} {c : Cf} {v : V} {d : D} {ds : List D} {e : Expr} {Q : VK} {C : String} {g f : Addr} {m : List D → Store → Res D}
end
end Mi
namespace LEq
open PySem PySem.SeqAt
open AutoSeq1 (wpAny_loadPart')
open MeetsSeq MeetsSeq2 MeetsSeq3 SeqRoads2
section
variable {prog : Program} {w : World} {A : Around} {R : Result → Shared → Prop}
end
section
variable {prog : Program} {w : World} {A : Around} {E : Value → Shared → Prop} {s : Shared}
end
end LEq
namespace OwnX
open PySem PySem.Spec L2 PyProof.Rows PySem.W
section
variable {X : Cx} {CX : CXT} {C g : Addr} {n : Nat} {sp : Sp} {E : XK}
end
section
variable {X : Cx} {CX : CXT} {C g : Addr} {n : Nat} {sp : Sp} {E : XK}
end
end OwnX
namespace Mi
open PySem PySem.Spec L2 PyProof.Rows
section
variable {W : Wd} {E : XK} {X : Cx} {c : Cf} {v : V} {d : D} {ds : List D} {e : Expr} {Q : VK} {C : String} {g f : Addr} {m : List D → Store → Res D}
open Classical in
open Classical in
end
end Mi
namespace Mi
open PySem PySem.Spec L2
open Classical
section
variable {W : Wd} {E : XK} {X : Cx} {v : V} {d : D} {ds : List D} {e tg iter : Expr} {st : Stmt} {Q : VK}
end
end Mi
namespace OwnX
open PySem PySem.Spec L2 PyProof.Rows PySem.W
section
variable {prog : Program} {w : World} {A : Around} {E : Value → Shared → Prop} {s : Shared} {K : PySem.W.Frag} {x y C f : Addr} {ox oy : Obj} {od ody : Option Obj}
end
section
variable {X : Cx} {CX : CXT} {C g : Addr} {n : Nat} {sp : Sp} {E : XK}
end
end OwnX
namespace Mi
open PySem PySem.Spec L2 PyProof.Rows
section
variable {W : Wd} {E : XK} {X : Cx} {c : Cf} {v : V} {d : D} {C : String} {g f : Addr} {m : List D → Store → Res D}
end
end Mi
namespace Cs
open PySem PySem.Spec L2
section
variable {X : Cx}
end
end Cs
namespace Mi
open PySem PySem.Spec L2 PyProof.Rows
section
variable {W : Wd} {E : XK} {X : Cx} {c : Cf} {v : V} {d : D} {ds : List D}
end
end Mi
namespace Cs
open PySem PySem.Spec L2
section
variable {X : Cx}
end
end Cs
namespace Mi
open PySem PySem.Spec L2 PyProof.Rows
section
variable {W : Wd} {E : XK} {X : Cx} {c : Cf} {v : V} {d : D} {ds : List D}
end
end Mi
namespace Mi
open PySem PySem.Spec L2 PyProof.Rows
section
variable {W : Wd} {E : XK}
end
end Mi
namespace KeyX
open PySem PySem.Spec L2 PyProof.Rows LamX
end KeyX
namespace KeyX
open PySem PySem.Spec L2 PyProof.Rows LamX
section
variable {X : Cx} {pins : List (Addr × Obj)} {σ : L2.St} {H : Hp} {s : Shared}
def keyLen (ts : List Str) : PyData := .tuple [.int ts.length, .tuple (ts.map .str)]
end
end KeyX
namespace KeyX
open PySem PySem.Spec L2 PyProof.Rows LamX
end KeyX
namespace Mi
open PySem PySem.Spec L2 PyProof.Rows LamX KeyX
section
variable {W : Wd} {E : XK} {X : Cx} {c : Cf} {v : V} {d : D} {ds : List D} {e : Expr}
noncomputable def leLen : List Str → List Str → Bool := PySem.W.dataLe false keyLen
def tupsW : List D → Option (List (List Str))
  | [] => some []
  | .tup ds :: r => match strsD ds, tupsW r with
    | some t, some ts => some (t :: ts)
    | _, _ => none
  | _ :: _ => none
noncomputable def mSortLen (b : Bool) (a : ME) : ME := fun ρ μ => (a ρ μ).bind fun x μ => match (seqL μ x).bind tupsW with
  | some tss => newL b ((tss.mergeSort leLen).map fun t => .tup (t.map .str)) μ
  | none => .bad
end
end Mi
namespace Mi
open PySem PySem.Spec L2 PyProof.Rows
section
variable {W : Wd} {E : XK}
end
end Mi
namespace Pl
open PySem PySem.Spec L2 Mi
set_option checkBinderAnnotations false in
def Rp {α : Type} (r : Res α) [Q : α → Store → Prop] [X : Exc → Store → Prop] : Prop := match r with
  | .ok a μ => Q a μ
  | .exc x μ => X x μ
  | .bad => False
structure Post where
  N : Mi.Env → Store → Prop
  R : D → Store → Prop
  B : Mi.Env → Store → Prop
  C : Mi.Env → Store → Prop
  X : Exc → Store → Prop
set_option checkBinderAnnotations false in
def RpS (r : ResS) [P : Post] : Prop := match r with
  | .nx ρ μ => P.N ρ μ
  | .rt d μ => P.R d μ
  | .bk ρ μ => P.B ρ μ
  | .ct ρ μ => P.C ρ μ
  | .exc x μ => P.X x μ
  | .bad => False
section
variable {α β : Type} {Q : α → Store → Prop} {X : Exc → Store → Prop} {P : Post} {ρ : Mi.Env} {μ : Store} {n : Nat} {Q' : D → Store → Prop}
@[simp] theorem rp_ok {a : α} : @Rp _ (.ok a μ) Q X = Q a μ := rfl
@[simp] theorem rp_exc {x : Exc} : @Rp _ (.exc x μ : Res α) Q X = X x μ := rfl
@[simp] theorem rp_bad : @Rp _ (.bad : Res α) Q X = False := rfl
@[simp] theorem rp_bind {r : Res β} {f : β → Store → Res α} : @Rp _ (r.bind f) Q X = @Rp _ r (fun a μ => @Rp _ (f a μ) Q X) X := by cases r <;> rfl
@[simp] theorem rs_st {r : Res β} {f : β → Store → ResS} : @RpS (r.st f) P = @Rp _ r (fun a μ => @RpS (f a μ) P) P.X := by cases r <;> rfl
@[simp] theorem rs_nx : @RpS (.nx ρ μ) P = P.N ρ μ := rfl
@[simp] theorem rs_rt {d : D} : @RpS (.rt d μ) P = P.R d μ := rfl
@[simp] theorem rs_bk : @RpS (.bk ρ μ) P = P.B ρ μ := rfl
@[simp] theorem rs_ct : @RpS (.ct ρ μ) P = P.C ρ μ := rfl
@[simp] theorem rs_exc {x : Exc} : @RpS (.exc x μ) P = P.X x μ := rfl
@[simp] theorem rs_bad : @RpS .bad P = False := rfl
@[simp] theorem rs_seq {a b : MS} : @RpS (mSeq a b n ρ μ) P = @RpS (a n ρ μ) ⟨fun ρ μ => @RpS (b n ρ μ) P, P.R, P.B, P.C, P.X⟩ := by
  unfold mSeq; cases a n ρ μ <;> rfl
@[simp] theorem rs_next : @RpS (mNext n ρ μ) P = P.N ρ μ := rfl
@[simp] theorem rs_ret {a : ME} : @RpS (mRet a n ρ μ) P = @Rp _ (a ρ μ) P.R P.X := by unfold mRet; cases a ρ μ <;> rfl
@[simp] theorem rs_retN : @RpS (mRetN n ρ μ) P = P.R .non μ := rfl
@[simp] theorem rs_drop {a : ME} : @RpS (mDrop a n ρ μ) P = @Rp _ (a ρ μ) (fun _ μ => P.N ρ μ) P.X := by unfold mDrop; cases a ρ μ <;> rfl
@[simp] theorem rs_brk : @RpS (mBrk n ρ μ) P = P.B ρ μ := rfl
@[simp] theorem rs_cnt : @RpS (mCnt n ρ μ) P = P.C ρ μ := rfl
@[simp] theorem rs_if {t : MT} {a b : MS} : @RpS (mIfS t a b n ρ μ) P = @Rp _ (t ρ μ) (fun k μ => if k = true then @RpS (a n ρ μ) P else @RpS (b n ρ μ) P) P.X := by
  unfold mIfS; cases t ρ μ with
  | ok k μ => cases k <;> rfl
  | exc x μ => rfl
  | bad => rfl
@[simp] theorem rs_set {i : Nat} {a : ME} : @RpS (mSet i a n ρ μ) P = @Rp _ (a ρ μ) (fun d μ => P.N (ρ.set i (some d)) μ) P.X := by unfold mSet; cases a ρ μ <;> rfl
@[simp] theorem rs_par {i j : Nat} {a : MA} : @RpS (mPar i j a n ρ μ) P = @Rp _ (a ρ μ) (fun ds μ => match ds with
  | [x, y] => P.N ((ρ.set i (some x)).set j (some y)) μ
  | _ => False) P.X := by
  unfold mPar; cases a ρ μ with
  | ok ds μ => show @RpS (match ds with | [x, y] => _ | _ => _) P = _; rcases ds with _ | ⟨x, _ | ⟨y, _ | ⟨z, r⟩⟩⟩ <;> rfl
  | exc x μ => rfl
  | bad => rfl
@[simp] theorem rs_asg {a : ME} {g : MG} : @RpS (mAsg a g n ρ μ) P = @Rp _ (a ρ μ) (fun d μ => @Rp _ (g d ρ μ) P.N P.X) P.X := by
  unfold mAsg; cases a ρ μ with
  | ok d μ => show @RpS ((g d ρ μ).st _) P = @Rp _ (g d ρ μ) P.N P.X; cases g d ρ μ <;> rfl
  | exc x μ => rfl
  | bad => rfl
@[simp] theorem rs_frz {i : Nat} {m : MS} : @RpS (mFrz i m n ρ μ) P = (match ρ[i]? with
  | some (some (.own k)) => n ≤ k ∧ (match μ[k]? with
    | some (some x) => (match frzC x with
      | some d => @RpS (m n (ρ.set i (some d)) (μ.set k none)) P
      | none => False)
    | _ => False)
  | _ => False) := by
  unfold mFrz
  cases ρ[i]? with
  | none => rfl
  | some o =>
    cases o with
    | none => rfl
    | some d =>
      cases d with
      | own k =>
        dsimp only
        by_cases h : n ≤ k
        · rw [if_pos h]
          cases μ[k]? with
          | none => simp
          | some y =>
            cases y with
            | none => simp
            | some x => dsimp only; cases frzC x <;> simp [h]
        · rw [if_neg h]; simp [h]
      | _ => rfl
@[simp] theorem rp_var {i : Nat} : @Rp _ (mVar i ρ μ) Q' X = (match ρ[i]? with
  | some (some d) => Q' d μ
  | _ => False) := by unfold mVar; cases ρ[i]? with
  | none => rfl
  | some o => cases o <;> rfl
@[simp] theorem rp_c {d : D} : @Rp _ (mC d ρ μ) Q' X = Q' d μ := rfl
@[simp] theorem rp_op {f : D → D → Store → Res D} {a b : ME} : @Rp _ (mOp f a b ρ μ) Q' X = @Rp _ (a ρ μ) (fun x μ => @Rp _ (b ρ μ) (fun y μ => @Rp _ (f x y μ) Q' X) X) X := by simp [mOp]
@[simp] theorem rp_un {f : D → Store → Res D} {a : ME} : @Rp _ (mUn f a ρ μ) Q' X = @Rp _ (a ρ μ) (fun x μ => @Rp _ (f x μ) Q' X) X := by simp [mUn]
@[simp] theorem rp_cb {f : List D → Store → Res D} {a : MA} : @Rp _ (mCb f a ρ μ) Q' X = @Rp _ (a ρ μ) (fun x μ => @Rp _ (f x μ) Q' X) X := by simp [mCb]
@[simp] theorem rp_call {m : List D → Store → Res D} {a : MA} : @Rp _ (mCall m a ρ μ) Q' X = @Rp _ (a ρ μ) (fun x μ => @Rp _ (m x μ) Q' X) X := by simp [mCall]
@[simp] theorem rp_callN {m : List D → Store → Res D} {a : MA} : @Rp _ (mCallN m a ρ μ) Q' X = @Rp _ (a ρ μ) (fun x μ => @Rp _ (m x μ) Q' fun _ _ => False) X := by
  unfold mCallN; rw [rp_bind]; congr 1; funext x μ; cases m x μ <;> rfl
@[simp] theorem rp_chain {f g : D → D → Store → Res D} {a b d : ME} : @Rp _ (mChain f g a b d ρ μ) Q' X = @Rp _ (a ρ μ) (fun x μ => @Rp _ (b ρ μ) (fun y μ => @Rp _ (f x y μ) (fun z μ => match z with
  | .bl true => @Rp _ (d ρ μ) (fun w μ => @Rp _ (g y w μ) Q' X) X
  | .bl false => Q' (.bl false) μ
  | _ => False) X) X) X := by
  unfold mChain
  simp only [rp_bind]
  congr 1; funext x μ; congr 1; funext y μ; congr 1; funext z μ
  cases z <;> first | rfl | (rename_i b; cases b <;> simp)
@[simp] theorem rp_andV {a b : ME} : @Rp _ (mAndV a b ρ μ) Q' X = @Rp _ (a ρ μ) (fun x μ => match x with
  | .bl true => @Rp _ (b ρ μ) Q' X
  | .bl false => Q' (.bl false) μ
  | _ => False) X := by
  unfold mAndV; rw [rp_bind]; congr 1; funext x μ; cases x <;> first | rfl | (rename_i b; cases b <;> rfl)
@[simp] theorem rp_orV {a b : ME} : @Rp _ (mOrV a b ρ μ) Q' X = @Rp _ (a ρ μ) (fun x μ => match x with
  | .bl false => @Rp _ (b ρ μ) Q' X
  | .bl true => Q' (.bl true) μ
  | _ => False) X := by
  unfold mOrV; rw [rp_bind]; congr 1; funext x μ; cases x <;> first | rfl | (rename_i b; cases b <;> rfl)
@[simp] theorem rp_notV {a : ME} : @Rp _ (mNotV a ρ μ) Q' X = @Rp _ (a ρ μ) (fun x μ => match x with
  | .bl k => Q' (.bl (!k)) μ
  | _ => False) X := by
  unfold mNotV; rw [rp_bind]; congr 1; funext x μ; cases x <;> rfl
@[simp] theorem rp_orT {a b : ME} : @Rp _ (mOrT a b ρ μ) Q' X = @Rp _ (a ρ μ) (fun x μ => match truD μ x with
  | some false => @Rp _ (b ρ μ) Q' X
  | some true => Q' x μ
  | none => False) X := by
  unfold mOrT; rw [rp_bind]; congr 1; funext x μ; cases truD μ x with
  | none => rfl
  | some b => cases b <;> rfl
variable {T : Bool → Store → Prop}
@[simp] theorem rp_B {a : ME} : @Rp _ (mB a ρ μ) T X = @Rp _ (a ρ μ) (fun x μ => match x with
  | .bl k => T k μ
  | _ => False) X := by
  unfold mB; rw [rp_bind]; congr 1; funext x μ; cases x <;> rfl
@[simp] theorem rp_tru {a : ME} : @Rp _ (mTru a ρ μ) T X = @Rp _ (a ρ μ) (fun x μ => match truD μ x with
  | some k => T k μ
  | none => False) X := by
  unfold mTru; rw [rp_bind]; congr 1; funext x μ; cases truD μ x <;> rfl
@[simp] theorem rp_and {a b : MT} : @Rp _ (mAnd a b ρ μ) T X = @Rp _ (a ρ μ) (fun x μ => if x = true then @Rp _ (b ρ μ) T X else T false μ) X := by
  unfold mAnd; rw [rp_bind]; congr 1; funext x μ; cases x <;> simp
@[simp] theorem rp_or {a b : MT} : @Rp _ (mOr a b ρ μ) T X = @Rp _ (a ρ μ) (fun x μ => if x = true then T true μ else @Rp _ (b ρ μ) T X) X := by
  unfold mOr; rw [rp_bind]; congr 1; funext x μ; cases x <;> simp
@[simp] theorem rp_not {a : MT} : @Rp _ (mNot a ρ μ) T X = @Rp _ (a ρ μ) (fun x μ => T (!x) μ) X := by
  unfold mNot; rw [rp_bind]; congr 1
@[simp] theorem rp_yes : @Rp _ (mYes ρ μ) T X = T true μ := rfl
@[simp] theorem rp_if {t : MT} {a b : ME} : @Rp _ (mIf t a b ρ μ) Q' X = @Rp _ (t ρ μ) (fun k μ => if k = true then @Rp _ (a ρ μ) Q' X else @Rp _ (b ρ μ) Q' X) X := by
  unfold mIf; rw [rp_bind]; congr 1; funext x μ; cases x <;> simp
variable {L : List D → Store → Prop}
@[simp] theorem rp_nil : @Rp _ (mNil ρ μ) L X = L [] μ := rfl
@[simp] theorem rp_cons {a : ME} {b : MA} : @Rp _ (mCons a b ρ μ) L X = @Rp _ (a ρ μ) (fun x μ => @Rp _ (b ρ μ) (fun xs μ => L (x :: xs) μ) X) X := by simp [mCons]
@[simp] theorem rp_ite {c : Prop} [Decidable c] {a b : Res α} : @Rp _ (if c then a else b) Q X = if c then @Rp _ a Q X else @Rp _ b Q X := by split <;> rfl
@[simp] theorem rp_tup {a : MA} : @Rp _ (mTup a ρ μ) Q' X = @Rp _ (a ρ μ) (fun xs μ => xs.length ≤ sizeLine ∧ Q' (.tup xs) μ) X := by
  unfold mTup; rw [rp_bind]; congr 1; funext x μ; by_cases h : x.length ≤ sizeLine <;> simp [h]
@[simp] theorem rp_newL {b : Bool} {ds : List D} : @Rp _ (newL b ds μ) Q' X = if b = true then Q' (.own μ.length) (μ ++ [some (.lst ds)]) else Q' (.lst ds) μ := by
  unfold newL; split <;> rfl
@[simp] theorem rp_newK {b : Bool} {ks : List Key} {ds : List D} : @Rp _ (newK b ks ds μ) Q' X = if b = true then Q' (.own μ.length) (μ ++ [some (.dct ks ds)]) else Q' (.dct ks ds) μ := by
  unfold newK; split <;> rfl
@[simp] theorem rp_lst {b : Bool} {a : MA} : @Rp _ (mLst b a ρ μ) Q' X = @Rp _ (a ρ μ) (fun xs μ => xs.length ≤ sizeLine ∧ @Rp _ (newL b xs μ) Q' X) X := by
  unfold mLst; rw [rp_bind]; congr 1; funext x μ; by_cases h : x.length ≤ sizeLine <;> simp [h]
@[simp] theorem rp_dnew {b : Bool} : @Rp _ (mDNew b ρ μ) Q' X = @Rp _ (newK b [] [] μ) Q' X := rfl
variable {O : Option Int → Store → Prop}
@[simp] theorem rp_moN : @Rp _ (moNone ρ μ) O X = O none μ := rfl
@[simp] theorem rp_moS {a : ME} : @Rp _ (moSome a ρ μ) O X = @Rp _ (a ρ μ) (fun d μ => match d with
  | .int i => O (some i) μ
  | _ => False) X := by
  unfold moSome; rw [rp_bind]; congr 1; funext x μ; cases x <;> rfl
@[simp] theorem rp_sl {b : Bool} {a : ME} {l h : MO} : @Rp _ (mSl b a l h ρ μ) Q' X = @Rp _ (a ρ μ) (fun x μ => @Rp _ (l ρ μ) (fun lo μ => @Rp _ (h ρ μ) (fun hi μ => @Rp _ (fSl b x lo hi μ) Q' X) X) X) X := by simp [mSl]
@[simp] theorem rp_revL {b : Bool} {a : ME} : @Rp _ (mRevL b a ρ μ) Q' X = @Rp _ (a ρ μ) (fun x μ => match seqL μ x with
  | some ds => @Rp _ (newL b ds.reverse μ) Q' X
  | none => False) X := by
  unfold mRevL; rw [rp_bind]; congr 1; funext x μ; cases seqL μ x with
  | none => rfl
  | some ds => rfl
@[simp] theorem rp_bm {T : String} {f : D → List D → Store → Res D} {o : ME} {a : MA} : @Rp _ (mBm T f o a ρ μ) Q' X = @Rp _ (o ρ μ) (fun x μ => tyM μ x = some T ∧ @Rp _ (a ρ μ) (fun xs μ => @Rp _ (f x xs μ) Q' X) X) X := by
  unfold mBm; rw [rp_bind]; congr 1; funext x μ; by_cases h : tyM μ x = some T <;> simp [h]
@[simp] theorem rp_dget {o i : ME} : @Rp _ (mDGet o i ρ μ) Q' X = @Rp _ (o ρ μ) (fun x μ => @Rp _ (i ρ μ) (fun y μ => match dctOf μ x, keyOf y with
  | some (ks, ds), some k => (match lookK k ks ds with
    | some d => Q' d μ
    | none => False)
  | _, _ => False) X) X := by
  unfold mDGet; simp only [rp_bind]; congr 1; funext x μ; congr 1; funext y μ
  cases dctOf μ x with
  | none => rfl
  | some p =>
    obtain ⟨ks, ds⟩ := p
    cases keyOf y with
    | none => rfl
    | some k => dsimp only; cases lookK k ks ds <;> rfl
variable {G : Mi.Env → Store → Prop}
@[simp] theorem rg_name {i : Nat} {d : D} : @Rp _ (mgName i d ρ μ) G X = G (ρ.set i (some d)) μ := rfl
@[simp] theorem rg_nil {ds : List D} : @Rp _ (mgNil ds ρ μ) G X = (match ds with | [] => G ρ μ | _ => False) := by unfold mgNil; cases ds <;> rfl
@[simp] theorem rg_cons {a : MG} {b : MGs} {ds : List D} : @Rp _ (mgCons a b ds ρ μ) G X = (match ds with
  | d :: ds => @Rp _ (a d ρ μ) (fun ρ μ => @Rp _ (b ds ρ μ) G X) X
  | [] => False) := by unfold mgCons; cases ds <;> simp
@[simp] theorem rg_tup {n : Nat} {g : MGs} {d : D} : @Rp _ (mgTup n g d ρ μ) G X = (match d with
  | .tup ds => ds.length = n ∧ @Rp _ (g ds ρ μ) G X
  | _ => False) := by
  unfold mgTup; cases d with
  | tup ds => dsimp only; by_cases h : ds.length = n <;> simp [h]
  | _ => rfl
@[simp] theorem rg_subL {o i : ME} {z : D} : @Rp _ (mgSubL o i z ρ μ) G X = @Rp _ (o ρ μ) (fun x μ => @Rp _ (i ρ μ) (fun y μ => match ownL μ x, y with
  | some (n, ds), .int k => (match ixN ds.length k with
    | some j => G ρ (μ.set n (some (.lst (ds.set j z))))
    | none => False)
  | _, _ => False) X) X := by
  unfold mgSubL; simp only [rp_bind]; congr 1; funext x μ; congr 1; funext y μ
  cases ownL μ x with
  | none => rfl
  | some p =>
    obtain ⟨m, ds⟩ := p
    cases y with
    | int k => dsimp only; cases ixN ds.length k <;> rfl
    | _ => rfl
@[simp] theorem rp_fn {N P' : Nat} {body : MS} {ds : List D} : @Rp _ (mFn N P' body ds μ) Q' X = (ds.length = P' ∧ @RpS (body μ.length (startD N ds) μ) ⟨fun _ μ => Q' .non μ, Q', fun _ _ => False, fun _ _ => False, X⟩) := by
  unfold mFn
  by_cases h : ds.length = P'
  · rw [if_pos h]
    cases body μ.length (startD N ds) μ <;> simp [h]
  · rw [if_neg h]; simp [h]
theorem rp_mono {r : Res α} {Q2 : α → Store → Prop} {X2 : Exc → Store → Prop} (h : @Rp _ r Q X) (k : ∀ a μ, Q a μ → Q2 a μ) (kx : ∀ x μ, X x μ → X2 x μ) : @Rp _ r Q2 X2 := by
  cases r with
  | ok a μ => exact k a μ h
  | exc x μ => exact kx x μ h
  | bad => exact h
theorem rs_mono {r : ResS} {P P2 : Post} (h : @RpS r P) (n : ∀ ρ μ, P.N ρ μ → P2.N ρ μ) (rt : ∀ d μ, P.R d μ → P2.R d μ) (b : ∀ ρ μ, P.B ρ μ → P2.B ρ μ) (c : ∀ ρ μ, P.C ρ μ → P2.C ρ μ) (x : ∀ e μ, P.X e μ → P2.X e μ) : @RpS r P2 := by
  cases r with
  | nx ρ μ => exact n _ _ h
  | rt ρ μ => exact rt _ _ h
  | bk ρ μ => exact b _ _ h
  | ct ρ μ => exact c _ _ h
  | exc ρ μ => exact x _ _ h
  | bad => exact h
theorem rp_get {r : Res α} (h : @Rp _ r Q fun _ _ => False) : ∃ a μ, r = .ok a μ ∧ Q a μ := by
  cases r with
  | ok a μ => exact ⟨a, μ, rfl, h⟩
  | exc x μ => exact h.elim
  | bad => exact h.elim
end
end Pl
namespace Mi
open PySem PySem.Spec L2 PyProof.Rows
section
variable {W : Wd} {E : XK} {X : Cx} {e : Expr}
def mgLst (n : Nat) (g : MGs) : MG := fun d ρ μ => match seqL μ d with
  | some ds => if ds.length = n then g ds ρ μ else .bad
  | none => .bad
end
end Mi
namespace Pl
open PySem PySem.Spec L2 Mi
section
variable {X : Exc → Store → Prop} {ρ : Mi.Env} {μ : Store} {G : Mi.Env → Store → Prop}
@[simp] theorem rg_lst {n : Nat} {g : MGs} {d : D} : @Rp _ (mgLst n g d ρ μ) G X = (match seqL μ d with
  | some ds => ds.length = n ∧ @Rp _ (g ds ρ μ) G X
  | none => False) := by
  unfold mgLst
  cases seqL μ d with
  | some ds => dsimp only; by_cases h : ds.length = n <;> simp [h]
  | none => rfl
end
end Pl
namespace Mi
open PySem PySem.Spec L2 PyProof.Rows
section
variable {W : Wd} {E : XK} {X : Cx}
end
end Mi
namespace Mi
open PySem PySem.Spec L2 PyProof.Rows
section
variable {W : Wd} {E : XK} {X : Cx} {c : Cf} {v : V} {d : D} {ds : List D}
end
end Mi
namespace Mi
open PySem PySem.Spec L2 PyProof.Rows
section
variable {W : Wd} {E : XK} {X : Cx}
end
end Mi
namespace L2
open PySem PySem.Spec PyProof.Rows
namespace DZ
end DZ
end L2
namespace Mi
open PySem PySem.Spec L2 PyProof.Rows
section
variable {W : Wd} {E : XK} {X : Cx} {c : Cf} {v : V} {d : D} {ds : List D} {e : Expr} {st : Stmt} {Q : VK}
def keysOf : List D → Option (List Key)
  | [] => some []
  | d :: ds => match keyOf d, keysOf ds with
    | some k, some ks => some (k :: ks)
    | _, _ => none
noncomputable def fDictZ (b : Bool) : List D → Store → Res D := fun ds μ => match ds with
  | [x, y] => match (seqL μ x).bind keysOf, seqL μ y with
    | some ks, some ys => newK b (mergeD [] [] (ks.zip ys)).1 (mergeD [] [] (ks.zip ys)).2 μ
    | _, _ => .bad
  | _ => .bad
noncomputable def mDictZip (b : Bool) (a : MA) : ME := fun ρ μ => (a ρ μ).bind (fDictZ b)
end
end Mi
namespace StX
open PySem PySem.Spec L2
section
variable {prog : Program} {w : World} {A : Around} {E : Value → Shared → Prop} {s : Shared} {K : PySem.W.Frag}
open PySem.W in
end
section
variable {X : Cx} {pins : List (Addr × Obj)} {σ : L2.St} {H : Hp} {s : Shared} {a C dx : Addr} {fs : List (Str × V)} {f : Str} {v : V} {A : Around} {E : Value → Shared → Prop}
end
section
variable {X : Cx} {CX : CXT} {k : Nat} {C g : Addr} {sp : Sp} {E : XK} {o e : Expr} {es : List Expr} {m : Str} {ta : TE} {t : TA} {pos apos : Pos}
end
end StX
namespace Mi
open PySem PySem.Spec L2 PyProof.Rows
section
variable {W : Wd} {E : XK} {X : Cx} {c : Cf} {v : V} {d : D} {ds : List D} {e : Expr} {st : Stmt} {Q : VK} {σ : L2.St} {H : Hp}
end
end Mi
namespace L2
open PySem PySem.Spec PyProof.Rows
section
variable {X : Cx}
def hit (w : Str) (r : Str × Nat) : Bool := r.1 == w && r.2 == 0
open Classical in
end
end L2
namespace Mi
open PySem PySem.Spec L2 PyProof.Rows
section
variable {W : Wd} {E : XK} {X : Cx} {μ : Store}
end
end Mi
namespace Cs
open PySem PySem.Spec L2 PyProof.Rows
structure Hd where
  x : Str
  n : Str
  c : Value
  i : Nat
  b₀ : Stmt
  suite : List Stmt
  np : Pos
  pos : Pos
  ts : Addr → Value → Option Addr → TS
def Hd.h (q : Hd) : ExceptHandler := .ExceptHandler (some (.Name q.x q.np)) (some q.n) (q.b₀ :: q.suite) q.pos
section
variable {X : Cx} {body : List Stmt} {pos : Pos} {tb : WX → TS} {Wout : WX} {q0 : Hd} {qs : List Hd}
end
end Cs
namespace Cs
open PySem PySem.Spec L2 PyProof.Rows
section
variable {X : Cx} {o : Expr} {f : Str} {pos : Pos} {te : TE} {a : Addr} {oe : Obj} {pn : List (Addr × Obj)} {cls : Value} {d : Option Addr}
end
end Cs
namespace StX
open PySem PySem.Spec L2 PyProof.Rows
section
variable {X : Cx} {CX : CXT} {k : Nat} {C f : Addr} {fd : FuncData} {ps : List Str} {sp : Sp} {Ef : L2.St → XK} {o e : Expr} {es : List Expr} {m : Str} {ta : TE} {t : TA} {pos apos : Pos}
end
end StX
namespace Mi
open PySem PySem.Spec L2 PyProof.Rows
section
variable {W : Wd} {E : XK} {X : Cx} {st : Stmt}
inductive SI where
  | ci (z : Int)
  | cs (z : Str)
  | f (nm : Str)
inductive SX where
  | keep
  | fld (nm : Str)
  | tup (xs : List SI)
def SI.at (x : Exc) : SI → Option D
  | .ci z => some (.int z)
  | .cs z => some (.str z)
  | .f nm => lookF nm x.ks x.ds
def SI.all (x : Exc) : List SI → Option (List D)
  | [] => some []
  | s :: ss => match s.at x, SI.all x ss with
    | some d, some ds => some (d :: ds)
    | _, _ => none
def SX.at (x : Exc) : SX → Option D
  | .keep => some (.exc x.C x.ks x.ds)
  | .fld nm => lookF nm x.ks x.ds
  | .tup xs => match SI.all x xs with
    | some ds => if ds.length ≤ sizeLine then some (.tup ds) else none
    | none => none
end
end Mi
namespace Mi
open PySem PySem.Spec L2 PyProof.Rows Cs
section
variable {W : Wd} {E : XK} {X : Cx} {st : Stmt}
end
end Mi
namespace Cs
open PySem PySem.Spec L2 PyProof.Rows
end Cs
namespace MiTup
open PySem PySem.SeqAt
open AutoSeq1 (wpAny_loadPart')
open MeetsSeq MeetsSeq2 MeetsSeq3 SeqRoads2
section
variable {prog : Program} {w : World}
end
section
variable {prog : Program} {w : World} {A : Around} {s : Shared}
end
end MiTup
namespace Mi
open PySem PySem.Spec L2 PyProof.Rows PySem.SeqAt
section
variable {X : Cx}
end
section
variable {W : Wd} {E : XK} {c : Cf}
end
end Mi
namespace Cs
open PySem PySem.Spec L2 PyProof.Rows
structure HdT where
  x : Str
  n : Str
  c : Value
  i : Nat
  b₀ : Stmt
  suite : List Stmt
  np : Pos
  pos : Pos
  ts : TS
def HdT.h (q : HdT) : ExceptHandler := .ExceptHandler (some (.Name q.x q.np)) (some q.n) (q.b₀ :: q.suite) q.pos
section
variable {X : Cx} {pins : List (Addr × Obj)} {σ : L2.St} {H : Hp} {s : Shared} {a : Addr}
end
section
variable {X : Cx} {body : List Stmt} {pos : Pos} {tb : WX → TS} {Wout : WX} {q0 : HdT} {qs : List HdT}
end
end Cs
namespace Mi
open PySem PySem.Spec L2 PyProof.Rows Cs LamX
section
variable {W : Wd} {E : XK} {X : Cx} {st : Stmt}
end
end Mi
namespace Cs
open PySem PySem.Spec L2 PyProof.Rows
section
variable {X : Cx}
end
end Cs
namespace Mi
open PySem PySem.Spec L2 PyProof.Rows
section
variable {W : Wd} {E : XK} {X : Cx} {c : Cf} {Q : VK}
end
end Mi
namespace Mi
open PySem PySem.Spec L2 PyProof.Rows
section
variable {W : Wd} {E : XK} {X : Cx} {e : Expr}
end
end Mi
namespace PySem
namespace HandSPX
open Builtin Builtin.ObjectAttr
section
variable {M : Model} {A : Around} {E : Value → Shared → Prop} {h : Heap} {g : Array GenState} {d : Drawn} {t : Nat} {os : OsState}
variable {nm q : Str} {C N : Addr} {bs bm bmB : List Value} {hdct : Bool} {sn : List Str} {sub : List Value} {ab : Bool} {col : Option Bool} {dd : Option Addr} {k0 k1 k2 k3 k5 : Option Value} {B newId initId : String}
end
section
variable {prog : Program} {w : World} {A : Around} {E : Value → Shared → Prop} {R : Result → Shared → Prop} {h : Heap} {g : Array GenState} {d : Drawn} {t : Nat} {os : OsState}
variable {nm q : Str} {C N : Addr} {bs bm bmB : List Value} {hdct : Bool} {sn : List Str} {sub : List Value} {ab : Bool} {col : Option Bool} {dd : Option Addr} {k0 k1 k2 k3 k5 : Option Value} {B newId initId : String}
end
end HandSPX
end PySem
namespace L2
open PySem PySem.Spec PyProof.Rows
section
variable {X : Cx} {p pos : Pos}
end
end L2
namespace Mi
open PySem PySem.Spec L2 PyProof.Rows
section
variable {W : Wd} {E : XK} {X : Cx} {e : Expr} {st : Stmt}
end
end Mi
namespace KeyX
open PySem PySem.Spec L2 PyProof.Rows LamX
section
variable {X : Cx} {pins : List (Addr × Obj)} {σ : L2.St} {H : Hp} {s : Shared}
end
end KeyX
namespace Mi
open PySem PySem.Spec L2 PyProof.Rows LamX KeyX
section
variable {W : Wd} {E : XK} {X : Cx} {c : Cf} {v : V} {d : D} {ds : List D} {e : Expr}
end
end Mi
namespace Mi
open PySem PySem.Spec L2 PyProof.Rows
section
variable {W : Wd} {E : XK} {X : Cx} {e : Expr}
theorem turns_it {J : It} {n : Nat} {G : Hp → Prop} {Y : Nat → Hp → V → Hp → Prop} (w : Walk J n G Y) {H0 : Hp} {Qd : Hp → Prop} (R : (Hp → Prop) → V → Hp → Prop) (Pv : Nat → Hp → Prop) (h0 : Pv 0 H0) (hG : ∀ i H, i ≤ n → Pv i H → G H)
    (hs : ∀ i x H H', i < n → Pv i H → Y i H x H' → R (Pv (i + 1)) x H') (hd : ∀ H, Pv n H → Qd H) :
    ∃ W : Nat → Nat → Hp → Prop, (∃ m, W 0 m H0) ∧ ∀ i m H, W i m H →
      (J.stop i H ∧ Qd H) ∨ (J.go i H ∧ ∃ Nx : Hp → Prop, (∀ H', Nx H' → ∃ m', m' < m ∧ W (i + 1) m' H') ∧ ∀ x H', J.yld i H x H' → R Nx x H') := by
  refine ⟨fun i m H => m = n - i ∧ i ≤ n ∧ Pv i H, ⟨n, by simp, Nat.zero_le _, h0⟩, ?_⟩
  rintro i m H ⟨rfl, hi, p⟩
  have q := hG i H hi p
  by_cases hlt : i < n
  · exact .inr ⟨w.goes i H hlt q, Pv (i + 1), fun H' p' => ⟨n - (i + 1), by omega, rfl, hlt, p'⟩, fun x H' y => hs i x H H' hlt p (w.yields i H x H' hlt q y)⟩
  · have e : i = n := by omega
    subst e
    exact .inl ⟨w.stops H q, hd H p⟩
theorem lc_inner {g1 : TG} {gm1 : D → Env → Option Env} {t1 : MT} {el : ME} {vs1 : List Nat} {J1 : It} {src1 : Src} {ρ2 : Env} {σ2 : L2.St} {c1 c5 : Cf} {p : Addr} {acc xs : List D} {ac : List V} {μ' : Store} {Nx : Hp → Prop} (hg : LcT W g1 vs1 gm1) (ok1 : Ok W c1) (hp : c1.H p = none)
    (as5 : Aside W c1 c5 p) (hp5 : c5.H p = some (.lst ac)) (ha5 : DpA W c5 ac acc) (env : EnvR W c5 σ2 ρ2) (hw : WalksM W J1 c5 src1) (q0 : lcA src1.w c5.μ gm1 t1 el (wipeD ρ2 vs1) src1.items acc c5.μ = .ok xs μ')
    (fin : ∀ c' ac', Aside W c1 c' p → Le c5 c' → c'.H p = some (.lst ac') → DpA W c' ac' xs → c'.μ = μ' → Nx c'.H) : ∃ W' : Nat → Nat → Hp → Prop, (∃ m, W' 0 m c5.H) ∧ ∀ i m H, W' i m H →
  (J1.stop i H ∧ Nx H) ∨ (J1.go i H ∧ ∃ Nx1 : Hp → Prop, (∀ H', Nx1 H' → ∃ m', m' < m ∧ W' (i + 1) m' H') ∧ ∀ x H', J1.yld i H x H' → g1 x (L2.wipe σ2 vs1) H' fun σ3 H2 => L2.wipe σ3 vs1 = L2.wipe σ2 vs1 ∧ tT W E0' t1 σ3 H2 fun b H3 =>
    if b = true then tE W E0' el σ3 H3 fun y H4 => ∃ acc, H4 p = some (.lst acc) ∧ acc.length < sizeLine ∧ Nx1 (upd H4 p (.lst (acc ++ [y]))) else Nx1 H3) := by
  obtain ⟨Gd, Y, wk, hG, hY⟩ := hw.ex
  have env1 := env.wipe vs1
  refine turns_it wk (fun Nx1 x H' => g1 x (L2.wipe σ2 vs1) H' fun σ3 H2 => L2.wipe σ3 vs1 = L2.wipe σ2 vs1 ∧ tT W E0' t1 σ3 H2 fun b H3 =>
    if b = true then tE W E0' el σ3 H3 fun y H4 => ∃ acc, H4 p = some (.lst acc) ∧ acc.length < sizeLine ∧ Nx1 (upd H4 p (.lst (acc ++ [y]))) else Nx1 H3) (fun i H' => ∃ c' acc ac, c'.H = H' ∧ Aside W c1 c' p ∧ Le c5 c' ∧ c'.L = c5.L ∧ c'.H p = some (.lst ac) ∧ DpA W c' ac acc ∧ lcA src1.w c5.μ gm1 t1 el (wipeD ρ2 vs1) (src1.items.drop i) acc c'.μ = .ok xs μ')
      ⟨c5, acc, ac, rfl, as5, Le.refl _, rfl, hp5, ha5, q0⟩ (fun i H' _ ⟨c', acc, ac, e, as, le, lk, _, _, q⟩ => by
        rw [← e]; exact hG c' le lk as.ok (lcA_watch (by rw [q]; exact fun z => by cases z))) ?_ ?_
  · rintro i x H2 H3 hi ⟨c', acc, ac, rfl, as, le, lk, hp', ha, q⟩ hy
    have hw' : watch src1.w c5.μ c'.μ := lcA_watch (by rw [q]; exact fun z => by cases z)
    obtain ⟨d, G3, hd, g3, hx⟩ := hY i x c' H3 hi le lk as.ok hw' hy
    have hdrop : src1.items.drop i = d :: src1.items.drop (i + 1) := by
      rw [List.drop_eq_getElem_cons hi]
      congr 1
      rw [List.getElem?_eq_getElem hi] at hd
      exact Option.some.inj hd
    obtain ⟨ok3, st3⟩ := step_grow as.ok g3
    obtain ⟨as3, hp3⟩ := as.step hp' ok3 st3
    rw [hdrop] at q
    unfold lcA at q
    rw [if_pos hw'] at q
    cases eg : gm1 d (wipeD ρ2 vs1) with
    | none => rw [eg] at q; cases q
    | some ρ3 =>
      rw [eg] at q
      dsimp only at q
      refine hg (c'.to G3 H3) x d (L2.wipe σ2 vs1) (wipeD ρ2 vs1) ρ3 _ ok3 (env1.mono (le.trans st3.le)) hx eg fun σ3 env2 hwp => ⟨hwp.trans wipe_idem, ?_⟩
      refine ⟨ρ3, c'.to G3 H3, rfl, ok3, env2, ?_⟩
      show Wp W _ (t1 ρ3 c'.μ) _ _ _
      cases et : t1 ρ3 c'.μ with
      | bad => rw [et] at q; cases q
      | exc y μ2 => rw [et] at q; cases q
      | ok k μ2 =>
        rw [et] at q
        intro k' c4 e4 s4 ok4 hk
        subst hk
        obtain ⟨as4, hp4⟩ := as3.step hp3 ok4 s4
        cases k' with
        | false =>
          rw [if_neg Bool.false_ne_true]
          exact ⟨c4, acc, ac, rfl, as4, (le.trans st3.le).trans s4.le, (s4.lk.trans st3.lk).trans lk, hp4, dpa_mono (st3.le.trans s4.le) ha, by rw [e4]; exact q⟩
        | true =>
          rw [if_pos rfl]
          dsimp only at q
          refine ⟨ρ3, c4, rfl, ok4, env2.mono s4.le, ?_⟩
          rw [e4]
          cases ee : el ρ3 μ2 with
          | bad => rw [ee] at q; cases q
          | exc y μ5 => rw [ee] at q; cases q
          | ok y μ5 =>
            rw [ee] at q
            dsimp only at q
            intro u c6 e6 s6 ok6 r6
            obtain ⟨as6, hp6⟩ := as4.step hp4 ok6 s6
            have ha6 := dpa_mono ((st3.le.trans s4.le).trans s6.le) ha
            split at q
            · rename_i hl
              refine ⟨ac, hp6, by rw [dpa_len ha]; exact hl, c6.to c6.G (upd c6.H p (.lst (ac ++ [u]))), acc ++ [y], ac ++ [u], rfl, as6.put hp ok1, (((le.trans st3.le).trans s4.le).trans s6.le).trans (le_to (Same.refl _)), ((s6.lk.trans s4.lk).trans st3.lk).trans lk, upd_same, dpa_mono (le_to (Same.refl _)) (dpa_app ha6 (.cons r6 .nil)), ?_⟩
              show lcA _ _ _ _ _ _ _ _ c6.μ = _
              rw [e6]; exact q
            · cases q
  · rintro H' ⟨c', acc, ac, rfl, as, le, lk, hp', ha, q⟩
    rw [List.drop_length] at q
    unfold lcA at q
    split at q
    · cases q
      exact fin c' ac as le hp' ha rfl
    · cases q
open Classical in
noncomputable def lcB (w : List Nat) (μ0 : Store) (g : D → Env → Option Env) (t : MT) (i1 : MI) (g1 : D → Env → Option Env) (t1 : MT) (el : ME) (vs1 : List Nat) (ρ : Env) : List D → List D → Store → Res (List D)
  | [], acc, μ => if watch w μ0 μ then .ok acc μ else .bad
  | d :: ds, acc, μ => if watch w μ0 μ then match g d ρ with
      | some ρ2 => match t ρ2 μ with
        | .ok true μ => match i1 ρ2 μ with
          | .ok s1 μ => match lcA s1.w μ g1 t1 el (wipeD ρ2 vs1) s1.items acc μ with
            | .ok acc2 μ => lcB w μ0 g t i1 g1 t1 el vs1 ρ ds acc2 μ
            | _ => .bad
          | _ => .bad
        | .ok false μ => lcB w μ0 g t i1 g1 t1 el vs1 ρ ds acc μ
        | _ => .bad
      | none => .bad
    else .bad
noncomputable def mLc2 (b : Bool) (i : MI) (g : D → Env → Option Env) (t : MT) (i1 : MI) (g1 : D → Env → Option Env) (t1 : MT) (el : ME) (vs vs1 : List Nat) : ME := fun ρ μ => (i ρ μ).bind fun s μ => (lcB s.w μ g t i1 g1 t1 el vs1 (wipeD ρ vs) s.items [] μ).bind fun xs μ => newL b xs μ
theorem lcB_watch {w : List Nat} {μ0 : Store} {g : D → Env → Option Env} {t : MT} {i1 : MI} {g1 : D → Env → Option Env} {t1 : MT} {el : ME} {vs1 : List Nat} {ρ : Env} {ds acc : List D} {μ : Store} (h : lcB w μ0 g t i1 g1 t1 el vs1 ρ ds acc μ ≠ .bad) : watch w μ0 μ := by
  cases ds with
  | nil =>
    unfold lcB at h
    split at h
    · assumption
    · exact absurd rfl h
  | cons d ds =>
    unfold lcB at h
    split at h
    · assumption
    · exact absurd rfl h
theorem lcB_noexc {w : List Nat} {μ0 : Store} {g : D → Env → Option Env} {t : MT} {i1 : MI} {g1 : D → Env → Option Env} {t1 : MT} {el : ME} {vs1 : List Nat} {ρ : Env} {x : Exc} {μ' : Store} : ∀ {ds acc : List D} {μ : Store}, lcB w μ0 g t i1 g1 t1 el vs1 ρ ds acc μ ≠ .exc x μ'
  | [], acc, μ => by
    unfold lcB
    split
    · exact fun z => by cases z
    · exact fun z => by cases z
  | d :: ds, acc, μ => by
    unfold lcB
    split
    · split
      · split
        · split
          · split
            · exact lcB_noexc
            · exact fun z => by cases z
          · exact fun z => by cases z
        · exact lcB_noexc
        · exact fun z => by cases z
      · exact fun z => by cases z
    · exact fun z => by cases z
theorem lc2_run {b : Bool} {g g1 : TG} {gm gm1 : D → Env → Option Env} {t t1 : MT} {i1 : MI} {el : ME} {vs vs1 : List Nat} {J : It} {src : Src} {ρ : Env} {σ : L2.St} {c1 : Cf} {Q : VK} (hg : LcT W g vs gm) (hg1 : LcT W g1 vs1 gm1) (ok1 : Ok W c1) (env : EnvR W c1 σ ρ) (hw : WalksM W J c1 src)
    (w1 : Wp W (Dp W) ((lcB src.w c1.μ gm t i1 gm1 t1 el vs1 (wipeD ρ vs) src.items [] c1.μ).bind fun xs μ => newL b xs μ) c1 Q E) : ∀ D, c1.H D = none → ∃ W' : Nat → Nat → Hp → Prop, (∃ m, W' 0 m (upd c1.H D (.lst []))) ∧ ∀ i m H, W' i m H →
  (J.stop i H ∧ Q (.ref D) H) ∨ (J.go i H ∧ ∃ Nx : Hp → Prop, (∀ H', Nx H' → ∃ m', m' < m ∧ W' (i + 1) m' H') ∧ ∀ x H', J.yld i H x H' → g x (L2.wipe σ vs) H' fun σ2 H2 => L2.wipe σ2 vs = L2.wipe σ vs ∧ tT W E0' t σ2 H2 fun b H3 =>
    if b = true then tI W E0' i1 σ2 H3 fun J1 H4 => ∃ W1 : Nat → Nat → Hp → Prop, (∃ m, W1 0 m H4) ∧ ∀ j k H, W1 j k H →
      (J1.stop j H ∧ Nx H) ∨ (J1.go j H ∧ ∃ Nx1 : Hp → Prop, (∀ H', Nx1 H' → ∃ k', k' < k ∧ W1 (j + 1) k' H') ∧ ∀ x H', J1.yld j H x H' → g1 x (L2.wipe σ2 vs1) H' fun σ3 H5 => L2.wipe σ3 vs1 = L2.wipe σ2 vs1 ∧ tT W E0' t1 σ3 H5 fun b H6 =>
        if b = true then tE W E0' el σ3 H6 fun y H7 => ∃ acc, H7 D = some (.lst acc) ∧ acc.length < sizeLine ∧ Nx1 (upd H7 D (.lst (acc ++ [y]))) else Nx1 H6)
    else Nx H3) := by
  intro p hp
  obtain ⟨Gd, Y, wk, hG, hY⟩ := hw.ex
  have env1 := env.wipe vs
  cases el0 : lcB src.w c1.μ gm t i1 gm1 t1 el vs1 (wipeD ρ vs) src.items [] c1.μ with
  | bad => rw [el0] at w1; exact w1.elim
  | exc x μ' => exact absurd el0 lcB_noexc
  | ok xs μ' =>
    rw [el0] at w1
    have w1' : Wp W (Dp W) (newL b xs μ') c1 Q E := w1
    have as0 : Aside W c1 (c1.to c1.G (upd c1.H p (.lst []))) p := by
      have z : Aside W c1 c1 p := ⟨ok1, .refl ok1, Cs.same_none ok1.s hp, fun n l e => ok1.hcell l (by rw [e]; exact hp), noT_new ok1 hp, codeO_none hp⟩
      exact z.put hp ok1
    refine turns_it wk _ (fun i H' => ∃ c' acc ac, c'.H = H' ∧ Aside W c1 c' p ∧ c'.H p = some (.lst ac) ∧ DpA W c' ac acc ∧ lcB src.w c1.μ gm t i1 gm1 t1 el vs1 (wipeD ρ vs) (src.items.drop i) acc c'.μ = .ok xs μ')
      ⟨c1.to c1.G (upd c1.H p (.lst [])), [], [], rfl, as0, upd_same, .nil, el0⟩ (fun i H' _ ⟨c', acc, ac, e, as, _, _, q⟩ => by
        rw [← e]; exact hG c' as.st.le as.st.lk as.ok (lcB_watch (by rw [q]; exact fun z => by cases z))) ?_ ?_
    · rintro i x H2 H3 hi ⟨c', acc, ac, rfl, as, hp', ha, q⟩ hy
      have hw' : watch src.w c1.μ c'.μ := lcB_watch (by rw [q]; exact fun z => by cases z)
      obtain ⟨d, G3, hd, g3, hx⟩ := hY i x c' H3 hi as.st.le as.st.lk as.ok hw' hy
      have hdrop : src.items.drop i = d :: src.items.drop (i + 1) := by
        rw [List.drop_eq_getElem_cons hi]
        congr 1
        rw [List.getElem?_eq_getElem hi] at hd
        exact Option.some.inj hd
      obtain ⟨ok3, st3⟩ := step_grow as.ok g3
      obtain ⟨as3, hp3⟩ := as.step hp' ok3 st3
      rw [hdrop] at q
      unfold lcB at q
      rw [if_pos hw'] at q
      cases eg : gm d (wipeD ρ vs) with
      | none => rw [eg] at q; cases q
      | some ρ2 =>
        rw [eg] at q
        dsimp only at q
        refine hg (c'.to G3 H3) x d (L2.wipe σ vs) (wipeD ρ vs) ρ2 _ ok3 (env1.mono (as.st.le.trans st3.le)) hx eg fun σ2 env2 hwp => ⟨hwp.trans wipe_idem, ?_⟩
        refine ⟨ρ2, c'.to G3 H3, rfl, ok3, env2, ?_⟩
        show Wp W _ (t ρ2 c'.μ) _ _ _
        cases et : t ρ2 c'.μ with
        | bad => rw [et] at q; cases q
        | exc y μ2 => rw [et] at q; cases q
        | ok k μ2 =>
          rw [et] at q
          intro k' c4 e4 s4 ok4 hk
          subst hk
          obtain ⟨as4, hp4⟩ := as3.step hp3 ok4 s4
          cases k' with
          | false =>
            rw [if_neg Bool.false_ne_true]
            exact ⟨c4, acc, ac, rfl, as4, hp4, dpa_mono (st3.le.trans s4.le) ha, by rw [e4]; exact q⟩
          | true =>
            rw [if_pos rfl]
            dsimp only at q
            refine ⟨ρ2, c4, rfl, ok4, env2.mono s4.le, ?_⟩
            rw [e4]
            cases ei : i1 ρ2 μ2 with
            | bad => rw [ei] at q; cases q
            | exc y μ5 => rw [ei] at q; cases q
            | ok s1 μ5 =>
              rw [ei] at q
              dsimp only at q
              intro J1 c5 e5 s5 ok5 hw1
              obtain ⟨as5, hp5⟩ := as4.step hp4 ok5 s5
              have ha5 := dpa_mono ((st3.le.trans s4.le).trans s5.le) ha
              cases ea : lcA s1.w μ5 gm1 t1 el (wipeD ρ2 vs1) s1.items acc μ5 with
              | bad => rw [ea] at q; cases q
              | exc y μ6 => rw [ea] at q; cases q
              | ok acc2 μ6 =>
                rw [ea] at q
                dsimp only at q
                refine lc_inner hg1 ok1 hp as5 hp5 ha5 (env2.mono (s4.le.trans s5.le)) hw1 (by rw [e5]; exact ea) fun c7 ac7 as7 le7 hp7 ha7 e7 => ?_
                exact ⟨c7, acc2, ac7, rfl, as7, hp7, ha7, by rw [e7]; exact q⟩
    · rintro H' ⟨c', acc, ac, rfl, as, hp', ha, q⟩
      rw [List.drop_length] at q
      unfold lcB at q
      split at q
      · cases q
        exact as.done hp hp' ha w1'
      · cases q
theorem me_lc2 {b : Bool} {i : MI} {g g1 : TG} {gm gm1 : D → Env → Option Env} {t t1 : MT} {i1 : MI} {el : ME} {vs vs1 : List Nat} (hg : LcT W g vs gm) (hg1 : LcT W g1 vs1 gm1) (h : PE X e (tLc2 (tI W E i) g (tT W E0' t) (tI W E0' i1) g1 (tT W E0' t1) (tE W E0' el) vs vs1)) : PE X e (tE W E (mLc2 b i gm t i1 gm1 t1 el vs vs1)) := pe_weak h fun σ H Q ⟨ρ, c, hH, ok, env, w⟩ =>
  ⟨ρ, c, hH, ok, env, wp_bind w fun J src c1 s1 ok1 hw w1 => lc2_run hg hg1 ok1 (env.mono s1.le) hw w1⟩
end
end Mi
namespace Mi
open PySem PySem.Spec L2 PyProof.Rows
def gAttr (K : PySem.W.Frag) (ta : TE) (f : Str) : TG := fun y σ H Q => ta σ H fun x H2 => ∃ a C dx fs, x = .ref a ∧ H2 a = some (.ins C dx fs) ∧ Cls K C ∧ NoAttr K C f ∧ fs.length < 1000 ∧ Q σ (upd H2 a (.ins C dx (putF f y fs)))
section
variable {X : Cx} {o : Expr} {f : Str} {pos : Pos} {ta : TE}
theorem pg_attr (ho : PE X o ta) : PG X (.Attribute o f pos) (gAttr X.K ta f) := by
  refine ⟨fun pins s σ H v u Q I r h => ?_⟩
  rw [assign_Attribute]
  refine wpAny_bind (wpAny_holding (thn (ho.run pins s σ H _ I h) fun ov s1 ⟨x, H1, I1, rx, a, C, dx, fs, ex, ea, c, n, l, q⟩ => ?_))
  subst ex
  obtain rfl : ov = Value.ref a := rx
  refine wpAny_bind (wpAny_standAt (wpAny_bind (wpAny_holding (setattr_ok I1 ea c n l r fun s2 I2 => ?_))))
  exact wpAny_release ⟨σ, _, I2, q⟩
end
section
variable {W : Wd} {E : XK} {X : Cx} {e : Expr}
def mgAttr (Cs' : List String) (f : Str) (o : ME) : MG := fun z ρ μ => (o ρ μ).bind fun x μ => match ownO μ x with
  | some (n, C, ks, ds) => if Cs'.contains C = true ∧ ks.length < 1000 then .ok ρ (μ.set n (some (.obj C (putFK f ks) (putFV f z ks ds)))) else .bad
  | none => .bad
theorem mg_attr {Cs' : List String} {f : Str} {o : ME} (F : ∀ C ∈ Cs', FldC W C f) (h : PG X e (gAttr W.K (tE W E o) f)) : PG X e (tG W E (mgAttr Cs' f o)) := pg_weak h fun y σ H Q ⟨ρ, c, z, hH, ok, env, rz, w⟩ =>
  ⟨ρ, c, hH, ok, env, wp_bind w fun v x c2 s2 ok2 r2 w2 => by
    split at w2
    · rename_i n C ks ds eo
      split at w2
      · rename_i hC
        obtain ⟨rfl, hx, rfl, g, dx, xs, h1, h2, h3, h4⟩ := ownO_ok ok2 r2 eo
        have FC := F C (List.contains_iff_mem.mp hC.1)
        obtain ⟨p1, p2⟩ := putF_L (f := f) (z := y) h3
        have lfs : (fsL ks xs).length = ks.length := by simp [fsL, h3]
        refine ⟨c2.ι n, g, dx, _, rfl, h2, FC.cl g h1, FC.no g h1, by rw [lfs]; exact hC.2, ?_⟩
        rw [p1]
        obtain ⟨ok3, s5⟩ := step_put (x := .obj C (putFK f ks) (putFV f z ks ds)) (o := .ins g dx (fsL (putFK f ks) (putFV f y ks xs))) ok2 hx rfl ⟨g, dx, _, h1, rfl, p2, dpa_putF (dp_mono s2.le rz) h4⟩
        exact w2 σ _ rfl s5 ok3 (env.mono (s2.le.trans s5.le))
      · exact w2.elim
    · exact w2.elim⟩
def rNotB : R2 := fun x y H Q => ∃ i j, x = .bl i ∧ y = .bl j ∧ Q (.bl (!decide (i = j))) H
theorem op_notB : OpR X (compareOp .IsNot) rNotB := by
  rintro pins s σ H x y v u Q I rx ry ⟨i, j, rfl, rfl, q⟩
  cases rx
  cases ry
  show wpAny _ _ ((isSame (.bool i) (.bool j)) >>= fun z => pure (Value.bool (!z))) _ _ s
  refine wpAny_bind (wpAny_isSame_plain rfl (wpAny_pure (fin_bl I q ?_)))
  cases i <;> cases j <;> rfl
def fIsB (neg : Bool) : D → D → Store → Res D := fun x y μ => match x, y with
  | .bl i, .bl j => .ok (.bl (if neg = true then !decide (i = j) else decide (i = j))) μ
  | _, _ => .bad
theorem opm_notB : OpM W E rNotB (fIsB true) := fun c x y v u Q ok hx hy w => by
  unfold fIsB at w
  split at w
  · cases hx; cases hy
    exact ⟨_, _, rfl, rfl, wp_ret w ok (.bl _)⟩
  · exact w.elim
end
end Mi
namespace L2
open PySem PySem.Spec PyProof.Rows
section
variable {P : Program} {w : World} {A : Around} {E : Value → Shared → Prop} {s : Shared}
set_option maxRecDepth 100000 in
set_option maxHeartbeats 3200000 in
theorem call_setLI {l : Addr} {items : Array Value} (ns : List Int) {Q : Value → Shared → Prop} (hh : A.handled = none) (hl : s.heap.IsList l items) (hit : IntsAre items.toList ns) (hb : ns.length + 1 < scanBound)
    (h : ∀ (h' : Heap) (tk c : Nat), SetR w h' s.heap.objs.size (fun j => decide (j ∈ ns)) c → c ≤ ns.length → (∀ b o, s.heap.get? b = some o → h'.get? b = some o) → Q (.ref s.heap.objs.size) { s with heap := h', toks := tk }) :
    wpAny (model P w) A (call (.type "set") [.ref l]) Q E s := by
  have hisz : items.size = ns.length := by
    have q := IntsAre.length hit
    rw [Array.length_toList] at q
    exact q
  obtain ⟨c, tl, hmro⟩ := F.called_set.mro
  have hmade := F.called_set.made
  have hsub := F.called_set.sub
  refine wpAny_call (codeAny_of_tree ?_)
  show wpAny _ _ (callAny (.type "set") _) _ _ _
  refine wpAny_pure ⟨Code.quiet_builtin _ (by decide +kernel), codeAny_builtin F.entry_type_call ?_⟩
  rw [Around.under_plain (weight_type_call_type "set" [.ref l] []) rfl]
  have h1 := F.called_set.notType
  have h2 := F.called_set.canCreate
  have hct := F.typeCall_set_1 (.ref l)
  repeat (any_goals (first | assumption | wp_step))
  refine codeAny_mono (code_set_led1 (.ref l) (E := E) (Q₁ := fun obj s₁ => obj = .ref s.heap.objs.size ∧ s₁ = { s with heap := s.heap.push { cls := .type "set", dict := none, data := .set #[] 0 (.fresh 0 0 (!w.params.followText "set-order")) } }) ⟨rfl, rfl⟩) fun r s₁ hr => ?_
  cases r with
  | error e => exact hr
  | ok fl =>
    cases fl with
    | ret obj =>
      obtain ⟨rfl, rfl⟩ := hr
      have hS : (s.heap.push { cls := .type "set", dict := none, data := .set #[] 0 (.fresh 0 0 (!w.params.followText "set-order")) }).get? s.heap.objs.size = some { cls := .type "set", dict := none, data := .set #[] 0 (.fresh 0 0 (!w.params.followText "set-order")) } := Heap.get?_push_size _ rfl
      have hT : Shared.TypeIs { s with heap := s.heap.push { cls := .type "set", dict := none, data := .set #[] 0 (.fresh 0 0 (!w.params.followText "set-order")) } } (.ref s.heap.objs.size) "set" := ⟨_, hS, rfl⟩
      have hli := F.called_set.init.lookup
      have hbi := F.called_set.init.bind (.ref s.heap.objs.size)
      repeat (any_goals (first | assumption | wp_step))
      refine codeAny_mono (codeAny_call_builtin (R := wants (fun r s₂ => r = .none ∧ ∃ h' tk c, s₂ = { s with heap := h', toks := tk } ∧ SetR w h' s.heap.objs.size (fun j => decide (j ∈ ns)) c ∧ c ≤ ns.length ∧
          (∀ b o, s.heap.get? b = some o → h'.get? b = some o)) E) F.called_set.init.plain F.entry_set_init (check_set_init_1 hT ?_)) fun r₂ s₂ hr₂ => ?_
      · obtain ⟨ol, hol, hcl, nl, hdl⟩ := hl
        obtain ⟨ocls, odict, odata, oslots⟩ := ol
        simp only at hcl hdl
        subst hcl; subst hdl
        have hol' : (s.heap.push { cls := .type "set", dict := none, data := .set #[] 0 (.fresh 0 0 (!w.params.followText "set-order")) }).get? l = some { cls := .type "list", dict := odict, data := .seq items nl, slots := oslots } := Heap.get?_push_of_some _ hol
        have hsls := F.sub_list_set
        have hslf := F.sub_list_frozenset
        have hne : (Value.type "list" == Value.type "dict") = false := by decide
        have hl1 : (s.heap.push { cls := .type "set", dict := none, data := .set #[] 0 (.fresh 0 0 (!w.params.followText "set-order")) }).IsList l items := ⟨_, hol', rfl, nl, rfl⟩
        unfold Builtin.«set.__init__» noKeywords Builtin.Frozenset.updateFrom
        generalize hPI : pyIter = PI
        wp_walk
        subst hPI
        refine wpAny_pyIter_list hl1 ?_
        refine wpAny_bind (wpAny_runValue ?_)
        have hlS : l < s.heap.objs.size := Heap.lt_size hol
        have hh3 : A.in1.in1.in1.handled = none := by simp [hh]
        have hz1 : (s.heap.push { cls := .type "set", dict := none, data := .set #[] 0 (.fresh 0 0 (!w.params.followText "set-order")) }).objs.size = s.heap.objs.size + 1 := Heap.size_push ..
        have hneI : l ≠ (s.heap.push { cls := .type "set", dict := none, data := .set #[] 0 (.fresh 0 0 (!w.params.followText "set-order")) }).objs.size := by
          rw [Heap.size_push]; exact Nat.ne_of_lt (Nat.lt_succ_of_lt hlS)
        have hSf : s.heap.objs.size ∉ [(s.heap.push { cls := .type "set", dict := none, data := .set #[] 0 (.fresh 0 0 (!w.params.followText "set-order")) }).objs.size, l] := by
          rw [Heap.size_push]; simp only [List.mem_cons, List.mem_singleton, List.not_mem_nil, or_false, not_or]
          exact ⟨Nat.ne_of_lt (Nat.lt_succ_self _), Nat.ne_of_gt hlS⟩
        have hval : ∀ (i : Nat) (v : Value), items[i]? = some v → ∃ k t, ns[i]? = some k ∧ v = .int k t := fun i v hv => by
          have hi : i < ns.length := by rw [← hisz]; exact (Array.getElem?_eq_some_iff.mp hv).1
          obtain ⟨t, e⟩ := PyProof.Rows.IntsAre.int_at hit i v (by rw [Array.getElem?_toList]; exact hv)
          refine ⟨ns[i], t, List.getElem?_eq_getElem hi, ?_⟩
          rw [e, List.getD_eq_getElem?_getD, List.getElem?_eq_getElem hi] <;> rfl
        refine set_update_ints ((Walks.list hh3 _ l hneI items).toS) s.heap.objs.size
          hSf ns hisz hb hval (items.size - 0) 0 _ (by omega) (Nat.zero_le _)
          ⟨⟨_, Heap.get?_push_size _ rfl, rfl, rfl⟩, (hl1.push _)⟩ ?hS0 ?hR
        case hS0 =>
          have hget : ((s.heap.push { cls := .type "set", dict := none, data := .set #[] 0 (.fresh 0 0 (!w.params.followText "set-order")) }).push { cls := .type "list_iterator", data := .fields #[.ref l, .int 0 0] }).get? s.heap.objs.size
              = some { cls := .type "set", dict := none, data := .set #[] 0 (.fresh 0 0 (!w.params.followText "set-order")) } := Heap.get?_push_of_some _ hS
          exact ⟨0, Nat.le_refl 0, setR_new_at hget⟩
        case hR =>
          intro s' c' hm hc' hS'
          obtain ⟨h', g2, d', tk', os'⟩ := s'
          have eg : g2 = s.gens := hm.gens
          have ed : d' = s.drawn := hm.drawn
          have eo : os' = s.os := hm.os
          subst eg; subst ed; subst eo
          show wpAny _ _ _ _ _ _
          refine wpAny_pure ?_
          show wpAny _ _ (ret Value.none) _ _ _
          rw [hisz] at hc'
          refine wpAny_pure ⟨rfl, h', tk', c', rfl, hS', hc', fun b o e => ?_⟩
          have hb0 : b < s.heap.objs.size := Heap.lt_size e
          have hb1 : b ≠ s.heap.objs.size := Nat.ne_of_lt hb0
          have hb2 : b ≠ (s.heap.push { cls := .type "set", dict := none, data := .set #[] 0 (.fresh 0 0 (!w.params.followText "set-order")) }).objs.size := by
            rw [Heap.size_push]; exact Nat.ne_of_lt (Nat.lt_succ_of_lt hb0)
          exact hm.heap b o (by simp only [List.mem_cons, List.mem_singleton, List.not_mem_nil, or_false, not_or]; exact ⟨hb1, hb2⟩) (Heap.get?_push_of_some _ (Heap.get?_push_of_some _ e))
      · cases r₂ with
        | error e => exact hr₂
        | ok fl₂ =>
          cases fl₂ with
          | ret r =>
            obtain ⟨rfl, h', tk, c', rfl, hS', hc', hk'⟩ := hr₂
            repeat (any_goals (first | assumption | wp_step))
            exact h _ _ _ hS' hc' hk'
          | _ => exact hr₂.elim
    | _ => exact hr.elim
end
end L2
namespace Mi
open PySem PySem.Spec L2 PyProof.Rows
def ddI : List Int → List Int
  | [] => []
  | a :: l => if a ∈ l then ddI l else a :: ddI l
theorem ddI_mem : ∀ {l : List Int} {k : Int}, k ∈ ddI l ↔ k ∈ l
  | [], k => Iff.rfl
  | a :: l, k => by
    unfold ddI
    split
    · rename_i h
      rw [ddI_mem, List.mem_cons]
      exact ⟨.inr, fun q => q.elim (fun e => e ▸ h) id⟩
    · rw [List.mem_cons, List.mem_cons, ddI_mem]
theorem ddI_nodup : ∀ l : List Int, (ddI l).Nodup
  | [] => List.Pairwise.nil
  | a :: l => by
    unfold ddI
    split
    · exact ddI_nodup l
    · rename_i h
      exact List.nodup_cons.mpr ⟨fun q => h (ddI_mem.mp q), ddI_nodup l⟩
theorem sortDI_eq {ns out : List Int} (h : out.Pairwise (· < ·)) (m : ∀ k, k ∈ out ↔ k ∈ ns) : sortI (ddI ns) = out := by
  refine sortI_eq ?_ (h.imp fun q => Int.le_of_lt q)
  refine (List.perm_ext_iff_of_nodup (h.imp fun q => Int.ne_of_lt q) (ddI_nodup ns)).mpr fun k => ?_
  rw [ddI_mem, m]
section
variable {W : Wd} {E : XK} {X : Cx} {c : Cf} {v : V} {d : D} {ds : List D} {e : Expr} {st : Stmt} {Q : VK}
def tSortSetI (K : PySem.W.Frag) (ta : TE) : TE := fun σ H Q => ta σ H fun x H1 => ∃ (l : Addr) (xs : List Int), x = .ref l ∧ (SqL K H1 l (xs.map V.int) ∨ SqT K H1 l (xs.map V.int)) ∧ xs.length < 64 ∧ ∀ p, H1 p = none → Q (.ref p) (upd H1 p (.lst ((sortI (ddI xs)).map V.int)))
theorem pe_sortSetI {a : Expr} {ta : TE} {p p2 q pos : Pos} (hc : X.calm = true) (hg : Gl X "sorted") (hm : X.mg "sorted" = none) (hg2 : Gl X "set") (hm2 : X.mg "set" = none) (ha : PE X a ta)
    (na : starEach [a] X.env = (false, eval a X.env) :: starEach [] X.env := by rfl) : PE X (.Call (.Name "sorted" p) [.Call (.Name "set" p2) [a] [] q] [] pos) (tSortSetI X.K ta) := by
  refine ⟨fun pins s σ H Q I h => Call_ (ld_blt I hg hm boot_sorted (PyProof.Rows.callWith_builtin1 (PyProof.Rows.args_cons (Call_ (ld_blt I hg2 hm2 boot_set ?_)) rfl) rfl rfl))⟩
  refine PyProof.Rows.callWith_type1 (PyProof.Rows.args_cons (thn (ha.run pins s σ H _ I h) fun v s1 ⟨x, H1, I1, r1, l, xs, ex, hq, h1, q1⟩ => PyProof.Rows.args_nil ?_) na) na rfl
  subst ex
  cases r1
  have go : ∀ (h2 : Heap) (tk n : Nat), SetR X.w h2 s1.heap.objs.size (fun j => decide (j ∈ xs)) n → n ≤ xs.length → (∀ b o, s1.heap.get? b = some o → h2.get? b = some o) → wpAny (model X.prog X.w) X.A (call (.builtin "sorted") [.ref s1.heap.objs.size]) (EP X pins σ Q) X.xe { s1 with heap := h2, toks := tk } := by
    intro h2 tk n hS hn hk
    have I2 : Inv X pins σ H1 { s1 with heap := h2, toks := tk } := I1.kept fun b o e => hk b o e
    have e2 : ({ s1 with heap := h2, toks := tk } : Shared).heap = h2 := rfl
    rw [← e2] at hS
    generalize ({ s1 with heap := h2, toks := tk } : Shared) = s2 at I2 hS ⊢
    refine sorted_set hS (I1.ok.hd hc) (by omega) fun s' p out c ns k g o hp hg hi hs hm hl => ?_
    have hlen : (ns.map V.int).length ≤ sizeLine := by rw [List.length_map, hl, sizeLine_eq]; omega
    have hn2 : H1 p = none := I2.hok.fresh hp
    have J : Inv X pins σ (upd H1 p (.lst (ns.map V.int))) { s2 with heap := s'.heap, gens := s'.gens, drawn := s'.drawn, toks := s'.toks } :=
      I2.call (ch := []) (Un.laid k hp hn2) (I2.hok.laid k hp ⟨hlen, out.toList, c, vals_of_ints hi, hg⟩) (by rw [g]; exact I2.bare) (fun _ z => nomatch z)
    have e : s' = { s2 with heap := s'.heap, gens := s'.gens, drawn := s'.drawn, toks := s'.toks } := by
      cases s'
      cases s2
      cases o
      rfl
    rw [e]
    refine ⟨.ref p, _, J, rfl, ?_⟩
    have q2 := q1 p hn2
    rw [sortDI_eq hs fun k => by rw [hm]; exact decide_eq_true_iff] at q2
    exact q2
  rcases hq with hq | hq
  · obtain ⟨its, r, pl, hz⟩ := I1.list hq
    exact wpAny_mono (call_setLI xs (I1.ok.hd hc) pl.isList (by simpa using RZ.intsAre_vals r) (by unfold scanBound; omega) fun h' tk n a b c => go h' tk n a b c) (fun v s' h => PyProof.Rows.args_nil h) fun _ _ h => h
  · obtain ⟨its, r, pl, hz⟩ := I1.tuple hq
    exact wpAny_mono (call_set_tupI xs (I1.ok.hd hc) pl (by simpa using RZ.intsAre_vals r) (by unfold scanBound; omega) fun h' tk n a b c => go h' tk n a b c) (fun v s' h => PyProof.Rows.args_nil h) fun _ _ h => h
def mSortSetI (b : Bool) (a : ME) : ME := fun ρ μ => (a ρ μ).bind fun x μ => match (seqA μ x).bind intsD with
  | some ns => if ns.length < 64 then newL b ((sortI (ddI ns)).map .int) μ else .bad
  | none => .bad
theorem me_sortSetI {b : Bool} {a : ME} (h : PE X e (tSortSetI W.K (tE W E a))) : PE X e (tE W E (mSortSetI b a)) := pe_weak h fun σ H Q ⟨ρ, c, hH, ok, env, w⟩ =>
  ⟨ρ, c, hH, ok, env, wp_bind w fun v x c1 s1 ok1 r1 w1 => by
    split at w1
    · rename_i ss es
      split at w1
      · rename_i hl
        cases e1 : seqA c1.μ x with
        | none => rw [e1] at es; cases es
        | some ds =>
          rw [e1] at es
          obtain ⟨a, us, rfl, h1, h2⟩ := seqA_ok ok1 r1 e1
          have ev := intsD_ok h2 es
          subst ev
          refine ⟨a, ss, rfl, h1, hl, fun p hn => ?_⟩
          exact wp_newL w1 ok1 dpa_ints hn
      · exact w1.elim
    · exact w1.elim⟩
end
end Mi
namespace K29
open PySem PySem.Spec L2 Mi
noncomputable def b_is_name : MS := (mRet (mAndV (mUn (fIsS (.ty "str")) (mVar 0)) (mAndV (mChain fLt (fI2 fun i j => .bl (decide (i ≤ j))) (mC (.int 0)) (mCb fLen (mCons (mVar 0) mNil)) (mC (.int 6))) (mCb (fAll false) (mCons (mLc false (miAny (mVar 0)) (lgName 1) mYes (mChain fLeS fLeS (mC (.str "a")) (mVar 1) (mC (.str "z"))) [1]) mNil)))))
noncomputable def m_is_name : List D → Store → Res D := mFn 2 1 b_is_name
noncomputable def b_are_names : MS := (mSeq (mIfS (mOr (mNot (mB (mUn (fIsS (.ty "tuple")) (mVar 0)))) (mNot (mB (mCb (fAll false) (mCons (mLc false (miAny (mVar 0)) (lgName 1) mYes (mCall m_is_name (mCons (mVar 1) mNil)) [1]) mNil))))) (mRet (mC (.bl false))) mNext)
  (mRet (mCb (fAll false) (mCons (mLc false (miZip (mVar 0) (mSl false (mVar 0) (moSome (mC (.int 1))) moNone)) (lgTup2 2 3) mYes (mOp fLt (mVar 2) (mVar 3)) [2, 3]) mNil))))
noncomputable def m_are_names : List D → Store → Res D := mFn 4 1 b_are_names
noncomputable def b_is_row : MS := (mSeq (mIfS (mB (mOp (fIsN false) (mVar 0) (mC .non))) (mRet (mC (.bl true))) mNext)
  (mSeq (mIfS (mOr (mNot (mB (mUn (fIsS (.ty "tuple")) (mVar 0)))) (mOr (mB (mOp (fEq true) (mCb fLen (mCons (mVar 0) mNil)) (mC (.int 3)))) (mNot (mB (mUn (fIsS (.ty "bool")) (mOp fIx (mVar 0) (mC (.int 2)))))))) (mRet (mC (.bl false))) mNext)
  (mSeq (mAsg (mVar 0) (mgTup 3 (mgCons (mgName 1) (mgCons (mgName 2) (mgCons (mgName 3) mgNil)))))
  (mSeq (mIfS (mOr (mNot (mB (mCall m_are_names (mCons (mVar 1) mNil)))) (mNot (mB (mCall m_are_names (mCons (mVar 2) mNil))))) (mRet (mC (.bl false))) mNext)
  (mRet (mCb (fAll false) (mCons (mLc false (miAny (mVar 1)) (lgName 4) mYes (mOp (fEq true) (mOp (fIn false) (mVar 4) (mVar 2)) (mVar 3)) [4]) mNil)))))))
noncomputable def m_is_row : List D → Store → Res D := mFn 5 1 b_is_row
noncomputable def b_Staircase_dinitd : MS := (mSeq (mIfS (mOr (mNot (mB (mUn (fIsL [(.ty "list"), (.ty "tuple")]) (mVar 1)))) (mB (mOp (fEq false) (mCb fLen (mCons (mVar 1) mNil)) (mC (.int 0))))) (mRaiseF "BadRow" "index" (mCons (mC (.int 0)) mNil)) mNext)
  (mSeq (mFor (miEnum (mCons (mVar 1) mNil)) (mgTup 2 (mgCons (mgName 2) (mgCons (mgName 3) mgNil))) (mIfS (mNot (mB (mCall m_is_row (mCons (mVar 3) mNil)))) (mRaiseF "BadRow" "index" (mCons (mVar 2) mNil)) mNext))
  (mSeq (mSet 4 (mCb (fList true) (mCons (mVar 1) mNil)))
  (mSeq (mWhile (mAnd (mB (mOp (fI2 fun i j => .bl (decide (j < i))) (mCb fLen (mCons (mVar 4) mNil)) (mC (.int 1)))) (mB (mOp (fEq false) (mOp fIx (mVar 4) (mUn fNeg (mC (.int 1)))) (mOp fIx (mVar 4) (mUn fNeg (mC (.int 2))))))) (mDrop (mBm "list" fPop0 (mVar 4) mNil)))
  (mPutF ["Staircase"] "own_rows" (mVar 0) (mCb fTuple (mCons (mVar 4) mNil)))))))
noncomputable def m_Staircase_dinitd : List D → Store → Res D := mFn 5 2 b_Staircase_dinitd
noncomputable def b_Lbegin : MS := (mRet (mLst true (mCons (mCb fMax2 (mCons (mC (.int 0)) (mCons (mOp (fI2 fun i j => .int (i - j)) (mVar 0) (mOp (fI2c Cs.CPowW fun i j => .int (i ^ j.toNat)) (mC (.int 10)) (mC (.int 18)))) mNil))) (mCons (mOp (fAdd false) (mVar 0) (mOp (fMul false) (mC (.int 977)) (mVar 1))) (mCons (mC (.int 0)) mNil)))))
noncomputable def m_Lbegin : List D → Store → Res D := mFn 2 2 b_Lbegin
noncomputable def b_Ldraw : MS := (mSeq (mIfS (mB (mOp (fI2 fun i j => .bl (decide (j < i))) (mOp fIx (mVar 0) (mC (.int 0))) (mC (.int 0)))) (mSeq (mSet 2 (mOp (fI2c (fun _ j => j ≠ 0) fun i j => .int (i.fmod j)) (mOp fIx (mVar 0) (mC (.int 0))) (mVar 1)))
  (mSeq (mAsg (mOp (fI2c CDivN fun i j => .int (i.fdiv j)) (mOp fIx (mVar 0) (mC (.int 0))) (mVar 1)) (mgSubL (mVar 0) (mC (.int 0))))
  (mRet (mVar 2)))) mNext)
  (mSeq (mAsg (mOp (fAdd false) (mOp fIx (mVar 0) (mC (.int 2))) (mC (.int 1))) (mgSubL (mVar 0) (mC (.int 2))))
  (mSeq (mSet 2 (mOp (fAdd false) (mOp (fI2c (fun _ j => j ≠ 0) fun i j => .int (i.fmod j)) (mOp fIx (mVar 0) (mC (.int 1))) (mC (.int 2147483629))) (mOp (fMul false) (mC (.int 104729)) (mOp fIx (mVar 0) (mC (.int 2))))))
  (mSeq (mSet 2 (mOp (fMul false) (mVar 2) (mOp (fAdd false) (mOp (fAdd false) (mOp (fI2c (fun _ j => j ≠ 0) fun i j => .int (i.fmod j)) (mOp fIx (mVar 0) (mC (.int 1))) (mC (.int 2147483587))) (mOp (fMul false) (mOp (fMul false) (mC (.int 7919)) (mOp fIx (mVar 0) (mC (.int 2)))) (mOp fIx (mVar 0) (mC (.int 2))))) (mC (.int 11)))))
  (mRet (mOp (fI2c (fun _ j => j ≠ 0) fun i j => .int (i.fmod j)) (mOp (fI2c CDivN fun i j => .int (i.fdiv j)) (mOp (fI2c (fun _ j => j ≠ 0) fun i j => .int (i.fmod j)) (mOp (fI2c Cs.CPowW fun i j => .int (i ^ j.toNat)) (mVar 2) (mC (.int 3))) (mC (.int 2147483647))) (mC (.int 11))) (mVar 1)))))))
noncomputable def m_Ldraw : List D → Store → Res D := mFn 3 2 b_Ldraw
noncomputable def b_Lis_right : MS := (mSeq (mIfS (mOr (mNot (mB (mUn (fIsL [(.ty "list"), (.ty "tuple")]) (mVar 0)))) (mB (mOp (fI2 fun i j => .bl (decide (j < i))) (mCb fLen (mCons (mVar 0) mNil)) (mC (.int 6))))) (mRet (mC (.bl false))) mNext)
  (mSeq (mFor (miRng1 (mCons (mCb fLen (mCons (mVar 0) mNil)) mNil)) (mgName 1) (mSeq (mIfS (mOr (mNot (mB (mUn (fIsS (.ty "int")) (mOp fIx (mVar 0) (mVar 1))))) (mOr (mB (mUn (fIsS (.ty "bool")) (mOp fIx (mVar 0) (mVar 1)))) (mNot (mB (mChain (fI2 fun i j => .bl (decide (i ≤ j))) (fI2 fun i j => .bl (decide (i ≤ j))) (mC (.int 0)) (mOp fIx (mVar 0) (mVar 1)) (mC (.int 100))))))) (mRet (mC (.bl false))) mNext)
  (mIfS (mAnd (mB (mOp (fI2 fun i j => .bl (decide (j < i))) (mVar 1) (mC (.int 0)))) (mB (mOp (fI2 fun i j => .bl (decide (j ≤ i))) (mOp fIx (mVar 0) (mOp (fI2 fun i j => .int (i - j)) (mVar 1) (mC (.int 1)))) (mOp fIx (mVar 0) (mVar 1))))) (mRet (mC (.bl false))) mNext)))
  (mRet (mC (.bl true)))))
noncomputable def m_Lis_right : List D → Store → Res D := mFn 2 1 b_Lis_right
noncomputable def b_Lpick : MS := (mRet (mOp fIx (mVar 1) (mCall m_Ldraw (mCons (mVar 0) (mCons (mCb fLen (mCons (mVar 1) mNil)) mNil)))))
noncomputable def m_Lpick : List D → Store → Res D := mFn 2 2 b_Lpick
noncomputable def b_Lshuffled : MS := (mSeq (mPar 2 3 (mCons (mCb (fList true) (mCons (mVar 1) mNil)) (mCons (mLst true mNil) mNil)))
  (mSeq (mWhile (mB (mOp (fEq true) (mVar 2) (mLst false mNil))) (mDrop (mBm "list" fAppend (mVar 3) (mCons (mBm "list" fPopAt (mVar 2) (mCons (mCall m_Ldraw (mCons (mVar 0) (mCons (mCb fLen (mCons (mVar 2) mNil)) mNil))) mNil)) mNil))))
  (mFrz 3 (mRet (mVar 3)))))
noncomputable def m_Lshuffled : List D → Store → Res D := mFn 4 2 b_Lshuffled
noncomputable def b_Lpool : MS := (mSeq (mSet 2 (mLst false (mCons (mC (.str "a")) (mCons (mC (.str "b")) (mCons (mC (.str "c")) (mCons (mC (.str "d")) (mCons (mC (.str "aa")) (mCons (mC (.str "ab")) (mCons (mC (.str "def")) (mCons (mC (.str "call")) (mCons (mC (.str "site")) (mCons (mC (.str "rest")) (mCons (mC (.str "more")) (mCons (mC (.str "self")) (mCons (mC (.str "zzzzzz")) mNil)))))))))))))))
  (mRet (mSl false (mCall m_Lshuffled (mCons (mVar 0) (mCons (mVar 2) mNil))) moNone (moSome (mVar 1)))))
noncomputable def m_Lpool : List D → Store → Res D := mFn 3 2 b_Lpool
noncomputable def b_Lrandom_row : MS := (mSeq (mIfS (mB (mOp (fEq false) (mCall m_Ldraw (mCons (mVar 0) (mCons (mC (.int 5)) mNil))) (mC (.int 0)))) (mRet (mC .non)) mNext)
  (mSeq (mSet 2 (mLc false (miAny (mCb (fSorted false) (mCons (mVar 1) mNil))) (lgName 3) (mB (mOp (fEq false) (mCall m_Ldraw (mCons (mVar 0) (mCons (mC (.int 4)) mNil))) (mC (.int 0)))) (mVar 3) [3]))
  (mSeq (mSet 4 (mLc false (miAny (mCb (fSorted false) (mCons (mVar 1) mNil))) (lgName 3) (mAnd (mB (mOp (fIn true) (mVar 3) (mVar 2))) (mB (mOp (fEq false) (mCall m_Ldraw (mCons (mVar 0) (mCons (mC (.int 2)) mNil))) (mC (.int 0))))) (mVar 3) [3]))
  (mSeq (mIfS (mB (mOp (fEq false) (mCall m_Ldraw (mCons (mVar 0) (mCons (mC (.int 3)) mNil))) (mC (.int 0)))) (mRet (mTup (mCons (mCb fTuple (mCons (mVar 2) mNil)) (mCons (mCb fTuple (mCons (mVar 4) mNil)) (mCons (mC (.bl true)) mNil))))) mNext)
  (mRet (mTup (mCons (mCb fTuple (mCons (mVar 2) mNil)) (mCons (mCb fTuple (mCons (mCb (fSorted false) (mCons (mOp (fAdd false) (mVar 2) (mVar 4)) mNil)) mNil)) (mCons (mC (.bl false)) mNil)))))))))
noncomputable def m_Lrandom_row : List D → Store → Res D := mFn 5 2 b_Lrandom_row
noncomputable def b_Lrandom_rows : MS := (mSeq (mIfS (mB (mOp (fEq false) (mCall m_Ldraw (mCons (mVar 0) (mCons (mC (.int 2)) mNil))) (mC (.int 0)))) (mRet (mLc false (miRng1 (mCons (mOp (fAdd false) (mC (.int 1)) (mCall m_Ldraw (mCons (mVar 0) (mCons (mVar 2) mNil)))) mNil)) (lgName 3) mYes (mCall m_Lrandom_row (mCons (mVar 0) (mCons (mVar 1) mNil))) [3])) mNext)
  (mSeq (mSet 4 (mLc true (miRng1 (mCons (mOp (fAdd false) (mC (.int 1)) (mCall m_Ldraw (mCons (mVar 0) (mCons (mC (.int 2)) mNil)))) mNil)) (lgName 3) mYes (mCall m_Lrandom_row (mCons (mVar 0) (mCons (mVar 1) mNil))) [3]))
  (mSeq (mWhile (mAnd (mB (mOp fLt (mCb fLen (mCons (mVar 4) mNil)) (mVar 2))) (mB (mOp (fI2 fun i j => .bl (decide (j < i))) (mCall m_Ldraw (mCons (mVar 0) (mCons (mC (.int 5)) mNil))) (mC (.int 0))))) (mSeq (mSet 5 (mOp fIx (mVar 4) (mUn fNeg (mC (.int 1)))))
  (mSeq (mSet 6 (mIf (mB (mOp (fIsN true) (mVar 5) (mC .non))) (mLc false (miAny (mVar 1)) (lgName 7) (mB (mOp (fEq true) (mOp (fIn false) (mVar 7) (mOp fIx (mVar 5) (mC (.int 1)))) (mOp fIx (mVar 5) (mC (.int 2))))) (mVar 7) [7]) (mLst false mNil)))
  (mSeq (mIfS (mAnd (mB (mOp (fEq true) (mVar 6) (mLst false mNil))) (mB (mOp (fI2 fun i j => .bl (decide (j < i))) (mCall m_Ldraw (mCons (mVar 0) (mCons (mC (.int 3)) mNil))) (mC (.int 0))))) (mSeq (mSet 7 (mCall m_Lpick (mCons (mVar 0) (mCons (mVar 6) mNil))))
  (mSeq (mSet 8 (mCb fTuple (mCons (mLc false (miAny (mOp fIx (mVar 5) (mC (.int 0)))) (lgName 9) (mB (mOp (fEq true) (mVar 9) (mVar 7))) (mVar 9) [9]) mNil)))
  (mIfS (mB (mOp fIx (mVar 5) (mC (.int 2)))) (mSet 5 (mTup (mCons (mVar 8) (mCons (mCb fTuple (mCons (mSortSet false (mOp (fAdd false) (mOp fIx (mVar 5) (mC (.int 1))) (mTup (mCons (mVar 7) mNil)))) mNil)) (mCons (mC (.bl true)) mNil))))) (mSet 5 (mTup (mCons (mVar 8) (mCons (mCb fTuple (mCons (mLc false (miAny (mOp fIx (mVar 5) (mC (.int 1)))) (lgName 9) (mB (mOp (fEq true) (mVar 9) (mVar 7))) (mVar 9) [9]) mNil)) (mCons (mC (.bl false)) mNil)))))))) mNext)
  (mDrop (mBm "list" fAppend (mVar 4) (mCons (mVar 5) mNil)))))))
  (mRet (mOp (fAdd false) (mVar 4) (mOp (fMul false) (mLst true (mCons (mC .non) mNil)) (mCall m_Ldraw (mCons (mVar 0) (mCons (mC (.int 2)) mNil)))))))))
noncomputable def m_Lrandom_rows : List D → Store → Res D := mFn 10 3 b_Lrandom_rows
noncomputable def b_lost_between : MS := (mSeq (mIfS (mB (mOp (fEq true) (mOp fIx (mVar 0) (mC (.int 2))) (mOp fIx (mVar 1) (mC (.int 2))))) (mRet (mC .non)) mNext)
  (mSeq (mAsg (mIf (mB (mOp fIx (mVar 0) (mC (.int 2)))) (mTup (mCons (mOp fIx (mVar 1) (mC (.int 1))) (mCons (mOp fIx (mVar 0) (mC (.int 1))) mNil))) (mTup (mCons (mOp fIx (mVar 0) (mC (.int 1))) (mCons (mOp fIx (mVar 1) (mC (.int 1))) mNil)))) (mgTup 2 (mgCons (mgName 2) (mgCons (mgName 3) mgNil))))
  (mSeq (mIfS (mNot (mB (mCb (fAll false) (mCons (mLc false (miAny (mVar 3)) (lgName 4) mYes (mOp (fIn false) (mVar 4) (mVar 2)) [4]) mNil)))) (mRet (mC .non)) mNext)
  (mSeq (mSet 5 (mLc false (miAny (mVar 2)) (lgName 4) (mB (mOp (fIn true) (mVar 4) (mVar 3))) (mVar 4) [4]))
  (mRet (mIf (mB (mOp (fEq false) (mOp fIx (mVar 1) (mC (.int 0))) (mCb fTuple (mCons (mLc false (miAny (mOp fIx (mVar 0) (mC (.int 0)))) (lgName 4) (mB (mOp (fIn true) (mVar 4) (mVar 5))) (mVar 4) [4]) mNil)))) (mVar 5) (mC .non)))))))
noncomputable def m_lost_between : List D → Store → Res D := mFn 6 2 b_lost_between
noncomputable def b_Fit_dinitd : MS := (mSeq (mPutF ["Fit"] "full" (mVar 0) (mLc false (miAny (mVar 1)) (lgTup2 2 3) (mB (mOp (fIsN true) (mVar 3) (mC .non))) (mTup (mCons (mVar 2) (mCons (mVar 3) mNil))) [2, 3]))
  (mSeq (mAsg (mTup (mCons (mOp fIx (mOp fIx (mFld ["Fit"] "full" (mVar 0)) (mC (.int 0))) (mC (.int 0))) (mCons (mOp fIx (mOp fIx (mFld ["Fit"] "full" (mVar 0)) (mUn fNeg (mC (.int 1)))) (mC (.int 0))) mNil))) (mgTup 2 (mgCons (mgAttr ["Fit"] "first" (mVar 0)) (mgCons (mgAttr ["Fit"] "last" (mVar 0)) mgNil))))
  (mSeq (mSet 4 (mLc false (miAny (mVar 1)) (lgTup2 2 3) (mB (mOp (fIsN false) (mVar 3) (mC .non))) (mVar 2) [2, 3]))
  (mSeq (mPutF ["Fit"] "is_bounded" (mVar 0) (mCb (fAll true) (mCons (mLc false (miAny (mVar 4)) (lgName 2) mYes (mOp (fI2 fun i j => .bl (decide (j < i))) (mVar 2) (mFld ["Fit"] "last" (mVar 0))) [2]) mNil)))
  (mSeq (mPutF ["Fit"] "is_torn" (mVar 0) (mCb (fAll true) (mCons (mLc false (miAny (mVar 4)) (lgName 2) mYes (mChain fLt fLt (mFld ["Fit"] "first" (mVar 0)) (mVar 2) (mFld ["Fit"] "last" (mVar 0))) [2]) mNil)))
  (mSeq (mPutF ["Fit"] "losses" (mVar 0) (mLst true mNil))
  (mFor (miZip (mFld ["Fit"] "full" (mVar 0)) (mSl false (mFld ["Fit"] "full" (mVar 0)) (moSome (mC (.int 1))) moNone)) (mgTup 2 (mgCons (mgTup 2 (mgCons (mgName 2) (mgCons (mgName 3) mgNil))) (mgCons (mgTup 2 (mgCons (mgName 5) (mgCons (mgName 6) mgNil))) mgNil))) (mDrop (mBm "list" fAppend (mFld ["Fit"] "losses" (mVar 0)) (mCons (mTup (mCons (mVar 2) (mCons (mVar 5) (mCons (mCall m_lost_between (mCons (mVar 3) (mCons (mVar 6) mNil))) (mCons (mOp fIx (mVar 3) (mC (.int 0))) mNil))))) mNil))))))))))
noncomputable def m_Fit_dinitd : List D → Store → Res D := mFn 7 2 b_Fit_dinitd
noncomputable def b_Fit_is_ordered : MS := (mSeq (mSet 1 (mC (.bl false)))
  (mSeq (mFor (miAny (mFld ["Fit"] "losses" (mVar 0))) (mgTup 4 (mgCons (mgName 2) (mgCons (mgName 3) (mgCons (mgName 4) (mgCons (mgName 5) mgNil))))) (mSeq (mIfS (mAnd (mB (mVar 1)) (mB (mCb (fAll true) (mCons (mLc false (miAny (mVar 4)) (lgName 6) mYes (mOp (fIn false) (mVar 6) (mVar 5)) [6]) mNil)))) (mRet (mC (.bl false))) mNext)
  (mSet 1 (mOrV (mVar 1) (mCb (fAll true) (mCons (mLc false (miAny (mVar 4)) (lgName 6) mYes (mOp (fIn true) (mVar 6) (mVar 5)) [6]) mNil))))))
  (mRet (mC (.bl true)))))
noncomputable def m_Fit_is_ordered : List D → Store → Res D := mFn 7 1 b_Fit_is_ordered
noncomputable def b_Fit_loses_needed : MS := (mRet (mCb (fAll true) (mCons (mLc2 false (miAny (mFld ["Fit"] "losses" (mVar 0))) (lgTup4 1 2 3 4) mYes (miAny (mVar 3)) (lgName 5) mYes (mOp (fIn false) (mVar 5) (mVar 4)) [1, 2, 3, 4, 5] [5]) mNil)))
noncomputable def m_Fit_loses_needed : List D → Store → Res D := mFn 6 1 b_Fit_loses_needed
noncomputable def b_Fit_allows : MS := (mSeq (mIfS (mAnd (mB (mOp fLt (mVar 2) (mFld ["Fit"] "last" (mVar 0)))) (mB (mFld ["Fit"] "is_bounded" (mVar 0)))) (mRet (mC (.bl false))) mNext)
  (mRet (mOrV (mOp (fI2 fun i j => .bl (decide (i ≤ j))) (mVar 1) (mFld ["Fit"] "first" (mVar 0))) (mNotV (mMeth "Fit" "loses_needed" m_Fit_loses_needed (mVar 0) mNil)))))
noncomputable def m_Fit_allows : List D → Store → Res D := mFn 3 3 b_Fit_allows
noncomputable def b_Fit_is_steady : MS := (mSeq (mSet 1 (mLc false (miEnum (mCons (mFld ["Fit"] "losses" (mVar 0)) mNil)) (lgTup2 2 3) (mB (mOp (fEq true) (mOp fIx (mVar 3) (mC (.int 2))) (mLst false mNil))) (mVar 2) [2, 3]))
  (mSeq (mIfS (mB (mOp (fEq false) (mVar 1) (mLst false mNil))) (mRet (mC (.bl true))) mNext)
  (mSeq (mPar 4 5 (mCons (mOp fIx (mVar 1) (mC (.int 0))) (mCons (mOp fIx (mVar 1) (mUn fNeg (mC (.int 1)))) mNil)))
  (mSeq (mFor (miRng2 (mCons (mVar 4) (mCons (mOp (fAdd false) (mVar 5) (mC (.int 1))) mNil))) (mgName 2) (mSeq (mAsg (mOp fIx (mFld ["Fit"] "losses" (mVar 0)) (mVar 2)) (mgTup 4 (mgCons (mgName 6) (mgCons (mgName 7) (mgCons (mgName 8) (mgCons (mgName 9) mgNil))))))
  (mIfS (mOr (mB (mOp (fI2 fun i j => .bl (decide (j < i))) (mCb fLen (mCons (mVar 8) mNil)) (mOp (fI2 fun i j => .int (i - j)) (mVar 7) (mVar 6)))) (mAnd (mB (mChain fLt fLt (mVar 4) (mVar 2) (mVar 5))) (mB (mOp fLt (mCb fLen (mCons (mVar 8) mNil)) (mOp (fI2 fun i j => .int (i - j)) (mVar 7) (mVar 6)))))) (mRet (mC (.bl false))) mNext)))
  (mSeq (mSet 10 (mOp (fI2 fun i j => .int (i - j)) (mOp fIx (mOp fIx (mFld ["Fit"] "losses" (mVar 0)) (mVar 4)) (mC (.int 1))) (mCb fLen (mCons (mOp fIx (mOp fIx (mFld ["Fit"] "losses" (mVar 0)) (mVar 4)) (mC (.int 2))) mNil))))
  (mSeq (mSet 11 (mOp (fAdd false) (mOp fIx (mOp fIx (mFld ["Fit"] "losses" (mVar 0)) (mVar 5)) (mC (.int 0))) (mCb fLen (mCons (mOp fIx (mOp fIx (mFld ["Fit"] "losses" (mVar 0)) (mVar 5)) (mC (.int 2))) mNil))))
  (mSeq (mIfS (mB (mOp fLt (mVar 4) (mVar 5))) (mRet (mMeth "Fit" "allows" m_Fit_allows (mVar 0) (mCons (mVar 10) (mCons (mVar 11) mNil)))) mNext)
  (mRet (mOrV (mMeth "Fit" "allows" m_Fit_allows (mVar 0) (mCons (mVar 10) (mCons (mOp fIx (mOp fIx (mFld ["Fit"] "losses" (mVar 0)) (mVar 5)) (mC (.int 1))) mNil))) (mMeth "Fit" "allows" m_Fit_allows (mVar 0) (mCons (mOp fIx (mOp fIx (mFld ["Fit"] "losses" (mVar 0)) (mVar 4)) (mC (.int 0))) (mCons (mVar 11) mNil))))))))))))
noncomputable def m_Fit_is_steady : List D → Store → Res D := mFn 12 1 b_Fit_is_steady
noncomputable def b_Fit_is_possible : MS := (mSeq (mIfS (mOr (mB (mFld ["Fit"] "is_torn" (mVar 0))) (mB (mCb (fAll true) (mCons (mLc false (miAny (mFld ["Fit"] "losses" (mVar 0))) (lgTup4 1 2 3 4) mYes (mOp (fIsN false) (mVar 3) (mC .non)) [1, 2, 3, 4]) mNil)))) (mRet (mC (.bl false))) mNext)
  (mRet (mAndV (mMeth "Fit" "is_ordered" m_Fit_is_ordered (mVar 0) mNil) (mMeth "Fit" "is_steady" m_Fit_is_steady (mVar 0) mNil))))
noncomputable def m_Fit_is_possible : List D → Store → Res D := mFn 5 1 b_Fit_is_possible
noncomputable def b_Staircase_row : MS := (mRet (mOp fIx (mFld ["Staircase"] "own_rows" (mVar 0)) (mCb fMin2 (mCons (mVar 1) (mCons (mOp (fI2 fun i j => .int (i - j)) (mCb fLen (mCons (mFld ["Staircase"] "own_rows" (mVar 0)) mNil)) (mC (.int 1))) mNil)))))
noncomputable def m_Staircase_row : List D → Store → Res D := mFn 2 2 b_Staircase_row
noncomputable def b_rows_fit : MS := (mSeq (mSet 2 (mLc false (miAny (mVar 1)) (lgName 3) mYes (mTup (mCons (mVar 3) (mCons (mMeth "Staircase" "row" m_Staircase_row (mVar 0) (mCons (mVar 3) mNil)) mNil))) [3]))
  (mSeq (mIfS (mB (mCb (fAll false) (mCons (mLc false (miAny (mVar 2)) (lgTup2 3 4) mYes (mOp (fIsN false) (mVar 4) (mC .non)) [3, 4]) mNil))) (mRet (mC (.bl true))) mNext)
  (mRet (mMeth "Fit" "is_possible" m_Fit_is_possible (mMake true "Fit" m_Fit_dinitd (mCons (mVar 2) mNil)) mNil))))
noncomputable def m_rows_fit : List D → Store → Res D := mFn 5 2 b_rows_fit
noncomputable def b_fit_together : MS := (mSeq (mIfS (mOr (mNot (mB (mUn (fIsL [(.ty "list"), (.ty "tuple")]) (mVar 1)))) (mB (mOp (fI2 fun i j => .bl (decide (j < i))) (mCb fLen (mCons (mVar 1) mNil)) (mC (.int 6))))) (mRaise "BadCounts") mNext)
  (mSeq (mIfS (mNot (mB (mCb (fAll false) (mCons (mLc false (miAny (mVar 1)) (lgName 2) mYes (mAndV (mUn (fIsS (.ty "int")) (mVar 2)) (mAndV (mNotV (mUn (fIsS (.ty "bool")) (mVar 2))) (mChain (fI2 fun i j => .bl (decide (i ≤ j))) (fI2 fun i j => .bl (decide (i ≤ j))) (mC (.int 0)) (mVar 2) (mC (.int 100))))) [2]) mNil)))) (mRaise "BadCounts") mNext)
  (mSeq (mIfS (mNot (mB (mCb (fAll false) (mCons (mLc false (miZip (mVar 1) (mSl false (mVar 1) (moSome (mC (.int 1))) moNone)) (lgTup2 2 3) mYes (mOp fLt (mVar 2) (mVar 3)) [2, 3]) mNil)))) (mRaise "BadCounts") mNext)
  (mRet (mCall m_rows_fit (mCons (mVar 0) (mCons (mVar 1) mNil)))))))
noncomputable def m_fit_together : List D → Store → Res D := mFn 4 2 b_fit_together
noncomputable def b_Ltold : MS := (mSeq (mSet 2 (mC .non))
  (mSeq (mTryA "CallError" 4 2 3 (mArgs (mCons (mVar 0) (mCons (mVar 1) mNil)) m_fit_together))
  (mSeq (mIfS (mB (mOp (fIsN false) (mVar 2) (mC .non))) (mRet (mVar 3)) mNext)
  (mRet (mAndV (mUn (fIsS (.cls "BadCounts")) (mVar 2)) (mAndV (mNotV (mUn (fIsL [(.cls "BadCall"), (.cls "BadRow"), (.cls "BadSignature")]) (mVar 2))) (mC (.str "counts"))))))))
noncomputable def m_Ltold : List D → Store → Res D := mFn 5 2 b_Ltold
noncomputable def b_law : MS := (mSeq (mFor (miEnum (mCons (mSl false (mOrT (mVar 0) (mLst false (mCons (mC (.int 5)) mNil))) moNone (moSome (mC (.int 6)))) mNil)) (mgTup 2 (mgCons (mgName 1) (mgCons (mgName 2) mgNil))) (mSeq (mSet 3 (mCall m_Lbegin (mCons (mVar 2) (mCons (mVar 1) mNil))))
  (mSeq (mSet 4 (mCall m_Lpool (mCons (mVar 3) (mCons (mC (.int 3)) mNil))))
  (mSeq (mSet 5 (mMake true "Staircase" m_Staircase_dinitd (mCons (mCall m_Lrandom_rows (mCons (mVar 3) (mCons (mVar 4) (mCons (mC (.int 5)) mNil)))) mNil)))
  (mSeq (mIfS (mOr (mB (mOp (fIsB true) (mCall m_fit_together (mCons (mVar 5) (mCons (mTup mNil) mNil))) (mC (.bl true)))) (mB (mOp (fIsB true) (mCallK 0 2 [1, 0] m_fit_together mNil (mCons (mLst false mNil) (mCons (mVar 5) mNil))) (mC (.bl true))))) (mRet (mC (.bl false))) mNext)
  (mSeq (mFor (miRng1 (mCons (mC (.int 8)) mNil)) (mgName 6) (mSeq (mSet 7 (mLc false (miRng1 (mCons (mCall m_Ldraw (mCons (mVar 3) (mCons (mC (.int 8)) mNil))) mNil)) (lgName 8) mYes (mCall m_Lpick (mCons (mVar 3) (mCons (mLst false (mCons (mC (.int 0)) (mCons (mC (.int 1)) (mCons (mC (.int 2)) (mCons (mC (.int 3)) (mCons (mC (.int 4)) (mCons (mC (.int 5)) (mCons (mC (.int 50)) (mCons (mC (.int 99)) (mCons (mC (.int 100)) mNil)))))))))) mNil))) [8]))
  (mSeq (mSet 7 (mSortSetI false (mVar 7)))
  (mSeq (mFor (miRng1 (mCons (mCall m_Ldraw (mCons (mVar 3) (mCons (mC (.int 3)) mNil))) mNil)) (mgName 9) (mSeq (mSet 10 (mCall m_Ldraw (mCons (mVar 3) (mCons (mOp (fAdd false) (mCb fLen (mCons (mVar 7) mNil)) (mC (.int 1))) mNil))))
  (mSeq (mSet 11 (mCall m_Lpick (mCons (mVar 3) (mCons (mLst false (mCons (mUn fNeg (mC (.int 1))) (mCons (mC (.int 101)) (mCons (mC (.bl true)) (mCons (mC (.bl false)) (mCons (mC .non) (mCons (mC (.str "1")) (mCons (mTup (mCons (mC (.int 1)) mNil)) (mCons (mC (.int 0)) (mCons (mC (.int 100)) (mCons (mOp (fI2c Cs.CPowW fun i j => .int (i ^ j.toNat)) (mC (.int 10)) (mC (.int 14))) mNil))))))))))) mNil))))
  (mSet 7 (mOp (fAdd false) (mOp (fAdd false) (mSl false (mVar 7) moNone (moSome (mVar 10))) (mLst false (mCons (mVar 11) mNil))) (mSl false (mVar 7) (moSome (mOp (fAdd false) (mVar 10) (mCall m_Ldraw (mCons (mVar 3) (mCons (mC (.int 2)) mNil))))) moNone))))))
  (mSeq (mSet 12 (mIf (mB (mOp (fEq false) (mCall m_Ldraw (mCons (mVar 3) (mCons (mC (.int 2)) mNil))) (mC (.int 0)))) (mCb fTuple (mCons (mVar 7) mNil)) (mVar 7)))
  (mSeq (mPar 13 14 (mCons (mCb fRepr (mCons (mVar 12) mNil)) (mCons (mCall m_Ltold (mCons (mVar 5) (mCons (mVar 12) mNil))) mNil)))
  (mSeq (mIfS (mOr (mB (mOp (fEq true) (mCall m_Lis_right (mCons (mVar 12) mNil)) (mUn (fIsS (.ty "bool")) (mVar 14)))) (mB (mOp (fIn true) (mVar 14) (mTup (mCons (mC (.bl true)) (mCons (mC (.bl false)) (mCons (mC (.str "counts")) mNil))))))) (mRet (mC (.bl false))) mNext)
  (mIfS (mB (mOp (fEq true) (mCb fRepr (mCons (mVar 12) mNil)) (mVar 13))) (mRet (mC (.bl false))) mNext))))))))
  (mIfS (mB (mOp (fEq true) (mCall m_Ltold (mCons (mVar 5) (mCons (mCall m_Lpick (mCons (mVar 3) (mCons (mLst false (mCons (mC .non) (mCons (mC (.int 5)) (mCons (mC (.str "")) (mCons (mC (.str "01")) (mCons (mDNew false) (mCons (mDisp false [((mC (.int 0)), (mC (.int 1)))]) (mCons (mC (.bl true)) mNil)))))))) mNil))) mNil))) (mC (.str "counts")))) (mRet (mC (.bl false))) mNext)))))))
  (mRet (mC (.bl true))))
noncomputable def m_law : List D → Store → Res D := mFn 15 1 b_law
end K29
namespace K29
open PySem PySem.Spec L2 Mi
def top (i : Nat) : Stmt := PySem.Challenge.pw_callstairs_k29_counts_refused.main.body.getD i (.Pass ⟨0, 0, 0, 0⟩)
abbrev s_BadRow_dinitd : Stmt := (inClass (top 5) 0)
abbrev s_is_name : Stmt := (top 9)
abbrev s_are_names : Stmt := (top 11)
abbrev s_is_row : Stmt := (top 12)
abbrev s_Staircase_dinitd : Stmt := (inClass (top 17) 0)
abbrev s_Lbegin : Stmt := (top 26)
abbrev s_Ldraw : Stmt := (top 27)
abbrev s_Lis_right : Stmt := (top 36)
abbrev s_Lpick : Stmt := (top 28)
abbrev s_Lshuffled : Stmt := (top 29)
abbrev s_Lpool : Stmt := (top 30)
abbrev s_Lrandom_row : Stmt := (top 31)
abbrev s_Lrandom_rows : Stmt := (top 32)
abbrev s_lost_between : Stmt := (top 21)
abbrev s_Fit_dinitd : Stmt := (inClass (top 22) 0)
abbrev s_Fit_is_ordered : Stmt := (inClass (top 22) 1)
abbrev s_Fit_loses_needed : Stmt := (inClass (top 22) 2)
abbrev s_Fit_allows : Stmt := (inClass (top 22) 3)
abbrev s_Fit_is_steady : Stmt := (inClass (top 22) 4)
abbrev s_Fit_is_possible : Stmt := (inClass (top 22) 5)
abbrev s_Staircase_row : Stmt := (inClass (top 17) 3)
abbrev s_rows_fit : Stmt := (top 23)
abbrev s_fit_together : Stmt := (top 24)
abbrev s_Ltold : Stmt := (top 35)
abbrev s_law : Stmt := (top 37)
theorem hu66 {k : Nat} {A : Around} (r : Room k A) : A.units + 66 < cLine := by have := r.un; omega
structure Tx (K : PySem.W.Frag) (mg : Str → Option Value) (w : World) (base : Heap) where
  c_CallError : Addr
  g_CallError : mg "CallError" = some (.ref c_CallError)
  c_BadSignature : Addr
  g_BadSignature : mg "BadSignature" = some (.ref c_BadSignature)
  c_BadCall : Addr
  g_BadCall : mg "BadCall" = some (.ref c_BadCall)
  c_BadRow : Addr
  g_BadRow : mg "BadRow" = some (.ref c_BadRow)
  c_BadCounts : Addr
  g_BadCounts : mg "BadCounts" = some (.ref c_BadCounts)
  c_Staircase : Addr
  g_Staircase : mg "Staircase" = some (.ref c_Staircase)
  c_Fit : Addr
  g_Fit : mg "Fit" = some (.ref c_Fit)
  a_BadRow_dinitd : Addr
  fd_BadRow_dinitd : FuncData
  F_BadRow_dinitd : Fun K "__init__" "BadRow.__init__" s_BadRow_dinitd a_BadRow_dinitd fd_BadRow_dinitd
  in_BadRow : PySem.W.findIn K (.ref c_BadRow) "__init__" = some (some (.ref a_BadRow_dinitd))
  ti_BadRow : PySem.W.typeIn K (.ref a_BadRow_dinitd) = some (.type "function")
  b_BadRow_dinitd : Binds K fd_BadRow_dinitd ["self", "index"] []
  a_is_name : Addr
  fd_is_name : FuncData
  F_is_name : Fun K "is_name" "is_name" s_is_name a_is_name fd_is_name
  g_is_name : mg "is_name" = some (.ref a_is_name)
  k_is_name : PySem.W.keepIn K (.ref a_is_name) = true
  b_is_name : Binds K fd_is_name ["value"] []
  a_are_names : Addr
  fd_are_names : FuncData
  F_are_names : Fun K "are_names" "are_names" s_are_names a_are_names fd_are_names
  g_are_names : mg "are_names" = some (.ref a_are_names)
  k_are_names : PySem.W.keepIn K (.ref a_are_names) = true
  b_are_names : Binds K fd_are_names ["value"] []
  a_is_row : Addr
  fd_is_row : FuncData
  F_is_row : Fun K "is_row" "is_row" s_is_row a_is_row fd_is_row
  g_is_row : mg "is_row" = some (.ref a_is_row)
  k_is_row : PySem.W.keepIn K (.ref a_is_row) = true
  b_is_row : Binds K fd_is_row ["value"] []
  a_Staircase_dinitd : Addr
  fd_Staircase_dinitd : FuncData
  F_Staircase_dinitd : Fun K "__init__" "Staircase.__init__" s_Staircase_dinitd a_Staircase_dinitd fd_Staircase_dinitd
  mk_Staircase : Mk K c_Staircase a_Staircase_dinitd
  b_Staircase_dinitd : Binds K fd_Staircase_dinitd ["self", "rows"] []
  a_Lbegin : Addr
  fd_Lbegin : FuncData
  F_Lbegin : Fun K "_law_begin" "_law_begin" s_Lbegin a_Lbegin fd_Lbegin
  g_Lbegin : mg "_law_begin" = some (.ref a_Lbegin)
  k_Lbegin : PySem.W.keepIn K (.ref a_Lbegin) = true
  b_Lbegin : Binds K fd_Lbegin ["_law_cell", "_law_turn"] []
  a_Ldraw : Addr
  fd_Ldraw : FuncData
  F_Ldraw : Fun K "_law_draw" "_law_draw" s_Ldraw a_Ldraw fd_Ldraw
  g_Ldraw : mg "_law_draw" = some (.ref a_Ldraw)
  k_Ldraw : PySem.W.keepIn K (.ref a_Ldraw) = true
  b_Ldraw : Binds K fd_Ldraw ["_law_state", "_law_size"] []
  a_Lis_right : Addr
  fd_Lis_right : FuncData
  F_Lis_right : Fun K "_law_is_right" "_law_is_right" s_Lis_right a_Lis_right fd_Lis_right
  g_Lis_right : mg "_law_is_right" = some (.ref a_Lis_right)
  k_Lis_right : PySem.W.keepIn K (.ref a_Lis_right) = true
  b_Lis_right : Binds K fd_Lis_right ["_law_value"] []
  a_Lpick : Addr
  fd_Lpick : FuncData
  F_Lpick : Fun K "_law_pick" "_law_pick" s_Lpick a_Lpick fd_Lpick
  g_Lpick : mg "_law_pick" = some (.ref a_Lpick)
  k_Lpick : PySem.W.keepIn K (.ref a_Lpick) = true
  b_Lpick : Binds K fd_Lpick ["_law_state", "_law_items"] []
  a_Lshuffled : Addr
  fd_Lshuffled : FuncData
  F_Lshuffled : Fun K "_law_shuffled" "_law_shuffled" s_Lshuffled a_Lshuffled fd_Lshuffled
  g_Lshuffled : mg "_law_shuffled" = some (.ref a_Lshuffled)
  k_Lshuffled : PySem.W.keepIn K (.ref a_Lshuffled) = true
  b_Lshuffled : Binds K fd_Lshuffled ["_law_state", "_law_items"] []
  a_Lpool : Addr
  fd_Lpool : FuncData
  F_Lpool : Fun K "_law_pool" "_law_pool" s_Lpool a_Lpool fd_Lpool
  g_Lpool : mg "_law_pool" = some (.ref a_Lpool)
  k_Lpool : PySem.W.keepIn K (.ref a_Lpool) = true
  b_Lpool : Binds K fd_Lpool ["_law_state", "_law_size"] []
  a_Lrandom_row : Addr
  fd_Lrandom_row : FuncData
  F_Lrandom_row : Fun K "_law_random_row" "_law_random_row" s_Lrandom_row a_Lrandom_row fd_Lrandom_row
  g_Lrandom_row : mg "_law_random_row" = some (.ref a_Lrandom_row)
  k_Lrandom_row : PySem.W.keepIn K (.ref a_Lrandom_row) = true
  b_Lrandom_row : Binds K fd_Lrandom_row ["_law_state", "_law_pool_here"] []
  a_Lrandom_rows : Addr
  fd_Lrandom_rows : FuncData
  F_Lrandom_rows : Fun K "_law_random_rows" "_law_random_rows" s_Lrandom_rows a_Lrandom_rows fd_Lrandom_rows
  g_Lrandom_rows : mg "_law_random_rows" = some (.ref a_Lrandom_rows)
  k_Lrandom_rows : PySem.W.keepIn K (.ref a_Lrandom_rows) = true
  b_Lrandom_rows : Binds K fd_Lrandom_rows ["_law_state", "_law_pool_here", "_law_most"] []
  a_lost_between : Addr
  fd_lost_between : FuncData
  F_lost_between : Fun K "lost_between" "lost_between" s_lost_between a_lost_between fd_lost_between
  g_lost_between : mg "lost_between" = some (.ref a_lost_between)
  k_lost_between : PySem.W.keepIn K (.ref a_lost_between) = true
  b_lost_between : Binds K fd_lost_between ["row", "later"] []
  a_Fit_dinitd : Addr
  fd_Fit_dinitd : FuncData
  F_Fit_dinitd : Fun K "__init__" "Fit.__init__" s_Fit_dinitd a_Fit_dinitd fd_Fit_dinitd
  mk_Fit : Mk K c_Fit a_Fit_dinitd
  b_Fit_dinitd : Binds K fd_Fit_dinitd ["self", "rows"] []
  a_Fit_is_ordered : Addr
  fd_Fit_is_ordered : FuncData
  F_Fit_is_ordered : Fun K "is_ordered" "Fit.is_ordered" s_Fit_is_ordered a_Fit_is_ordered fd_Fit_is_ordered
  me_Fit_is_ordered : Meth K c_Fit "is_ordered" a_Fit_is_ordered
  b_Fit_is_ordered : Binds K fd_Fit_is_ordered ["self"] []
  a_Fit_loses_needed : Addr
  fd_Fit_loses_needed : FuncData
  F_Fit_loses_needed : Fun K "loses_needed" "Fit.loses_needed" s_Fit_loses_needed a_Fit_loses_needed fd_Fit_loses_needed
  me_Fit_loses_needed : Meth K c_Fit "loses_needed" a_Fit_loses_needed
  b_Fit_loses_needed : Binds K fd_Fit_loses_needed ["self"] []
  a_Fit_allows : Addr
  fd_Fit_allows : FuncData
  F_Fit_allows : Fun K "allows" "Fit.allows" s_Fit_allows a_Fit_allows fd_Fit_allows
  me_Fit_allows : Meth K c_Fit "allows" a_Fit_allows
  b_Fit_allows : Binds K fd_Fit_allows ["self", "flat", "stop"] []
  a_Fit_is_steady : Addr
  fd_Fit_is_steady : FuncData
  F_Fit_is_steady : Fun K "is_steady" "Fit.is_steady" s_Fit_is_steady a_Fit_is_steady fd_Fit_is_steady
  me_Fit_is_steady : Meth K c_Fit "is_steady" a_Fit_is_steady
  b_Fit_is_steady : Binds K fd_Fit_is_steady ["self"] []
  a_Fit_is_possible : Addr
  fd_Fit_is_possible : FuncData
  F_Fit_is_possible : Fun K "is_possible" "Fit.is_possible" s_Fit_is_possible a_Fit_is_possible fd_Fit_is_possible
  me_Fit_is_possible : Meth K c_Fit "is_possible" a_Fit_is_possible
  b_Fit_is_possible : Binds K fd_Fit_is_possible ["self"] []
  a_Staircase_row : Addr
  fd_Staircase_row : FuncData
  F_Staircase_row : Fun K "row" "Staircase.row" s_Staircase_row a_Staircase_row fd_Staircase_row
  me_Staircase_row : Meth K c_Staircase "row" a_Staircase_row
  b_Staircase_row : Binds K fd_Staircase_row ["self", "count"] []
  a_rows_fit : Addr
  fd_rows_fit : FuncData
  F_rows_fit : Fun K "rows_fit" "rows_fit" s_rows_fit a_rows_fit fd_rows_fit
  g_rows_fit : mg "rows_fit" = some (.ref a_rows_fit)
  k_rows_fit : PySem.W.keepIn K (.ref a_rows_fit) = true
  b_rows_fit : Binds K fd_rows_fit ["staircase", "counts"] []
  a_fit_together : Addr
  fd_fit_together : FuncData
  F_fit_together : Fun K "fit_together" "fit_together" s_fit_together a_fit_together fd_fit_together
  g_fit_together : mg "fit_together" = some (.ref a_fit_together)
  k_fit_together : PySem.W.keepIn K (.ref a_fit_together) = true
  b_fit_together : Binds K fd_fit_together ["staircase", "counts"] []
  kw_fit_together_0_counts_staircase : KBinds K fd_fit_together ["staircase", "counts"] ["counts", "staircase"] (pkI 0 2 [1, 0]) (pkI 0 2 [1, 0])
  a_Ltold : Addr
  fd_Ltold : FuncData
  F_Ltold : Fun K "_law_told" "_law_told" s_Ltold a_Ltold fd_Ltold
  g_Ltold : mg "_law_told" = some (.ref a_Ltold)
  k_Ltold : PySem.W.keepIn K (.ref a_Ltold) = true
  b_Ltold : Binds K fd_Ltold ["_law_made", "_law_value"] []
  a_law : Addr
  fd_law : FuncData
  F_law : Fun K "law" "law" s_law a_law fd_law
  g_law : mg "law" = some (.ref a_law)
  k_law : PySem.W.keepIn K (.ref a_law) = true
  b_law : Binds K fd_law ["_law_script"] []
  isf : ∀ tabs, IsF ⟨K, cmOf [("CallError", c_CallError), ("BadSignature", c_BadSignature), ("BadCall", c_BadCall), ("BadRow", c_BadRow), ("BadCounts", c_BadCounts), ("Staircase", c_Staircase), ("Fit", c_Fit)], tabs⟩ ["BadSignature", "BadCall", "BadRow", "BadCounts"] ["bool", "int", "list", "str", "tuple"]
  xm_CallError : ∀ C g, cmOf [("CallError", c_CallError), ("BadSignature", c_BadSignature), ("BadCall", c_BadCall), ("BadRow", c_BadRow), ("BadCounts", c_BadCounts), ("Staircase", c_Staircase), ("Fit", c_Fit)] C = some g → PySem.W.exmOne K (.ref g) (.ref c_CallError) = some (isaC C "CallError")
  cl_Staircase : Cls K c_Staircase
  cl_Fit : Cls K c_Fit
  nf_Fit_first : PySem.W.findIn K (.ref c_Fit) "first" = some none
  nf_Fit_full : PySem.W.findIn K (.ref c_Fit) "full" = some none
  nf_Fit_is_bounded : PySem.W.findIn K (.ref c_Fit) "is_bounded" = some none
  nf_Fit_is_torn : PySem.W.findIn K (.ref c_Fit) "is_torn" = some none
  nf_Fit_last : PySem.W.findIn K (.ref c_Fit) "last" = some none
  nf_Fit_losses : PySem.W.findIn K (.ref c_Fit) "losses" = some none
  nf_Staircase_own_rows : PySem.W.findIn K (.ref c_Staircase) "own_rows" = some none
  nf_BadRow_index : PySem.W.findIn K (.ref c_BadRow) "index" = some none
  cr_CallError : ClX.CRead K c_CallError (.type "type")
  ox_BadRow : OexC K c_BadRow
  x_BadCounts : PySem.W.excIn K c_BadCounts [.type "ValueError", .type "Exception", .type "BaseException", .type "object"] "ValueError.__new__" = true
  kp_BadCounts : PySem.W.keepIn K (.ref c_BadCounts) = true
  sb_BadCounts : PySem.W.subIn K (.ref c_BadCounts) (.type "BaseException") = some true
  ty_BadCounts : PySem.W.typeIn K (.ref c_BadCounts) = some (.type "type")
  bi : PySem.W.findCls K (.ref c_CallError) (.type "type") "__init__" = some (.val (.builtin "ValueError.__init__"))
  t_LONGEST_NAME : Tok
  g_LONGEST_NAME : mg "LONGEST_NAME" = some (.int 6 t_LONGEST_NAME)
  t_MOST_COUNT : Tok
  g_MOST_COUNT : mg "MOST_COUNT" = some (.int 100 t_MOST_COUNT)
  t_MOST_COUNTS : Tok
  g_MOST_COUNTS : mg "MOST_COUNTS" = some (.int 6 t_MOST_COUNTS)
  n_all : mg "all" = none
  n_any : mg "any" = none
  n_bool : mg "bool" = none
  n_enumerate : mg "enumerate" = none
  n_int : mg "int" = none
  n_isinstance : mg "isinstance" = none
  n_len : mg "len" = none
  n_list : mg "list" = none
  n_max : mg "max" = none
  n_min : mg "min" = none
  n_range : mg "range" = none
  n_repr : mg "repr" = none
  n_set : mg "set" = none
  n_sorted : mg "sorted" = none
  n_str : mg "str" = none
  n_tuple : mg "tuple" = none
  n_zip : mg "zip" = none
section
variable {P : Program} {w : World} {K : PySem.W.Frag} {mg : Str → Option Value} {base : Heap}
abbrev Tx.W (T : Tx K mg w base) : Wd := ⟨K, cmOf [("CallError", T.c_CallError), ("BadSignature", T.c_BadSignature), ("BadCall", T.c_BadCall), ("BadRow", T.c_BadRow), ("BadCounts", T.c_BadCounts), ("Staircase", T.c_Staircase), ("Fit", T.c_Fit)], []⟩
theorem cm_BadSignature (T : Tx K mg w base) : T.W.cm "BadSignature" = some T.c_BadSignature := by show cmOf [("CallError", T.c_CallError), ("BadSignature", T.c_BadSignature), ("BadCall", T.c_BadCall), ("BadRow", T.c_BadRow), ("BadCounts", T.c_BadCounts), ("Staircase", T.c_Staircase), ("Fit", T.c_Fit)] "BadSignature" = _; simp [cmOf, List.lookup]
theorem cm_BadCall (T : Tx K mg w base) : T.W.cm "BadCall" = some T.c_BadCall := by show cmOf [("CallError", T.c_CallError), ("BadSignature", T.c_BadSignature), ("BadCall", T.c_BadCall), ("BadRow", T.c_BadRow), ("BadCounts", T.c_BadCounts), ("Staircase", T.c_Staircase), ("Fit", T.c_Fit)] "BadCall" = _; simp [cmOf, List.lookup]
theorem cm_BadRow (T : Tx K mg w base) : T.W.cm "BadRow" = some T.c_BadRow := by show cmOf [("CallError", T.c_CallError), ("BadSignature", T.c_BadSignature), ("BadCall", T.c_BadCall), ("BadRow", T.c_BadRow), ("BadCounts", T.c_BadCounts), ("Staircase", T.c_Staircase), ("Fit", T.c_Fit)] "BadRow" = _; simp [cmOf, List.lookup]
theorem cm_BadCounts (T : Tx K mg w base) : T.W.cm "BadCounts" = some T.c_BadCounts := by show cmOf [("CallError", T.c_CallError), ("BadSignature", T.c_BadSignature), ("BadCall", T.c_BadCall), ("BadRow", T.c_BadRow), ("BadCounts", T.c_BadCounts), ("Staircase", T.c_Staircase), ("Fit", T.c_Fit)] "BadCounts" = _; simp [cmOf, List.lookup]
theorem cm_Staircase (T : Tx K mg w base) : T.W.cm "Staircase" = some T.c_Staircase := by show cmOf [("CallError", T.c_CallError), ("BadSignature", T.c_BadSignature), ("BadCall", T.c_BadCall), ("BadRow", T.c_BadRow), ("BadCounts", T.c_BadCounts), ("Staircase", T.c_Staircase), ("Fit", T.c_Fit)] "Staircase" = _; simp [cmOf, List.lookup]
theorem cm_Fit (T : Tx K mg w base) : T.W.cm "Fit" = some T.c_Fit := by show cmOf [("CallError", T.c_CallError), ("BadSignature", T.c_BadSignature), ("BadCall", T.c_BadCall), ("BadRow", T.c_BadRow), ("BadCounts", T.c_BadCounts), ("Staircase", T.c_Staircase), ("Fit", T.c_Fit)] "Fit" = _; simp [cmOf, List.lookup]
theorem fl_Fit_first (T : Tx K mg w base) : FldC T.W "Fit" "first" := ⟨fun g h => by rw [cm_Fit T] at h; cases h; exact T.cl_Fit, fun g h => by rw [cm_Fit T] at h; cases h; exact T.nf_Fit_first⟩
theorem fl_Fit_full (T : Tx K mg w base) : FldC T.W "Fit" "full" := ⟨fun g h => by rw [cm_Fit T] at h; cases h; exact T.cl_Fit, fun g h => by rw [cm_Fit T] at h; cases h; exact T.nf_Fit_full⟩
theorem fl_Fit_is_bounded (T : Tx K mg w base) : FldC T.W "Fit" "is_bounded" := ⟨fun g h => by rw [cm_Fit T] at h; cases h; exact T.cl_Fit, fun g h => by rw [cm_Fit T] at h; cases h; exact T.nf_Fit_is_bounded⟩
theorem fl_Fit_is_torn (T : Tx K mg w base) : FldC T.W "Fit" "is_torn" := ⟨fun g h => by rw [cm_Fit T] at h; cases h; exact T.cl_Fit, fun g h => by rw [cm_Fit T] at h; cases h; exact T.nf_Fit_is_torn⟩
theorem fl_Fit_last (T : Tx K mg w base) : FldC T.W "Fit" "last" := ⟨fun g h => by rw [cm_Fit T] at h; cases h; exact T.cl_Fit, fun g h => by rw [cm_Fit T] at h; cases h; exact T.nf_Fit_last⟩
theorem fl_Fit_losses (T : Tx K mg w base) : FldC T.W "Fit" "losses" := ⟨fun g h => by rw [cm_Fit T] at h; cases h; exact T.cl_Fit, fun g h => by rw [cm_Fit T] at h; cases h; exact T.nf_Fit_losses⟩
theorem fl_Staircase_own_rows (T : Tx K mg w base) : FldC T.W "Staircase" "own_rows" := ⟨fun g h => by rw [cm_Staircase T] at h; cases h; exact T.cl_Staircase, fun g h => by rw [cm_Staircase T] at h; cases h; exact T.nf_Staircase_own_rows⟩
theorem sc_BadRow_dinitd : FnScope ["self", "index"] ["self", "index"] (defScope s_BadRow_dinitd) := ⟨rfl, rfl, rfl, by decide +kernel, rfl, by decide +kernel, by decide +kernel⟩
theorem ok_BadRow_dinitd (T : Tx K mg w base) : FnOk P w K mg base (L2.CX P w) 1 T.a_BadRow_dinitd T.fd_BadRow_dinitd ["self", "index"] (spXI K "index") :=
  ok_fun T.F_BadRow_dinitd sc_BadRow_dinitd (fun vs H Q E h => by exact spXI_len h) fun cdv A out s H vs Q E hr h => ⟨_, pss_cons (ps_expr (pe_basinit rfl T.g_CallError T.cr_CallError T.bi (pa_cons (pv 0) (pa_cons pe_str pa_nil)))) (pss_one (ps_ost (pv 0) (pv 1))), pureXI h⟩
theorem sc_is_name : FnScope ["value", "sign"] ["value"] (defScope s_is_name) := ⟨rfl, rfl, rfl, by decide +kernel, rfl, by decide +kernel, by decide +kernel⟩
theorem ok_is_name (T : Tx K mg w base) : FnOk P w K mg base (L2.CX P w) 1 T.a_is_name T.fd_is_name ["value"] (spM T.W m_is_name) :=
  ok_fun T.F_is_name sc_is_name (fun vs H Q E h => by exact spM_len (P := 1) h) fun cdv A out s H vs Q E hr h => ⟨tS T.W E b_is_name, (pss_one (ms_ret (ps_ret (me_and (pe_and (me_is (cl := (.ty "str")) (u := (.ty "str")) (T.isf _) ⟨by decide, rfl⟩ (pe_callB call_isM (by rfl) T.n_isinstance (by decide +kernel) (pa_cons (me_var (pv 0)) (pa_cons (pe_bltn (v := .ty "str") (by rfl) T.n_str (by decide +kernel) rfl) pa_nil)))) (me_and (pe_and (me_chain opm_lt opm_le (pe_chain (Cs.op_ltD hr.units) op_le (me_int pe_int) (me_cb cbm_len (pe_callB call_lenA (by rfl) T.n_len (by decide +kernel) (ma_cons (pa_cons (me_var (pv 0)) (ma_nil pa_nil))))) (me_int (pe_glob rfl T.g_LONGEST_NAME ⟨_, rfl⟩)))) (pe_one (me_cb cbm_all (pe_callB (cr_all rfl) (by rfl) T.n_all (by decide +kernel) (ma_cons (pa_cons (me_lc (b := false) (lct_name (by decide)) (pe_lc (own := [("sign", 1)]) (g := (gName 1)) (tt := tT T.W E0' mYes) (te := tE T.W E0' (mChain fLeS fLeS (mC (.str "a")) (mVar 1) (mC (.str "z")))) rfl sc_is_name.nd (mi_any (Cs.pi_any (me_var (pv 0)))) (blkOk_by (own := [("sign", 1)]) (N := ["value", "sign"]) (sc := defScope s_is_name) (by decide +kernel)) (fun _ _ _ _ _ => (pg_name (i := 1) sc_is_name.nd rfl (by first | exact Or.inl rfl | exact Or.inr rfl | exact Or.inr (Or.inl rfl) | exact Or.inr (Or.inr rfl)))) (fun _ _ _ _ _ => (mt_yes pts_nil)) (fun _ _ _ _ _ => (me_chain opm_leS opm_leS (pe_chain op_leSX op_leSX (me_str pe_str) (me_var (pv 1)) (me_str pe_str)))))) (ma_nil pa_nil))))))))))))), pureM (N := ["value", "sign"]) h⟩
theorem sc_are_names : FnScope ["value", "name", "one", "other"] ["value"] (defScope s_are_names) := ⟨rfl, rfl, rfl, by decide +kernel, rfl, by decide +kernel, by decide +kernel⟩
theorem ok_are_names (T : Tx K mg w base) : FnOk P w K mg base (L2.CX P w) 2 T.a_are_names T.fd_are_names ["value"] (spM T.W m_are_names) :=
  ok_fun T.F_are_names sc_are_names (fun vs H Q E h => by exact spM_len (P := 1) h) fun cdv A out s H vs Q E hr h => ⟨tS T.W E b_are_names, (mss_cons (pss_cons (ms_if (ps_if (PW.pt (mw_or (pw_or (mt_not (pt_not (mt_val (pt_val (me_is (cl := (.ty "tuple")) (u := (.ty "tuple")) (T.isf _) ⟨by decide, rfl⟩ (pe_callB call_isM (by rfl) T.n_isinstance (by decide +kernel) (pa_cons (me_var (pv 0)) (pa_cons (pe_bltn (v := .ty "tuple") (by rfl) T.n_tuple (by decide +kernel) rfl) pa_nil)))))))) (pw_or1 (mt_not (pt_not (mt_val (pt_val (me_cb cbm_all (pe_callB (cr_all rfl) (by rfl) T.n_all (by decide +kernel) (ma_cons (pa_cons (me_lc (b := false) (lct_name (by decide)) (pe_lc (own := [("name", 1)]) (g := (gName 1)) (tt := tT T.W E0' mYes) (te := tE T.W E0' (mCall m_is_name (mCons (mVar 1) mNil))) rfl sc_are_names.nd (mi_any (Cs.pi_any (me_var (pv 0)))) (blkOk_by (own := [("name", 1)]) (N := ["value", "name", "one", "other"]) (sc := defScope s_are_names) (by decide +kernel)) (fun _ _ _ _ _ => (pg_name (i := 1) sc_are_names.nd rfl (by first | exact Or.inl rfl | exact Or.inr rfl | exact Or.inr (Or.inl rfl) | exact Or.inr (Or.inr rfl)))) (fun _ _ _ _ _ => (mt_yes pts_nil)) (fun _ _ _ _ _ => (me_call (pe_call (ok_is_name T) (hr.mono (by decide)) rfl T.g_is_name T.k_is_name T.b_is_name .nil pass_no (by exact (ma_cons (pa_cons (me_var (pv 1)) (ma_nil pa_nil))))))))) (ma_nil pa_nil))))))))))))) (pss_one (ms_ret (ps_ret (me_bl pe_bl)))) (mss_nil pss_nil)))
    (pss_one (ms_ret (ps_ret (me_cb cbm_all (pe_callB (cr_all rfl) (by rfl) T.n_all (by decide +kernel) (ma_cons (pa_cons (me_lc (b := false) (lct_tup2 (by decide) (by decide)) (pe_lc (own := [("one", 2), ("other", 3)]) (g := (gTup K 2 (gCons (gName 2) (gCons (gName 3) gNil)))) (tt := tT T.W E0' mYes) (te := tE T.W E0' (mOp fLt (mVar 2) (mVar 3))) rfl sc_are_names.nd (mi_zip (RZ.pi_zipA rfl T.n_zip (pa_cons (me_var (pv 0)) (pa_cons (me_slice (b := false) (pe_slice Cs.sl_D (me_var (pv 0)) (mo_some (po_some (me_int pe_int))) (mo_none po_none))) pa_nil)))) (blkOk_by (own := [("one", 2), ("other", 3)]) (N := ["value", "name", "one", "other"]) (sc := defScope s_are_names) (by decide +kernel)) (fun _ _ _ _ _ => (pg_tup rfl (pgs_cons (pg_name (i := 2) sc_are_names.nd rfl (by first | exact Or.inl rfl | exact Or.inr rfl | exact Or.inr (Or.inl rfl) | exact Or.inr (Or.inr rfl))) (pgs_cons (pg_name (i := 3) sc_are_names.nd rfl (by first | exact Or.inl rfl | exact Or.inr rfl | exact Or.inr (Or.inl rfl) | exact Or.inr (Or.inr rfl))) pgs_nil)))) (fun _ _ _ _ _ => (mt_yes pts_nil)) (fun _ _ _ _ _ => (me_op opm_lt (pe_cmpR (Cs.op_ltD hr.units) (me_var (pv 2)) (me_var (pv 3)) (nomark _)))))) (ma_nil pa_nil)))))))))), pureM (N := ["value", "name", "one", "other"]) h⟩
theorem sc_is_row : FnScope ["value", "need", "limit", "is_open", "name"] ["value"] (defScope s_is_row) := ⟨rfl, rfl, rfl, by decide +kernel, rfl, by decide +kernel, by decide +kernel⟩
theorem ok_is_row (T : Tx K mg w base) : FnOk P w K mg base (L2.CX P w) 3 T.a_is_row T.fd_is_row ["value"] (spM T.W m_is_row) :=
  ok_fun T.F_is_row sc_is_row (fun vs H Q E h => by exact spM_len (P := 1) h) fun cdv A out s H vs Q E hr h => ⟨tS T.W E b_is_row, (mss_cons (pss_cons (ms_if (ps_if (mt_cmp opm_isN (pt_cmpR op_isN (me_var (pv 0)) (me_non pe_non) (nomark _))) (pss_one (ms_ret (ps_ret (me_bl pe_bl)))) (mss_nil pss_nil)))
    (mss_cons (pss_cons (ms_if (ps_if (PW.pt (mw_or (pw_or (mt_not (pt_not (mt_val (pt_val (me_is (cl := (.ty "tuple")) (u := (.ty "tuple")) (T.isf _) ⟨by decide, rfl⟩ (pe_callB call_isM (by rfl) T.n_isinstance (by decide +kernel) (pa_cons (me_var (pv 0)) (pa_cons (pe_bltn (v := .ty "tuple") (by rfl) T.n_tuple (by decide +kernel) rfl) pa_nil)))))))) (mw_or (pw_or (mt_cmp opm_ne (pt_cmpR (op_neZ hr.units) (me_cb cbm_len (pe_callB call_lenA (by rfl) T.n_len (by decide +kernel) (ma_cons (pa_cons (me_var (pv 0)) (ma_nil pa_nil))))) (me_int pe_int) (nomark _))) (pw_or1 (mt_not (pt_not (mt_val (pt_val (me_is (cl := (.ty "bool")) (u := (.ty "bool")) (T.isf _) ⟨by decide, rfl⟩ (pe_callB call_isM (by rfl) T.n_isinstance (by decide +kernel) (pa_cons (me_op opm_ix (pe_ix ix_seq (me_var (pv 0)) (me_int pe_int) (fun _ _ => rfl))) (pa_cons (pe_bltn (v := .ty "bool") (by rfl) T.n_bool (by decide +kernel) rfl) pa_nil)))))))))))))) (pss_one (ms_ret (ps_ret (me_bl pe_bl)))) (mss_nil pss_nil)))
    (mss_cons (pss_cons (ms_asg (ps_asg (me_var (pv 0)) (mg_tup (pg_tup rfl (mgs_cons (pgs_cons (mg_name (pg_name (i := 1) sc_is_row.nd rfl (by first | exact Or.inl rfl | exact Or.inr rfl | exact Or.inr (Or.inl rfl) | exact Or.inr (Or.inr rfl)))) (mgs_cons (pgs_cons (mg_name (pg_name (i := 2) sc_is_row.nd rfl (by first | exact Or.inl rfl | exact Or.inr rfl | exact Or.inr (Or.inl rfl) | exact Or.inr (Or.inr rfl)))) (mgs_cons (pgs_cons (mg_name (pg_name (i := 3) sc_is_row.nd rfl (by first | exact Or.inl rfl | exact Or.inr rfl | exact Or.inr (Or.inl rfl) | exact Or.inr (Or.inr rfl)))) (mgs_nil pgs_nil)))))))))))
    (mss_cons (pss_cons (ms_if (ps_if (PW.pt (mw_or (pw_or (mt_not (pt_not (mt_val (pt_val (me_call (pe_call (ok_are_names T) (hr.mono (by decide)) rfl T.g_are_names T.k_are_names T.b_are_names .nil (pass_at (takes_of rfl rfl rfl rfl)) (by exact (ma_cons (pa_cons (me_var (pv 1)) (ma_nil pa_nil)))))))))) (pw_or1 (mt_not (pt_not (mt_val (pt_val (me_call (pe_call (ok_are_names T) (hr.mono (by decide)) rfl T.g_are_names T.k_are_names T.b_are_names .nil (pass_at (takes_of rfl rfl rfl rfl)) (by exact (ma_cons (pa_cons (me_var (pv 2)) (ma_nil pa_nil)))))))))))))) (pss_one (ms_ret (ps_ret (me_bl pe_bl)))) (mss_nil pss_nil)))
    (pss_one (ms_ret (ps_ret (me_cb cbm_all (pe_callB (cr_all rfl) (by rfl) T.n_all (by decide +kernel) (ma_cons (pa_cons (me_lc (b := false) (lct_name (by decide)) (pe_lc (own := [("name", 4)]) (g := (gName 4)) (tt := tT T.W E0' mYes) (te := tE T.W E0' (mOp (fEq true) (mOp (fIn false) (mVar 4) (mVar 2)) (mVar 3))) rfl sc_is_row.nd (mi_any (Cs.pi_any (me_var (pv 1)))) (blkOk_by (own := [("name", 4)]) (N := ["value", "need", "limit", "is_open", "name"]) (sc := defScope s_is_row) (by decide +kernel)) (fun _ _ _ _ _ => (pg_name (i := 4) sc_is_row.nd rfl (by first | exact Or.inl rfl | exact Or.inr rfl | exact Or.inr (Or.inl rfl) | exact Or.inr (Or.inr rfl)))) (fun _ _ _ _ _ => (mt_yes pts_nil)) (fun _ _ _ _ _ => (me_op opm_ne (pe_cmpR (op_neZ hr.units) (me_op opm_in (pe_cmpR Cs.op_inD (me_var (pv 4)) (me_var (pv 2)) (by first | exact nomark _ | rfl))) (me_var (pv 3)) (nomark _)))))) (ma_nil pa_nil)))))))))))))))), pureM (N := ["value", "need", "limit", "is_open", "name"]) h⟩
theorem sc_Staircase_dinitd : FnScope ["self", "rows", "index", "row", "found"] ["self", "rows"] (defScope s_Staircase_dinitd) := ⟨rfl, rfl, rfl, by decide +kernel, rfl, by decide +kernel, by decide +kernel⟩
theorem ok_Staircase_dinitd (T : Tx K mg w base) : FnOk P w K mg base (L2.CX P w) 4 T.a_Staircase_dinitd T.fd_Staircase_dinitd ["self", "rows"] (spM T.W m_Staircase_dinitd) :=
  ok_fun T.F_Staircase_dinitd sc_Staircase_dinitd (fun vs H Q E h => by exact spM_len (P := 2) h) fun cdv A out s H vs Q E hr h => ⟨tS T.W E b_Staircase_dinitd, (mss_cons (pss_cons (ms_if (ps_if (PW.pt (mw_or (pw_or (mt_not (pt_not (mt_val (pt_val (me_isL (cls := [(.ty "list"), (.ty "tuple")]) (us := [(.ty "list"), (.ty "tuple")]) (T.isf _) ⟨⟨by decide, rfl⟩, ⟨⟨by decide, rfl⟩, trivial⟩⟩ (by show 2 ≤ sizeLine; decide) (pe_callB call_isMT (by rfl) T.n_isinstance (by decide +kernel) (pa_cons (me_var (pv 1)) (pa_cons (pe_tup (pa_cons (pe_bltn (v := .ty "list") (by rfl) T.n_list (by decide +kernel) rfl) (pa_cons (pe_bltn (v := .ty "tuple") (by rfl) T.n_tuple (by decide +kernel) rfl) pa_nil))) pa_nil)))))))) (pw_or1 (mt_cmp opm_eq (pt_cmpR (op_eqZ hr.units) (me_cb cbm_len (pe_callB call_lenA (by rfl) T.n_len (by decide +kernel) (ma_cons (pa_cons (me_var (pv 1)) (ma_nil pa_nil))))) (me_int pe_int) (nomark _))))))) (pss_one (ms_raiseF (cm_BadRow T) T.ox_BadRow T.nf_BadRow_index (ps_raise rfl (takes_of rfl rfl rfl rfl) (pmk_oex T.ox_BadRow T.in_BadRow T.ti_BadRow (ok_BadRow_dinitd T) (hr.mono (by decide)) T.b_BadRow_dinitd .nil pass_no rfl T.g_BadRow (ma_cons (pa_cons (me_int pe_int) (ma_nil pa_nil))))))) (mss_nil pss_nil)))
    (mss_cons (pss_cons (ms_for (ps_for (passes_own rfl) rfl (mi_enum (Cs.pi_enumA (by rfl) T.n_enumerate (ma_cons (pa_cons (me_var (pv 1)) (ma_nil pa_nil))))) (mg_tup (pg_tup rfl (mgs_cons (pgs_cons (mg_name (pg_name (i := 2) sc_Staircase_dinitd.nd rfl (by first | exact Or.inl rfl | exact Or.inr rfl | exact Or.inr (Or.inl rfl) | exact Or.inr (Or.inr rfl)))) (mgs_cons (pgs_cons (mg_name (pg_name (i := 3) sc_Staircase_dinitd.nd rfl (by first | exact Or.inl rfl | exact Or.inr rfl | exact Or.inr (Or.inl rfl) | exact Or.inr (Or.inr rfl)))) (mgs_nil pgs_nil))))))) (pss_one (ms_if (ps_if (mt_not (pt_not (mt_val (pt_val (me_call (pe_call (ok_is_row T) (hr.mono (by decide)) rfl T.g_is_row T.k_is_row T.b_is_row .nil (pass_at (takes_of rfl rfl rfl rfl)) (by exact (ma_cons (pa_cons (me_var (pv 3)) (ma_nil pa_nil)))))))))) (pss_one (ms_raiseF (cm_BadRow T) T.ox_BadRow T.nf_BadRow_index (ps_raise rfl (takes_of rfl rfl rfl rfl) (pmk_oex T.ox_BadRow T.in_BadRow T.ti_BadRow (ok_BadRow_dinitd T) (hr.mono (by decide)) T.b_BadRow_dinitd .nil pass_no rfl T.g_BadRow (ma_cons (pa_cons (me_var (pv 2)) (ma_nil pa_nil))))))) (mss_nil pss_nil))))))
    (mss_cons (pss_cons (ms_set (ps_set (i := 4) sc_Staircase_dinitd.nd rfl (by first | exact Or.inl rfl | exact Or.inr rfl | exact Or.inr (Or.inl rfl) | exact Or.inr (Or.inr rfl)) (me_cb (cbm_list (b := true)) (pe_callTy (call_listAX rfl) (by rfl) T.n_list (by decide +kernel) (ma_cons (pa_cons (me_var (pv 1)) (ma_nil pa_nil)))))))
    (mss_cons (pss_cons (ms_while (ps_while (passes_own rfl) (PW.pt (mw_and (pw_and (mt_cmp opm_gt (pt_cmpR op_gt (me_cb cbm_len (pe_callB call_lenA (by rfl) T.n_len (by decide +kernel) (ma_cons (pa_cons (me_var (pv 4)) (ma_nil pa_nil))))) (me_int pe_int) (nomark _))) (pw_and1 (mt_cmp opm_eq (pt_cmpR (op_eqZ hr.units) (me_op opm_ix (pe_ix ix_seq (me_var (pv 4)) (me_un unm_neg (pe_un un_neg (me_int pe_int))) (fun _ _ => rfl))) (me_op opm_ix (pe_ix ix_seq (me_var (pv 4)) (me_un unm_neg (pe_un un_neg (me_int pe_int))) (fun _ _ => rfl))) (nomark _))))))) (pss_one (ms_drop (ps_expr (me_bm0 mtc_pop0 (pe_bm0 PySem.F.plainAttrs_list PySem.F.slot_list_pop PySem.F.type_list_pop mt_pop (me_var (pv 4)))))))))
    (pss_one (ms_fld (all1 (fl_Staircase_own_rows T)) (ps_fld (me_var (pv 0)) (me_cb cbm_tuple (pe_callTy (call_tupA rfl) (by rfl) T.n_tuple (by decide +kernel) (ma_cons (pa_cons (me_var (pv 4)) (ma_nil pa_nil))))) rfl))))))))))), pureM (N := ["self", "rows", "index", "row", "found"]) h⟩
theorem sc_Lbegin : FnScope ["_law_cell", "_law_turn"] ["_law_cell", "_law_turn"] (defScope s_Lbegin) := ⟨rfl, rfl, rfl, by decide +kernel, rfl, by decide +kernel, by decide +kernel⟩
theorem ok_Lbegin (T : Tx K mg w base) : FnOk P w K mg base (L2.CX P w) 1 T.a_Lbegin T.fd_Lbegin ["_law_cell", "_law_turn"] (spM T.W m_Lbegin) :=
  ok_fun T.F_Lbegin sc_Lbegin (fun vs H Q E h => by exact spM_len (P := 2) h) fun cdv A out s H vs Q E hr h => ⟨tS T.W E b_Lbegin, (pss_one (ms_ret (ps_ret (me_lst (b := true) (pe_lst (ma_cons (pa_cons (me_cb cbm_max2 (pe_callB (Cs.call_max2X rfl) (by rfl) T.n_max (by decide +kernel) (ma_cons (pa_cons (me_int pe_int) (ma_cons (pa_cons (me_op opm_sub (pe_op op_sub (me_var (pv 0)) (me_op opm_pow (pe_op Cs.op_powW (me_int pe_int) (me_int pe_int))))) (ma_nil pa_nil))))))) (ma_cons (pa_cons (me_op (opm_add (b := false)) (pe_op Cs.op_addD (me_var (pv 0)) (me_op (opm_mul (b := false)) (pe_op Cs.op_mulD (me_int pe_int) (me_var (pv 1)))))) (ma_cons (pa_cons (me_int pe_int) (ma_nil pa_nil)))))))))))), pureM (N := ["_law_cell", "_law_turn"]) h⟩
theorem sc_Ldraw : FnScope ["_law_state", "_law_size", "_law_found"] ["_law_state", "_law_size"] (defScope s_Ldraw) := ⟨rfl, rfl, rfl, by decide +kernel, rfl, by decide +kernel, by decide +kernel⟩
theorem ok_Ldraw (T : Tx K mg w base) : FnOk P w K mg base (L2.CX P w) 1 T.a_Ldraw T.fd_Ldraw ["_law_state", "_law_size"] (spM T.W m_Ldraw) :=
  ok_fun T.F_Ldraw sc_Ldraw (fun vs H Q E h => by exact spM_len (P := 2) h) fun cdv A out s H vs Q E hr h => ⟨tS T.W E b_Ldraw, (mss_cons (pss_cons (ms_if (ps_if (mt_cmp opm_gt (pt_cmpR op_gt (me_op opm_ix (pe_ix ix_seq (me_var (pv 0)) (me_int pe_int) (fun _ _ => rfl))) (me_int pe_int) (nomark _))) (mss_cons (pss_cons (ms_set (ps_set (i := 2) sc_Ldraw.nd rfl (by first | exact Or.inl rfl | exact Or.inr rfl | exact Or.inr (Or.inl rfl) | exact Or.inr (Or.inr rfl)) (me_op opm_mod (pe_op op_modN (me_op opm_ix (pe_ix ix_seq (me_var (pv 0)) (me_int pe_int) (fun _ _ => rfl))) (me_var (pv 1))))))
    (mss_cons (pss_cons (ms_asg (ps_asg (me_op opm_div (pe_op op_fdivN (me_op opm_ix (pe_ix ix_seq (me_var (pv 0)) (me_int pe_int) (fun _ _ => rfl))) (me_var (pv 1)))) (mg_subL (pg_sub (me_var (pv 0)) (me_int pe_int) set_list))))
    (pss_one (ms_ret (ps_ret (me_var (pv 2))))))))) (mss_nil pss_nil)))
    (mss_cons (pss_cons (ms_asg (ps_asg (me_op (opm_add (b := false)) (pe_op Cs.op_addD (me_op opm_ix (pe_ix ix_seq (me_var (pv 0)) (me_int pe_int) (fun _ _ => rfl))) (me_int pe_int))) (mg_subL (pg_sub (me_var (pv 0)) (me_int pe_int) set_list))))
    (mss_cons (pss_cons (ms_set (ps_set (i := 2) sc_Ldraw.nd rfl (by first | exact Or.inl rfl | exact Or.inr rfl | exact Or.inr (Or.inl rfl) | exact Or.inr (Or.inr rfl)) (me_op (opm_add (b := false)) (pe_op Cs.op_addD (me_op opm_mod (pe_op op_modN (me_op opm_ix (pe_ix ix_seq (me_var (pv 0)) (me_int pe_int) (fun _ _ => rfl))) (me_int pe_int))) (me_op (opm_mul (b := false)) (pe_op Cs.op_mulD (me_int pe_int) (me_op opm_ix (pe_ix ix_seq (me_var (pv 0)) (me_int pe_int) (fun _ _ => rfl)))))))))
    (mss_cons (pss_cons (ms_set (ps_set (i := 2) sc_Ldraw.nd rfl (by first | exact Or.inl rfl | exact Or.inr rfl | exact Or.inr (Or.inl rfl) | exact Or.inr (Or.inr rfl)) (me_op (opm_mul (b := false)) (pe_op Cs.op_mulD (me_var (pv 2)) (me_op (opm_add (b := false)) (pe_op Cs.op_addD (me_op (opm_add (b := false)) (pe_op Cs.op_addD (me_op opm_mod (pe_op op_modN (me_op opm_ix (pe_ix ix_seq (me_var (pv 0)) (me_int pe_int) (fun _ _ => rfl))) (me_int pe_int))) (me_op (opm_mul (b := false)) (pe_op Cs.op_mulD (me_op (opm_mul (b := false)) (pe_op Cs.op_mulD (me_int pe_int) (me_op opm_ix (pe_ix ix_seq (me_var (pv 0)) (me_int pe_int) (fun _ _ => rfl))))) (me_op opm_ix (pe_ix ix_seq (me_var (pv 0)) (me_int pe_int) (fun _ _ => rfl))))))) (me_int pe_int)))))))
    (pss_one (ms_ret (ps_ret (me_op opm_mod (pe_op op_modN (me_op opm_div (pe_op op_fdivN (me_op opm_mod (pe_op op_modN (me_op opm_pow (pe_op Cs.op_powW (me_var (pv 2)) (me_int pe_int))) (me_int pe_int))) (me_int pe_int))) (me_var (pv 1))))))))))))))), pureM (N := ["_law_state", "_law_size", "_law_found"]) h⟩
theorem sc_Lis_right : FnScope ["_law_value", "_law_at_here"] ["_law_value"] (defScope s_Lis_right) := ⟨rfl, rfl, rfl, by decide +kernel, rfl, by decide +kernel, by decide +kernel⟩
theorem ok_Lis_right (T : Tx K mg w base) : FnOk P w K mg base (L2.CX P w) 1 T.a_Lis_right T.fd_Lis_right ["_law_value"] (spM T.W m_Lis_right) :=
  ok_fun T.F_Lis_right sc_Lis_right (fun vs H Q E h => by exact spM_len (P := 1) h) fun cdv A out s H vs Q E hr h => ⟨tS T.W E b_Lis_right, (mss_cons (pss_cons (ms_if (ps_if (PW.pt (mw_or (pw_or (mt_not (pt_not (mt_val (pt_val (me_isL (cls := [(.ty "list"), (.ty "tuple")]) (us := [(.ty "list"), (.ty "tuple")]) (T.isf _) ⟨⟨by decide, rfl⟩, ⟨⟨by decide, rfl⟩, trivial⟩⟩ (by show 2 ≤ sizeLine; decide) (pe_callB call_isMT (by rfl) T.n_isinstance (by decide +kernel) (pa_cons (me_var (pv 0)) (pa_cons (pe_tup (pa_cons (pe_bltn (v := .ty "list") (by rfl) T.n_list (by decide +kernel) rfl) (pa_cons (pe_bltn (v := .ty "tuple") (by rfl) T.n_tuple (by decide +kernel) rfl) pa_nil))) pa_nil)))))))) (pw_or1 (mt_cmp opm_gt (pt_cmpR op_gt (me_cb cbm_len (pe_callB call_lenA (by rfl) T.n_len (by decide +kernel) (ma_cons (pa_cons (me_var (pv 0)) (ma_nil pa_nil))))) (me_int pe_int) (nomark _))))))) (pss_one (ms_ret (ps_ret (me_bl pe_bl)))) (mss_nil pss_nil)))
    (mss_cons (pss_cons (ms_for (ps_for (passes_own rfl) rfl (mi_rng1 (pi_range1 rfl T.n_range (ma_cons (pa_cons (me_cb cbm_len (pe_callB call_lenA (by rfl) T.n_len (by decide +kernel) (ma_cons (pa_cons (me_var (pv 0)) (ma_nil pa_nil))))) (ma_nil pa_nil))))) (mg_name (pg_name (i := 1) sc_Lis_right.nd rfl (by first | exact Or.inl rfl | exact Or.inr rfl | exact Or.inr (Or.inl rfl) | exact Or.inr (Or.inr rfl)))) (mss_cons (pss_cons (ms_if (ps_if (PW.pt (mw_or (pw_or (mt_not (pt_not (mt_val (pt_val (me_is (cl := (.ty "int")) (u := (.ty "int")) (T.isf _) ⟨by decide, rfl⟩ (pe_callB call_isM (by rfl) T.n_isinstance (by decide +kernel) (pa_cons (me_op opm_ix (pe_ix ix_seq (me_var (pv 0)) (me_var (pv 1)) (fun _ _ => rfl))) (pa_cons (pe_bltn (v := .ty "int") (by rfl) T.n_int (by decide +kernel) rfl) pa_nil)))))))) (mw_or (pw_or (mt_val (pt_val (me_is (cl := (.ty "bool")) (u := (.ty "bool")) (T.isf _) ⟨by decide, rfl⟩ (pe_callB call_isM (by rfl) T.n_isinstance (by decide +kernel) (pa_cons (me_op opm_ix (pe_ix ix_seq (me_var (pv 0)) (me_var (pv 1)) (fun _ _ => rfl))) (pa_cons (pe_bltn (v := .ty "bool") (by rfl) T.n_bool (by decide +kernel) rfl) pa_nil)))))) (pw_or1 (mt_not (pt_not (mt_chain opm_le opm_le (pt_chain op_le op_le (me_int pe_int) (me_op opm_ix (pe_ix ix_seq (me_var (pv 0)) (me_var (pv 1)) (fun _ _ => rfl))) (me_int pe_int))))))))))) (pss_one (ms_ret (ps_ret (me_bl pe_bl)))) (mss_nil pss_nil)))
    (pss_one (ms_if (ps_if (PW.pt (mw_and (pw_and (mt_cmp opm_gt (pt_cmpR op_gt (me_var (pv 1)) (me_int pe_int) (nomark _))) (pw_and1 (mt_cmp opm_ge (pt_cmpR op_ge (me_op opm_ix (pe_ix ix_seq (me_var (pv 0)) (me_op opm_sub (pe_op op_sub (me_var (pv 1)) (me_int pe_int))) (fun _ _ => rfl))) (me_op opm_ix (pe_ix ix_seq (me_var (pv 0)) (me_var (pv 1)) (fun _ _ => rfl))) (nomark _))))))) (pss_one (ms_ret (ps_ret (me_bl pe_bl)))) (mss_nil pss_nil))))))))
    (pss_one (ms_ret (ps_ret (me_bl pe_bl)))))))), pureM (N := ["_law_value", "_law_at_here"]) h⟩
theorem sc_Lpick : FnScope ["_law_state", "_law_items"] ["_law_state", "_law_items"] (defScope s_Lpick) := ⟨rfl, rfl, rfl, by decide +kernel, rfl, by decide +kernel, by decide +kernel⟩
theorem ok_Lpick (T : Tx K mg w base) : FnOk P w K mg base (L2.CX P w) 2 T.a_Lpick T.fd_Lpick ["_law_state", "_law_items"] (spM T.W m_Lpick) :=
  ok_fun T.F_Lpick sc_Lpick (fun vs H Q E h => by exact spM_len (P := 2) h) fun cdv A out s H vs Q E hr h => ⟨tS T.W E b_Lpick, (pss_one (ms_ret (ps_ret (me_op opm_ix (pe_ix ix_seq (me_var (pv 1)) (me_call (pe_call (ok_Ldraw T) (hr.mono (by decide)) rfl T.g_Ldraw T.k_Ldraw T.b_Ldraw .nil (pass_at (takes_of rfl rfl rfl rfl)) (by exact (ma_cons (pa_cons (me_var (pv 0)) (ma_cons (pa_cons (me_cb cbm_len (pe_callB call_lenA (by rfl) T.n_len (by decide +kernel) (ma_cons (pa_cons (me_var (pv 1)) (ma_nil pa_nil))))) (ma_nil pa_nil)))))))) (fun _ _ => rfl)))))), pureM (N := ["_law_state", "_law_items"]) h⟩
theorem sc_Lshuffled : FnScope ["_law_state", "_law_items", "_law_left", "_law_found"] ["_law_state", "_law_items"] (defScope s_Lshuffled) := ⟨rfl, rfl, rfl, by decide +kernel, rfl, by decide +kernel, by decide +kernel⟩
theorem ok_Lshuffled (T : Tx K mg w base) : FnOk P w K mg base (L2.CX P w) 2 T.a_Lshuffled T.fd_Lshuffled ["_law_state", "_law_items"] (spM T.W m_Lshuffled) :=
  ok_fun T.F_Lshuffled sc_Lshuffled (fun vs H Q E h => by exact spM_len (P := 2) h) fun cdv A out s H vs Q E hr h => ⟨tS T.W E b_Lshuffled, (mss_cons (pss_cons (ms_par (ps_par (by rfl) sc_Lshuffled.nd rfl rfl (by decide) rfl rfl (ma_cons (pa_cons (me_cb (cbm_list (b := true)) (pe_callTy (call_listAX rfl) (by rfl) T.n_list (by decide +kernel) (ma_cons (pa_cons (me_var (pv 1)) (ma_nil pa_nil))))) (ma_cons (pa_cons (me_lst (b := true) (pe_lst (ma_nil pa_nil))) (ma_nil pa_nil))))) (by rfl)))
    (mss_cons (pss_cons (ms_while (ps_while (passes_own rfl) (mt_cmp opm_ne (pt_cmpR (op_neZ hr.units) (me_var (pv 2)) (me_lst (b := false) (pe_lst (ma_nil pa_nil))) (nomark _))) (pss_one (ms_drop (ps_expr (me_bm mtc_append (pe_bm PySem.F.plainAttrs_list PySem.F.slot_list_append PySem.F.type_list_append mt_append (me_var (pv 3)) (ma_cons (pa_cons (me_bm mtc_popAt (pe_bm PySem.F.plainAttrs_list PySem.F.slot_list_pop PySem.F.type_list_pop mt_popAt (me_var (pv 2)) (ma_cons (pa_cons (me_call (pe_call (ok_Ldraw T) (hr.mono (by decide)) rfl T.g_Ldraw T.k_Ldraw T.b_Ldraw .nil (pass_at (takes_of rfl rfl rfl rfl)) (by exact (ma_cons (pa_cons (me_var (pv 0)) (ma_cons (pa_cons (me_cb cbm_len (pe_callB call_lenA (by rfl) T.n_len (by decide +kernel) (ma_cons (pa_cons (me_var (pv 2)) (ma_nil pa_nil))))) (ma_nil pa_nil)))))))) (ma_nil pa_nil))))) (ma_nil pa_nil))))))))))
    (pss_one (ms_frz (i := 3) (ms_ret (ps_ret (me_var (pv 3)))))))))), pureM (N := ["_law_state", "_law_items", "_law_left", "_law_found"]) h⟩
theorem sc_Lpool : FnScope ["_law_state", "_law_size", "_law_words"] ["_law_state", "_law_size"] (defScope s_Lpool) := ⟨rfl, rfl, rfl, by decide +kernel, rfl, by decide +kernel, by decide +kernel⟩
theorem ok_Lpool (T : Tx K mg w base) : FnOk P w K mg base (L2.CX P w) 3 T.a_Lpool T.fd_Lpool ["_law_state", "_law_size"] (spM T.W m_Lpool) :=
  ok_fun T.F_Lpool sc_Lpool (fun vs H Q E h => by exact spM_len (P := 2) h) fun cdv A out s H vs Q E hr h => ⟨tS T.W E b_Lpool, (mss_cons (pss_cons (ms_set (ps_set (i := 2) sc_Lpool.nd rfl (by first | exact Or.inl rfl | exact Or.inr rfl | exact Or.inr (Or.inl rfl) | exact Or.inr (Or.inr rfl)) (me_lst (b := false) (pe_lst (ma_cons (pa_cons (me_str pe_str) (ma_cons (pa_cons (me_str pe_str) (ma_cons (pa_cons (me_str pe_str) (ma_cons (pa_cons (me_str pe_str) (ma_cons (pa_cons (me_str pe_str) (ma_cons (pa_cons (me_str pe_str) (ma_cons (pa_cons (me_str pe_str) (ma_cons (pa_cons (me_str pe_str) (ma_cons (pa_cons (me_str pe_str) (ma_cons (pa_cons (me_str pe_str) (ma_cons (pa_cons (me_str pe_str) (ma_cons (pa_cons (me_str pe_str) (ma_cons (pa_cons (me_str pe_str) (ma_nil pa_nil)))))))))))))))))))))))))))))))
    (pss_one (ms_ret (ps_ret (me_slice (b := false) (pe_slice Cs.sl_D (me_call (pe_call (ok_Lshuffled T) (hr.mono (by decide)) rfl T.g_Lshuffled T.k_Lshuffled T.b_Lshuffled .nil (pass_at (takes_of rfl rfl rfl rfl)) (by exact (ma_cons (pa_cons (me_var (pv 0)) (ma_cons (pa_cons (me_var (pv 2)) (ma_nil pa_nil)))))))) (mo_none po_none) (mo_some (po_some (me_var (pv 1))))))))))), pureM (N := ["_law_state", "_law_size", "_law_words"]) h⟩
theorem sc_Lrandom_row : FnScope ["_law_state", "_law_pool_here", "_law_need", "_law_name", "_law_others"] ["_law_state", "_law_pool_here"] (defScope s_Lrandom_row) := ⟨rfl, rfl, rfl, by decide +kernel, rfl, by decide +kernel, by decide +kernel⟩
theorem ok_Lrandom_row (T : Tx K mg w base) : FnOk P w K mg base (L2.CX P w) 2 T.a_Lrandom_row T.fd_Lrandom_row ["_law_state", "_law_pool_here"] (spM T.W m_Lrandom_row) :=
  ok_fun T.F_Lrandom_row sc_Lrandom_row (fun vs H Q E h => by exact spM_len (P := 2) h) fun cdv A out s H vs Q E hr h => ⟨tS T.W E b_Lrandom_row, (mss_cons (pss_cons (ms_if (ps_if (mt_cmp opm_eq (pt_cmpR (op_eqZ hr.units) (me_call (pe_call (ok_Ldraw T) (hr.mono (by decide)) rfl T.g_Ldraw T.k_Ldraw T.b_Ldraw .nil (pass_at (takes_of rfl rfl rfl rfl)) (by exact (ma_cons (pa_cons (me_var (pv 0)) (ma_cons (pa_cons (me_int pe_int) (ma_nil pa_nil)))))))) (me_int pe_int) (nomark _))) (pss_one (ms_ret (ps_ret (me_non pe_non)))) (mss_nil pss_nil)))
    (mss_cons (pss_cons (ms_set (ps_set (i := 2) sc_Lrandom_row.nd rfl (by first | exact Or.inl rfl | exact Or.inr rfl | exact Or.inr (Or.inl rfl) | exact Or.inr (Or.inr rfl)) (me_lc (b := false) (lct_name (by decide)) (pe_lc (own := [("_law_name", 3)]) (g := (gName 3)) (tt := tT T.W E0' (mB (mOp (fEq false) (mCall m_Ldraw (mCons (mVar 0) (mCons (mC (.int 4)) mNil))) (mC (.int 0))))) (te := tE T.W E0' (mVar 3)) rfl sc_Lrandom_row.nd (mi_any (Cs.pi_any (me_cb (cbm_sorted (b := false)) (pe_callB (call_sortB rfl) (by rfl) T.n_sorted (by decide +kernel) (ma_cons (pa_cons (me_var (pv 1)) (ma_nil pa_nil))))))) (blkOk_by (own := [("_law_name", 3)]) (N := ["_law_state", "_law_pool_here", "_law_need", "_law_name", "_law_others"]) (sc := defScope s_Lrandom_row) (by decide +kernel)) (fun _ _ _ _ _ => (pg_name (i := 3) sc_Lrandom_row.nd rfl (by first | exact Or.inl rfl | exact Or.inr rfl | exact Or.inr (Or.inl rfl) | exact Or.inr (Or.inr rfl)))) (fun _ _ _ _ _ => ((pts_one (mt_cmp opm_eq (pt_cmpR (op_eqZ hr.units) (me_call (pe_call (ok_Ldraw T) (hr.mono (by decide)) rfl T.g_Ldraw T.k_Ldraw T.b_Ldraw .nil pass_no (by exact (ma_cons (pa_cons (me_var (pv 0)) (ma_cons (pa_cons (me_int pe_int) (ma_nil pa_nil)))))))) (me_int pe_int) (nomark _)))))) (fun _ _ _ _ _ => (me_var (pv 3)))))))
    (mss_cons (pss_cons (ms_setLc (b := false) (lct_name (by decide)) (ps_setLc (i := 4) (own := [("_law_name", 3)]) (g := (gName 3)) (tt := tT T.W E0' (mAnd (mB (mOp (fIn true) (mVar 3) (mVar 2))) (mB (mOp (fEq false) (mCall m_Ldraw (mCons (mVar 0) (mCons (mC (.int 2)) mNil))) (mC (.int 0)))))) (te := tE T.W E0' (mVar 3)) rfl sc_Lrandom_row.nd rfl rfl (sw_true rfl rfl rfl (by decide +kernel)) (mi_any (Cs.pi_any (me_cb (cbm_sorted (b := false)) (pe_callB (call_sortB rfl) (by rfl) T.n_sorted (by decide +kernel) (ma_cons (pa_cons (me_var (pv 1)) (ma_nil pa_nil))))))) (blkOk_by (own := [("_law_name", 3)]) (N := ["_law_state", "_law_pool_here", "_law_need", "_law_name", "_law_others"]) (sc := defScope s_Lrandom_row) (by decide +kernel)) (fun _ _ _ _ _ => (pg_name (i := 3) sc_Lrandom_row.nd rfl (by first | exact Or.inl rfl | exact Or.inr rfl | exact Or.inr (Or.inl rfl) | exact Or.inr (Or.inr rfl)))) (fun _ _ _ _ _ => ((pts_one (PW.pt (mw_and (pw_and (mt_cmp opm_notin (pt_cmpR Cs.op_niD (me_var (pv 3)) (me_var (pv 2)) (by first | exact nomark _ | rfl))) (pw_and1 (mt_cmp opm_eq (pt_cmpR (op_eqZ hr.units) (me_call (pe_call (ok_Ldraw T) (hr.mono (by decide)) rfl T.g_Ldraw T.k_Ldraw T.b_Ldraw .nil pass_no (by exact (ma_cons (pa_cons (me_var (pv 0)) (ma_cons (pa_cons (me_int pe_int) (ma_nil pa_nil)))))))) (me_int pe_int) (nomark _)))))))))) (fun _ _ _ _ _ => (me_var (pv 3)))))
    (mss_cons (pss_cons (ms_if (ps_if (mt_cmp opm_eq (pt_cmpR (op_eqZ hr.units) (me_call (pe_call (ok_Ldraw T) (hr.mono (by decide)) rfl T.g_Ldraw T.k_Ldraw T.b_Ldraw .nil (pass_at (takes_of rfl rfl rfl rfl)) (by exact (ma_cons (pa_cons (me_var (pv 0)) (ma_cons (pa_cons (me_int pe_int) (ma_nil pa_nil)))))))) (me_int pe_int) (nomark _))) (pss_one (ms_ret (ps_ret (me_tup (pe_tup (ma_cons (pa_cons (me_cb cbm_tuple (pe_callTy (call_tupA rfl) (by rfl) T.n_tuple (by decide +kernel) (ma_cons (pa_cons (me_var (pv 2)) (ma_nil pa_nil))))) (ma_cons (pa_cons (me_cb cbm_tuple (pe_callTy (call_tupA rfl) (by rfl) T.n_tuple (by decide +kernel) (ma_cons (pa_cons (me_var (pv 4)) (ma_nil pa_nil))))) (ma_cons (pa_cons (me_bl pe_bl) (ma_nil pa_nil)))))))))))) (mss_nil pss_nil)))
    (pss_one (ms_ret (ps_ret (me_tup (pe_tup (ma_cons (pa_cons (me_cb cbm_tuple (pe_callTy (call_tupA rfl) (by rfl) T.n_tuple (by decide +kernel) (ma_cons (pa_cons (me_var (pv 2)) (ma_nil pa_nil))))) (ma_cons (pa_cons (me_cb cbm_tuple (pe_callTy (call_tupA rfl) (by rfl) T.n_tuple (by decide +kernel) (ma_cons (pa_cons (me_cb (cbm_sorted (b := false)) (pe_callB (call_sortB rfl) (by rfl) T.n_sorted (by decide +kernel) (ma_cons (pa_cons (me_op (opm_add (b := false)) (pe_op Cs.op_addD (me_var (pv 2)) (me_var (pv 4)))) (ma_nil pa_nil))))) (ma_nil pa_nil))))) (ma_cons (pa_cons (me_bl pe_bl) (ma_nil pa_nil)))))))))))))))))))), pureM (N := ["_law_state", "_law_pool_here", "_law_need", "_law_name", "_law_others"]) h⟩
theorem sc_Lrandom_rows : FnScope ["_law_state", "_law_pool_here", "_law_most", "_law_turn", "_law_found", "_law_row", "_law_left", "_law_name", "_law_need", "_law_one"] ["_law_state", "_law_pool_here", "_law_most"] (defScope s_Lrandom_rows) := ⟨rfl, rfl, rfl, by decide +kernel, rfl, by decide +kernel, by decide +kernel⟩
theorem ok_Lrandom_rows (T : Tx K mg w base) : FnOk P w K mg base (L2.CX P w) 3 T.a_Lrandom_rows T.fd_Lrandom_rows ["_law_state", "_law_pool_here", "_law_most"] (spM T.W m_Lrandom_rows) :=
  ok_fun T.F_Lrandom_rows sc_Lrandom_rows (fun vs H Q E h => by exact spM_len (P := 3) h) fun cdv A out s H vs Q E hr h => ⟨tS T.W E b_Lrandom_rows, (mss_cons (pss_cons (ms_if (ps_if (mt_cmp opm_eq (pt_cmpR (op_eqZ hr.units) (me_call (pe_call (ok_Ldraw T) (hr.mono (by decide)) rfl T.g_Ldraw T.k_Ldraw T.b_Ldraw .nil (pass_at (takes_of rfl rfl rfl rfl)) (by exact (ma_cons (pa_cons (me_var (pv 0)) (ma_cons (pa_cons (me_int pe_int) (ma_nil pa_nil)))))))) (me_int pe_int) (nomark _))) (pss_one (ms_ret (ps_ret (me_lc (b := false) (lct_name (by decide)) (pe_lc (own := [("_law_turn", 3)]) (g := (gName 3)) (tt := tT T.W E0' mYes) (te := tE T.W E0' (mCall m_Lrandom_row (mCons (mVar 0) (mCons (mVar 1) mNil)))) rfl sc_Lrandom_rows.nd (mi_rng1 (pi_range1 rfl T.n_range (ma_cons (pa_cons (me_op (opm_add (b := false)) (pe_op Cs.op_addD (me_int pe_int) (me_call (pe_call (ok_Ldraw T) (hr.mono (by decide)) rfl T.g_Ldraw T.k_Ldraw T.b_Ldraw .nil (pass_at (takes_of rfl rfl rfl rfl)) (by exact (ma_cons (pa_cons (me_var (pv 0)) (ma_cons (pa_cons (me_var (pv 2)) (ma_nil pa_nil)))))))))) (ma_nil pa_nil))))) (blkOk_by (own := [("_law_turn", 3)]) (N := ["_law_state", "_law_pool_here", "_law_most", "_law_turn", "_law_found", "_law_row", "_law_left", "_law_name", "_law_need", "_law_one"]) (sc := defScope s_Lrandom_rows) (by decide +kernel)) (fun _ _ _ _ _ => (pg_name (i := 3) sc_Lrandom_rows.nd rfl (by first | exact Or.inl rfl | exact Or.inr rfl | exact Or.inr (Or.inl rfl) | exact Or.inr (Or.inr rfl)))) (fun _ _ _ _ _ => (mt_yes pts_nil)) (fun _ _ _ _ _ => (me_call (pe_call (ok_Lrandom_row T) (hr.mono (by decide)) rfl T.g_Lrandom_row T.k_Lrandom_row T.b_Lrandom_row .nil pass_no (by exact (ma_cons (pa_cons (me_var (pv 0)) (ma_cons (pa_cons (me_var (pv 1)) (ma_nil pa_nil)))))))))))))) (mss_nil pss_nil)))
    (mss_cons (pss_cons (ms_setLc (b := true) (lct_name (by decide)) (ps_setLc (i := 4) (own := [("_law_turn", 3)]) (g := (gName 3)) (tt := tT T.W E0' mYes) (te := tE T.W E0' (mCall m_Lrandom_row (mCons (mVar 0) (mCons (mVar 1) mNil)))) rfl sc_Lrandom_rows.nd rfl rfl (sw_true rfl rfl rfl (by decide +kernel)) (mi_rng1 (pi_range1 rfl T.n_range (ma_cons (pa_cons (me_op (opm_add (b := false)) (pe_op Cs.op_addD (me_int pe_int) (me_call (pe_call (ok_Ldraw T) (hr.mono (by decide)) rfl T.g_Ldraw T.k_Ldraw T.b_Ldraw .nil (pass_at (takes_of rfl rfl rfl rfl)) (by exact (ma_cons (pa_cons (me_var (pv 0)) (ma_cons (pa_cons (me_int pe_int) (ma_nil pa_nil)))))))))) (ma_nil pa_nil))))) (blkOk_by (own := [("_law_turn", 3)]) (N := ["_law_state", "_law_pool_here", "_law_most", "_law_turn", "_law_found", "_law_row", "_law_left", "_law_name", "_law_need", "_law_one"]) (sc := defScope s_Lrandom_rows) (by decide +kernel)) (fun _ _ _ _ _ => (pg_name (i := 3) sc_Lrandom_rows.nd rfl (by first | exact Or.inl rfl | exact Or.inr rfl | exact Or.inr (Or.inl rfl) | exact Or.inr (Or.inr rfl)))) (fun _ _ _ _ _ => (mt_yes pts_nil)) (fun _ _ _ _ _ => (me_call (pe_call (ok_Lrandom_row T) (hr.mono (by decide)) rfl T.g_Lrandom_row T.k_Lrandom_row T.b_Lrandom_row .nil pass_no (by exact (ma_cons (pa_cons (me_var (pv 0)) (ma_cons (pa_cons (me_var (pv 1)) (ma_nil pa_nil)))))))))))
    (mss_cons (pss_cons (ms_while (ps_while (passes_own rfl) (PW.pt (mw_and (pw_and (mt_cmp opm_lt (pt_cmpR (Cs.op_ltD hr.units) (me_cb cbm_len (pe_callB call_lenA (by rfl) T.n_len (by decide +kernel) (ma_cons (pa_cons (me_var (pv 4)) (ma_nil pa_nil))))) (me_var (pv 2)) (nomark _))) (pw_and1 (mt_cmp opm_gt (pt_cmpR op_gt (me_call (pe_call (ok_Ldraw T) (hr.mono (by decide)) rfl T.g_Ldraw T.k_Ldraw T.b_Ldraw .nil (pass_at (takes_of rfl rfl rfl rfl)) (by exact (ma_cons (pa_cons (me_var (pv 0)) (ma_cons (pa_cons (me_int pe_int) (ma_nil pa_nil)))))))) (me_int pe_int) (nomark _))))))) (mss_cons (pss_cons (ms_set (ps_set (i := 5) sc_Lrandom_rows.nd rfl (by first | exact Or.inl rfl | exact Or.inr rfl | exact Or.inr (Or.inl rfl) | exact Or.inr (Or.inr rfl)) (me_op opm_ix (pe_ix ix_seq (me_var (pv 4)) (me_un unm_neg (pe_un un_neg (me_int pe_int))) (fun _ _ => rfl)))))
    (mss_cons (pss_cons (ms_set (ps_set (i := 6) sc_Lrandom_rows.nd rfl (by first | exact Or.inl rfl | exact Or.inr rfl | exact Or.inr (Or.inl rfl) | exact Or.inr (Or.inr rfl)) (me_if (pe_ifExp (mt_cmp opm_notN (pt_cmpR op_notN (me_var (pv 5)) (me_non pe_non) (nomark _))) (me_lc (b := false) (lct_name (by decide)) (pe_lc (own := [("_law_name", 7)]) (g := (gName 7)) (tt := tT T.W E0' (mB (mOp (fEq true) (mOp (fIn false) (mVar 7) (mOp fIx (mVar 5) (mC (.int 1)))) (mOp fIx (mVar 5) (mC (.int 2)))))) (te := tE T.W E0' (mVar 7)) rfl sc_Lrandom_rows.nd (mi_any (Cs.pi_any (me_var (pv 1)))) (blkOk_by (own := [("_law_name", 7)]) (N := ["_law_state", "_law_pool_here", "_law_most", "_law_turn", "_law_found", "_law_row", "_law_left", "_law_name", "_law_need", "_law_one"]) (sc := defScope s_Lrandom_rows) (by decide +kernel)) (fun _ _ _ _ _ => (pg_name (i := 7) sc_Lrandom_rows.nd rfl (by first | exact Or.inl rfl | exact Or.inr rfl | exact Or.inr (Or.inl rfl) | exact Or.inr (Or.inr rfl)))) (fun _ _ _ _ _ => ((pts_one (mt_cmp opm_ne (pt_cmpR (op_neZ hr.units) (me_op opm_in (pe_cmpR Cs.op_inD (me_var (pv 7)) (me_op opm_ix (pe_ix ix_seq (me_var (pv 5)) (me_int pe_int) (fun _ _ => rfl))) (by first | exact nomark _ | rfl))) (me_op opm_ix (pe_ix ix_seq (me_var (pv 5)) (me_int pe_int) (fun _ _ => rfl))) (nomark _)))))) (fun _ _ _ _ _ => (me_var (pv 7))))) (me_lst (b := false) (pe_lst (ma_nil pa_nil)))))))
    (mss_cons (pss_cons (ms_if (ps_if (PW.pt (mw_and (pw_and (mt_cmp opm_ne (pt_cmpR (op_neZ hr.units) (me_var (pv 6)) (me_lst (b := false) (pe_lst (ma_nil pa_nil))) (nomark _))) (pw_and1 (mt_cmp opm_gt (pt_cmpR op_gt (me_call (pe_call (ok_Ldraw T) (hr.mono (by decide)) rfl T.g_Ldraw T.k_Ldraw T.b_Ldraw .nil (pass_at (takes_of rfl rfl rfl rfl)) (by exact (ma_cons (pa_cons (me_var (pv 0)) (ma_cons (pa_cons (me_int pe_int) (ma_nil pa_nil)))))))) (me_int pe_int) (nomark _))))))) (mss_cons (pss_cons (ms_set (ps_set (i := 7) sc_Lrandom_rows.nd rfl (by first | exact Or.inl rfl | exact Or.inr rfl | exact Or.inr (Or.inl rfl) | exact Or.inr (Or.inr rfl)) (me_call (pe_call (ok_Lpick T) (hr.mono (by decide)) rfl T.g_Lpick T.k_Lpick T.b_Lpick .nil (pass_at (takes_of rfl rfl rfl rfl)) (by exact (ma_cons (pa_cons (me_var (pv 0)) (ma_cons (pa_cons (me_var (pv 6)) (ma_nil pa_nil))))))))))
    (mss_cons (pss_cons (ms_set (ps_set (i := 8) sc_Lrandom_rows.nd rfl (by first | exact Or.inl rfl | exact Or.inr rfl | exact Or.inr (Or.inl rfl) | exact Or.inr (Or.inr rfl)) (me_cb cbm_tuple (pe_callTy (call_tupA rfl) (by rfl) T.n_tuple (by decide +kernel) (ma_cons (pa_cons (me_lc (b := false) (lct_name (by decide)) (pe_lc (own := [("_law_one", 9)]) (g := (gName 9)) (tt := tT T.W E0' (mB (mOp (fEq true) (mVar 9) (mVar 7)))) (te := tE T.W E0' (mVar 9)) rfl sc_Lrandom_rows.nd (mi_any (Cs.pi_any (me_op opm_ix (pe_ix ix_seq (me_var (pv 5)) (me_int pe_int) (fun _ _ => rfl))))) (blkOk_by (own := [("_law_one", 9)]) (N := ["_law_state", "_law_pool_here", "_law_most", "_law_turn", "_law_found", "_law_row", "_law_left", "_law_name", "_law_need", "_law_one"]) (sc := defScope s_Lrandom_rows) (by decide +kernel)) (fun _ _ _ _ _ => (pg_name (i := 9) sc_Lrandom_rows.nd rfl (by first | exact Or.inl rfl | exact Or.inr rfl | exact Or.inr (Or.inl rfl) | exact Or.inr (Or.inr rfl)))) (fun _ _ _ _ _ => ((pts_one (mt_cmp opm_ne (pt_cmpR (op_neZ hr.units) (me_var (pv 9)) (me_var (pv 7)) (nomark _)))))) (fun _ _ _ _ _ => (me_var (pv 9))))) (ma_nil pa_nil)))))))
    (pss_one (ms_if (ps_if (mt_val (pt_val (me_op opm_ix (pe_ix ix_seq (me_var (pv 5)) (me_int pe_int) (fun _ _ => rfl))))) (pss_one (ms_set (ps_set (i := 5) sc_Lrandom_rows.nd rfl (by first | exact Or.inl rfl | exact Or.inr rfl | exact Or.inr (Or.inl rfl) | exact Or.inr (Or.inr rfl)) (me_tup (pe_tup (ma_cons (pa_cons (me_var (pv 8)) (ma_cons (pa_cons (me_cb cbm_tuple (pe_callTy (call_tupA rfl) (by rfl) T.n_tuple (by decide +kernel) (ma_cons (pa_cons (me_sortSet (b := false) (pe_sortSet rfl rfl T.n_sorted rfl T.n_set (me_op (opm_add (b := false)) (pe_op Cs.op_addD (me_op opm_ix (pe_ix ix_seq (me_var (pv 5)) (me_int pe_int) (fun _ _ => rfl))) (me_tup (pe_tup (ma_cons (pa_cons (me_var (pv 7)) (ma_nil pa_nil))))))))) (ma_nil pa_nil))))) (ma_cons (pa_cons (me_bl pe_bl) (ma_nil pa_nil)))))))))))) (pss_one (ms_set (ps_set (i := 5) sc_Lrandom_rows.nd rfl (by first | exact Or.inl rfl | exact Or.inr rfl | exact Or.inr (Or.inl rfl) | exact Or.inr (Or.inr rfl)) (me_tup (pe_tup (ma_cons (pa_cons (me_var (pv 8)) (ma_cons (pa_cons (me_cb cbm_tuple (pe_callTy (call_tupA rfl) (by rfl) T.n_tuple (by decide +kernel) (ma_cons (pa_cons (me_lc (b := false) (lct_name (by decide)) (pe_lc (own := [("_law_one", 9)]) (g := (gName 9)) (tt := tT T.W E0' (mB (mOp (fEq true) (mVar 9) (mVar 7)))) (te := tE T.W E0' (mVar 9)) rfl sc_Lrandom_rows.nd (mi_any (Cs.pi_any (me_op opm_ix (pe_ix ix_seq (me_var (pv 5)) (me_int pe_int) (fun _ _ => rfl))))) (blkOk_by (own := [("_law_one", 9)]) (N := ["_law_state", "_law_pool_here", "_law_most", "_law_turn", "_law_found", "_law_row", "_law_left", "_law_name", "_law_need", "_law_one"]) (sc := defScope s_Lrandom_rows) (by decide +kernel)) (fun _ _ _ _ _ => (pg_name (i := 9) sc_Lrandom_rows.nd rfl (by first | exact Or.inl rfl | exact Or.inr rfl | exact Or.inr (Or.inl rfl) | exact Or.inr (Or.inr rfl)))) (fun _ _ _ _ _ => ((pts_one (mt_cmp opm_ne (pt_cmpR (op_neZ hr.units) (me_var (pv 9)) (me_var (pv 7)) (nomark _)))))) (fun _ _ _ _ _ => (me_var (pv 9))))) (ma_nil pa_nil))))) (ma_cons (pa_cons (me_bl pe_bl) (ma_nil pa_nil))))))))))))))))))) (mss_nil pss_nil)))
    (pss_one (ms_drop (ps_expr (me_bm mtc_append (pe_bm PySem.F.plainAttrs_list PySem.F.slot_list_append PySem.F.type_list_append mt_append (me_var (pv 4)) (ma_cons (pa_cons (me_var (pv 5)) (ma_nil pa_nil))))))))))))))))
    (pss_one (ms_ret (ps_ret (me_op (opm_add (b := false)) (pe_op Cs.op_addD (me_var (pv 4)) (me_op (opm_mul (b := false)) (pe_op Cs.op_mulD (me_lst (b := true) (pe_lst (ma_cons (pa_cons (me_non pe_non) (ma_nil pa_nil))))) (me_call (pe_call (ok_Ldraw T) (hr.mono (by decide)) rfl T.g_Ldraw T.k_Ldraw T.b_Ldraw .nil (pass_at (takes_of rfl rfl rfl rfl)) (by exact (ma_cons (pa_cons (me_var (pv 0)) (ma_cons (pa_cons (me_int pe_int) (ma_nil pa_nil))))))))))))))))))))), pureM (N := ["_law_state", "_law_pool_here", "_law_most", "_law_turn", "_law_found", "_law_row", "_law_left", "_law_name", "_law_need", "_law_one"]) h⟩
theorem sc_lost_between : FnScope ["row", "later", "wide", "narrow", "name", "lost"] ["row", "later"] (defScope s_lost_between) := ⟨rfl, rfl, rfl, by decide +kernel, rfl, by decide +kernel, by decide +kernel⟩
theorem ok_lost_between (T : Tx K mg w base) : FnOk P w K mg base (L2.CX P w) 1 T.a_lost_between T.fd_lost_between ["row", "later"] (spM T.W m_lost_between) :=
  ok_fun T.F_lost_between sc_lost_between (fun vs H Q E h => by exact spM_len (P := 2) h) fun cdv A out s H vs Q E hr h => ⟨tS T.W E b_lost_between, (mss_cons (pss_cons (ms_if (ps_if (mt_cmp opm_ne (pt_cmpR (op_neZ hr.units) (me_op opm_ix (pe_ix ix_seq (me_var (pv 0)) (me_int pe_int) (fun _ _ => rfl))) (me_op opm_ix (pe_ix ix_seq (me_var (pv 1)) (me_int pe_int) (fun _ _ => rfl))) (nomark _))) (pss_one (ms_ret (ps_ret (me_non pe_non)))) (mss_nil pss_nil)))
    (mss_cons (pss_cons (ms_asg (ps_asg (me_if (pe_ifExp (mt_val (pt_val (me_op opm_ix (pe_ix ix_seq (me_var (pv 0)) (me_int pe_int) (fun _ _ => rfl))))) (me_tup (pe_tup (ma_cons (pa_cons (me_op opm_ix (pe_ix ix_seq (me_var (pv 1)) (me_int pe_int) (fun _ _ => rfl))) (ma_cons (pa_cons (me_op opm_ix (pe_ix ix_seq (me_var (pv 0)) (me_int pe_int) (fun _ _ => rfl))) (ma_nil pa_nil))))))) (me_tup (pe_tup (ma_cons (pa_cons (me_op opm_ix (pe_ix ix_seq (me_var (pv 0)) (me_int pe_int) (fun _ _ => rfl))) (ma_cons (pa_cons (me_op opm_ix (pe_ix ix_seq (me_var (pv 1)) (me_int pe_int) (fun _ _ => rfl))) (ma_nil pa_nil))))))))) (mg_tup (pg_tup rfl (mgs_cons (pgs_cons (mg_name (pg_name (i := 2) sc_lost_between.nd rfl (by first | exact Or.inl rfl | exact Or.inr rfl | exact Or.inr (Or.inl rfl) | exact Or.inr (Or.inr rfl)))) (mgs_cons (pgs_cons (mg_name (pg_name (i := 3) sc_lost_between.nd rfl (by first | exact Or.inl rfl | exact Or.inr rfl | exact Or.inr (Or.inl rfl) | exact Or.inr (Or.inr rfl)))) (mgs_nil pgs_nil)))))))))
    (mss_cons (pss_cons (ms_if (ps_if (mt_not (pt_not (mt_val (pt_val (me_cb cbm_all (pe_callB (cr_all rfl) (by rfl) T.n_all (by decide +kernel) (ma_cons (pa_cons (me_lc (b := false) (lct_name (by decide)) (pe_lc (own := [("name", 4)]) (g := (gName 4)) (tt := tT T.W E0' mYes) (te := tE T.W E0' (mOp (fIn false) (mVar 4) (mVar 2))) rfl sc_lost_between.nd (mi_any (Cs.pi_any (me_var (pv 3)))) (blkOk_by (own := [("name", 4)]) (N := ["row", "later", "wide", "narrow", "name", "lost"]) (sc := defScope s_lost_between) (by decide +kernel)) (fun _ _ _ _ _ => (pg_name (i := 4) sc_lost_between.nd rfl (by first | exact Or.inl rfl | exact Or.inr rfl | exact Or.inr (Or.inl rfl) | exact Or.inr (Or.inr rfl)))) (fun _ _ _ _ _ => (mt_yes pts_nil)) (fun _ _ _ _ _ => (me_op opm_in (pe_cmpR Cs.op_inD (me_var (pv 4)) (me_var (pv 2)) (by first | exact nomark _ | rfl)))))) (ma_nil pa_nil))))))))) (pss_one (ms_ret (ps_ret (me_non pe_non)))) (mss_nil pss_nil)))
    (mss_cons (pss_cons (ms_set (ps_set (i := 5) sc_lost_between.nd rfl (by first | exact Or.inl rfl | exact Or.inr rfl | exact Or.inr (Or.inl rfl) | exact Or.inr (Or.inr rfl)) (me_lc (b := false) (lct_name (by decide)) (pe_lc (own := [("name", 4)]) (g := (gName 4)) (tt := tT T.W E0' (mB (mOp (fIn true) (mVar 4) (mVar 3)))) (te := tE T.W E0' (mVar 4)) rfl sc_lost_between.nd (mi_any (Cs.pi_any (me_var (pv 2)))) (blkOk_by (own := [("name", 4)]) (N := ["row", "later", "wide", "narrow", "name", "lost"]) (sc := defScope s_lost_between) (by decide +kernel)) (fun _ _ _ _ _ => (pg_name (i := 4) sc_lost_between.nd rfl (by first | exact Or.inl rfl | exact Or.inr rfl | exact Or.inr (Or.inl rfl) | exact Or.inr (Or.inr rfl)))) (fun _ _ _ _ _ => ((pts_one (mt_cmp opm_notin (pt_cmpR Cs.op_niD (me_var (pv 4)) (me_var (pv 3)) (by first | exact nomark _ | rfl)))))) (fun _ _ _ _ _ => (me_var (pv 4)))))))
    (pss_one (ms_ret (ps_ret (me_if (pe_ifExp (mt_cmp opm_eq (pt_cmpR (op_eqZ hr.units) (me_op opm_ix (pe_ix ix_seq (me_var (pv 1)) (me_int pe_int) (fun _ _ => rfl))) (me_cb cbm_tuple (pe_callTy (call_tupA rfl) (by rfl) T.n_tuple (by decide +kernel) (ma_cons (pa_cons (me_lc (b := false) (lct_name (by decide)) (pe_lc (own := [("name", 4)]) (g := (gName 4)) (tt := tT T.W E0' (mB (mOp (fIn true) (mVar 4) (mVar 5)))) (te := tE T.W E0' (mVar 4)) rfl sc_lost_between.nd (mi_any (Cs.pi_any (me_op opm_ix (pe_ix ix_seq (me_var (pv 0)) (me_int pe_int) (fun _ _ => rfl))))) (blkOk_by (own := [("name", 4)]) (N := ["row", "later", "wide", "narrow", "name", "lost"]) (sc := defScope s_lost_between) (by decide +kernel)) (fun _ _ _ _ _ => (pg_name (i := 4) sc_lost_between.nd rfl (by first | exact Or.inl rfl | exact Or.inr rfl | exact Or.inr (Or.inl rfl) | exact Or.inr (Or.inr rfl)))) (fun _ _ _ _ _ => ((pts_one (mt_cmp opm_notin (pt_cmpR Cs.op_niD (me_var (pv 4)) (me_var (pv 5)) (by first | exact nomark _ | rfl)))))) (fun _ _ _ _ _ => (me_var (pv 4))))) (ma_nil pa_nil))))) (nomark _))) (me_var (pv 5)) (me_non pe_non)))))))))))))), pureM (N := ["row", "later", "wide", "narrow", "name", "lost"]) h⟩
theorem sc_Fit_dinitd : FnScope ["self", "rows", "count", "row", "empty", "later", "partner"] ["self", "rows"] (defScope s_Fit_dinitd) := ⟨rfl, rfl, rfl, by decide +kernel, rfl, by decide +kernel, by decide +kernel⟩
theorem ok_Fit_dinitd (T : Tx K mg w base) : FnOk P w K mg base (L2.CX P w) 2 T.a_Fit_dinitd T.fd_Fit_dinitd ["self", "rows"] (spM T.W m_Fit_dinitd) :=
  ok_fun T.F_Fit_dinitd sc_Fit_dinitd (fun vs H Q E h => by exact spM_len (P := 2) h) fun cdv A out s H vs Q E hr h => ⟨tS T.W E b_Fit_dinitd, (mss_cons (pss_cons (ms_fld (all1 (fl_Fit_full T)) (ps_fld (me_var (pv 0)) (me_lc (b := false) (lct_tup2 (by decide) (by decide)) (pe_lc (own := [("count", 2), ("row", 3)]) (g := (gTup K 2 (gCons (gName 2) (gCons (gName 3) gNil)))) (tt := tT T.W E0' (mB (mOp (fIsN true) (mVar 3) (mC .non)))) (te := tE T.W E0' (mTup (mCons (mVar 2) (mCons (mVar 3) mNil)))) rfl sc_Fit_dinitd.nd (mi_any (Cs.pi_any (me_var (pv 1)))) (blkOk_by (own := [("count", 2), ("row", 3)]) (N := ["self", "rows", "count", "row", "empty", "later", "partner"]) (sc := defScope s_Fit_dinitd) (by decide +kernel)) (fun _ _ _ _ _ => (pg_tup rfl (pgs_cons (pg_name (i := 2) sc_Fit_dinitd.nd rfl (by first | exact Or.inl rfl | exact Or.inr rfl | exact Or.inr (Or.inl rfl) | exact Or.inr (Or.inr rfl))) (pgs_cons (pg_name (i := 3) sc_Fit_dinitd.nd rfl (by first | exact Or.inl rfl | exact Or.inr rfl | exact Or.inr (Or.inl rfl) | exact Or.inr (Or.inr rfl))) pgs_nil)))) (fun _ _ _ _ _ => ((pts_one (mt_cmp opm_notN (pt_cmpR op_notN (me_var (pv 3)) (me_non pe_non) (nomark _)))))) (fun _ _ _ _ _ => (me_tup (pe_tup (ma_cons (pa_cons (me_var (pv 2)) (ma_cons (pa_cons (me_var (pv 3)) (ma_nil pa_nil)))))))))) rfl))
    (mss_cons (pss_cons (ms_asg (ps_asg (me_tup (pe_tup (ma_cons (pa_cons (me_op opm_ix (pe_ix ix_seq (me_op opm_ix (pe_ix ix_seq (me_fld (all1 (fl_Fit_full T)) (pe_fld (me_var (pv 0)) rfl)) (me_int pe_int) (fun _ _ => rfl))) (me_int pe_int) (fun _ _ => rfl))) (ma_cons (pa_cons (me_op opm_ix (pe_ix ix_seq (me_op opm_ix (pe_ix ix_seq (me_fld (all1 (fl_Fit_full T)) (pe_fld (me_var (pv 0)) rfl)) (me_un unm_neg (pe_un un_neg (me_int pe_int))) (fun _ _ => rfl))) (me_int pe_int) (fun _ _ => rfl))) (ma_nil pa_nil))))))) (mg_tup (pg_tup rfl (mgs_cons (pgs_cons (mg_attr (all1 (fl_Fit_first T)) (pg_attr (me_var (pv 0)))) (mgs_cons (pgs_cons (mg_attr (all1 (fl_Fit_last T)) (pg_attr (me_var (pv 0)))) (mgs_nil pgs_nil)))))))))
    (mss_cons (pss_cons (ms_setLc (b := false) (lct_tup2 (by decide) (by decide)) (ps_setLc (i := 4) (own := [("count", 2), ("row", 3)]) (g := (gTup K 2 (gCons (gName 2) (gCons (gName 3) gNil)))) (tt := tT T.W E0' (mB (mOp (fIsN false) (mVar 3) (mC .non)))) (te := tE T.W E0' (mVar 2)) rfl sc_Fit_dinitd.nd rfl rfl (sw_true rfl rfl rfl (by decide +kernel)) (mi_any (Cs.pi_any (me_var (pv 1)))) (blkOk_by (own := [("count", 2), ("row", 3)]) (N := ["self", "rows", "count", "row", "empty", "later", "partner"]) (sc := defScope s_Fit_dinitd) (by decide +kernel)) (fun _ _ _ _ _ => (pg_tup rfl (pgs_cons (pg_name (i := 2) sc_Fit_dinitd.nd rfl (by first | exact Or.inl rfl | exact Or.inr rfl | exact Or.inr (Or.inl rfl) | exact Or.inr (Or.inr rfl))) (pgs_cons (pg_name (i := 3) sc_Fit_dinitd.nd rfl (by first | exact Or.inl rfl | exact Or.inr rfl | exact Or.inr (Or.inl rfl) | exact Or.inr (Or.inr rfl))) pgs_nil)))) (fun _ _ _ _ _ => ((pts_one (mt_cmp opm_isN (pt_cmpR op_isN (me_var (pv 3)) (me_non pe_non) (nomark _)))))) (fun _ _ _ _ _ => (me_var (pv 2)))))
    (mss_cons (pss_cons (ms_fld (all1 (fl_Fit_is_bounded T)) (ps_fld (me_var (pv 0)) (me_cb cbm_any (pe_callB (cr_any rfl) (by rfl) T.n_any (by decide +kernel) (ma_cons (pa_cons (me_lc (b := false) (lct_name (by decide)) (pe_lc (own := [("count", 2)]) (g := (gName 2)) (tt := tT T.W E0' mYes) (te := tE T.W E0' (mOp (fI2 fun i j => .bl (decide (j < i))) (mVar 2) (mFld ["Fit"] "last" (mVar 0)))) rfl sc_Fit_dinitd.nd (mi_any (Cs.pi_any (me_var (pv 4)))) (blkOk_by (own := [("count", 2)]) (N := ["self", "rows", "count", "row", "empty", "later", "partner"]) (sc := defScope s_Fit_dinitd) (by decide +kernel)) (fun _ _ _ _ _ => (pg_name (i := 2) sc_Fit_dinitd.nd rfl (by first | exact Or.inl rfl | exact Or.inr rfl | exact Or.inr (Or.inl rfl) | exact Or.inr (Or.inr rfl)))) (fun _ _ _ _ _ => (mt_yes pts_nil)) (fun _ _ _ _ _ => (me_op opm_gt (pe_cmpR op_gt (me_var (pv 2)) (me_fld (all1 (fl_Fit_last T)) (pe_fld (me_var (pv 0)) rfl)) (nomark _)))))) (ma_nil pa_nil))))) rfl))
    (mss_cons (pss_cons (ms_fld (all1 (fl_Fit_is_torn T)) (ps_fld (me_var (pv 0)) (me_cb cbm_any (pe_callB (cr_any rfl) (by rfl) T.n_any (by decide +kernel) (ma_cons (pa_cons (me_lc (b := false) (lct_name (by decide)) (pe_lc (own := [("count", 2)]) (g := (gName 2)) (tt := tT T.W E0' mYes) (te := tE T.W E0' (mChain fLt fLt (mFld ["Fit"] "first" (mVar 0)) (mVar 2) (mFld ["Fit"] "last" (mVar 0)))) rfl sc_Fit_dinitd.nd (mi_any (Cs.pi_any (me_var (pv 4)))) (blkOk_by (own := [("count", 2)]) (N := ["self", "rows", "count", "row", "empty", "later", "partner"]) (sc := defScope s_Fit_dinitd) (by decide +kernel)) (fun _ _ _ _ _ => (pg_name (i := 2) sc_Fit_dinitd.nd rfl (by first | exact Or.inl rfl | exact Or.inr rfl | exact Or.inr (Or.inl rfl) | exact Or.inr (Or.inr rfl)))) (fun _ _ _ _ _ => (mt_yes pts_nil)) (fun _ _ _ _ _ => (me_chain opm_lt opm_lt (pe_chain (Cs.op_ltD hr.units) (Cs.op_ltD hr.units) (me_fld (all1 (fl_Fit_first T)) (pe_fld (me_var (pv 0)) rfl)) (me_var (pv 2)) (me_fld (all1 (fl_Fit_last T)) (pe_fld (me_var (pv 0)) rfl))))))) (ma_nil pa_nil))))) rfl))
    (mss_cons (pss_cons (ms_fld (all1 (fl_Fit_losses T)) (ps_fld (me_var (pv 0)) (me_lst (b := true) (pe_lst (ma_nil pa_nil))) rfl))
    (pss_one (ms_for (ps_for (passes_own rfl) rfl (mi_zip (RZ.pi_zipA rfl T.n_zip (pa_cons (me_fld (all1 (fl_Fit_full T)) (pe_fld (me_var (pv 0)) rfl)) (pa_cons (me_slice (b := false) (pe_slice Cs.sl_D (me_fld (all1 (fl_Fit_full T)) (pe_fld (me_var (pv 0)) rfl)) (mo_some (po_some (me_int pe_int))) (mo_none po_none))) pa_nil)))) (mg_tup (pg_tup rfl (mgs_cons (pgs_cons (mg_tup (pg_tup rfl (mgs_cons (pgs_cons (mg_name (pg_name (i := 2) sc_Fit_dinitd.nd rfl (by first | exact Or.inl rfl | exact Or.inr rfl | exact Or.inr (Or.inl rfl) | exact Or.inr (Or.inr rfl)))) (mgs_cons (pgs_cons (mg_name (pg_name (i := 3) sc_Fit_dinitd.nd rfl (by first | exact Or.inl rfl | exact Or.inr rfl | exact Or.inr (Or.inl rfl) | exact Or.inr (Or.inr rfl)))) (mgs_nil pgs_nil))))))) (mgs_cons (pgs_cons (mg_tup (pg_tup rfl (mgs_cons (pgs_cons (mg_name (pg_name (i := 5) sc_Fit_dinitd.nd rfl (by first | exact Or.inl rfl | exact Or.inr rfl | exact Or.inr (Or.inl rfl) | exact Or.inr (Or.inr rfl)))) (mgs_cons (pgs_cons (mg_name (pg_name (i := 6) sc_Fit_dinitd.nd rfl (by first | exact Or.inl rfl | exact Or.inr rfl | exact Or.inr (Or.inl rfl) | exact Or.inr (Or.inr rfl)))) (mgs_nil pgs_nil))))))) (mgs_nil pgs_nil))))))) (pss_one (ms_drop (ps_expr (me_bm mtc_append (pe_bm PySem.F.plainAttrs_list PySem.F.slot_list_append PySem.F.type_list_append mt_append (me_fld (all1 (fl_Fit_losses T)) (pe_fld (me_var (pv 0)) rfl)) (ma_cons (pa_cons (me_tup (pe_tup (ma_cons (pa_cons (me_var (pv 2)) (ma_cons (pa_cons (me_var (pv 5)) (ma_cons (pa_cons (me_call (pe_call (ok_lost_between T) (hr.mono (by decide)) rfl T.g_lost_between T.k_lost_between T.b_lost_between .nil (pass_at (takes_of rfl rfl rfl rfl)) (by exact (ma_cons (pa_cons (me_var (pv 3)) (ma_cons (pa_cons (me_var (pv 6)) (ma_nil pa_nil)))))))) (ma_cons (pa_cons (me_op opm_ix (pe_ix ix_seq (me_var (pv 3)) (me_int pe_int) (fun _ _ => rfl))) (ma_nil pa_nil))))))))))) (ma_nil pa_nil))))))))))))))))))))))), pureM (N := ["self", "rows", "count", "row", "empty", "later", "partner"]) h⟩
theorem sc_Fit_is_ordered : FnScope ["self", "is_late", "count", "later", "lost", "need", "name"] ["self"] (defScope s_Fit_is_ordered) := ⟨rfl, rfl, rfl, by decide +kernel, rfl, by decide +kernel, by decide +kernel⟩
theorem ok_Fit_is_ordered (T : Tx K mg w base) : FnOk P w K mg base (L2.CX P w) 1 T.a_Fit_is_ordered T.fd_Fit_is_ordered ["self"] (spM T.W m_Fit_is_ordered) :=
  ok_fun T.F_Fit_is_ordered sc_Fit_is_ordered (fun vs H Q E h => by exact spM_len (P := 1) h) fun cdv A out s H vs Q E hr h => ⟨tS T.W E b_Fit_is_ordered, (mss_cons (pss_cons (ms_set (ps_set (i := 1) sc_Fit_is_ordered.nd rfl (by first | exact Or.inl rfl | exact Or.inr rfl | exact Or.inr (Or.inl rfl) | exact Or.inr (Or.inr rfl)) (me_bl pe_bl)))
    (mss_cons (pss_cons (ms_for (ps_for (passes_own rfl) rfl (mi_any (Cs.pi_any (me_fld (all1 (fl_Fit_losses T)) (pe_fld (me_var (pv 0)) rfl)))) (mg_tup (pg_tup rfl (mgs_cons (pgs_cons (mg_name (pg_name (i := 2) sc_Fit_is_ordered.nd rfl (by first | exact Or.inl rfl | exact Or.inr rfl | exact Or.inr (Or.inl rfl) | exact Or.inr (Or.inr rfl)))) (mgs_cons (pgs_cons (mg_name (pg_name (i := 3) sc_Fit_is_ordered.nd rfl (by first | exact Or.inl rfl | exact Or.inr rfl | exact Or.inr (Or.inl rfl) | exact Or.inr (Or.inr rfl)))) (mgs_cons (pgs_cons (mg_name (pg_name (i := 4) sc_Fit_is_ordered.nd rfl (by first | exact Or.inl rfl | exact Or.inr rfl | exact Or.inr (Or.inl rfl) | exact Or.inr (Or.inr rfl)))) (mgs_cons (pgs_cons (mg_name (pg_name (i := 5) sc_Fit_is_ordered.nd rfl (by first | exact Or.inl rfl | exact Or.inr rfl | exact Or.inr (Or.inl rfl) | exact Or.inr (Or.inr rfl)))) (mgs_nil pgs_nil))))))))))) (mss_cons (pss_cons (ms_if (ps_if (PW.pt (mw_and (pw_and (mt_val (pt_val (me_var (pv 1)))) (pw_and1 (mt_val (pt_val (me_cb cbm_any (pe_callB (cr_any rfl) (by rfl) T.n_any (by decide +kernel) (ma_cons (pa_cons (me_lc (b := false) (lct_name (by decide)) (pe_lc (own := [("name", 6)]) (g := (gName 6)) (tt := tT T.W E0' mYes) (te := tE T.W E0' (mOp (fIn false) (mVar 6) (mVar 5))) rfl sc_Fit_is_ordered.nd (mi_any (Cs.pi_any (me_var (pv 4)))) (blkOk_by (own := [("name", 6)]) (N := ["self", "is_late", "count", "later", "lost", "need", "name"]) (sc := defScope s_Fit_is_ordered) (by decide +kernel)) (fun _ _ _ _ _ => (pg_name (i := 6) sc_Fit_is_ordered.nd rfl (by first | exact Or.inl rfl | exact Or.inr rfl | exact Or.inr (Or.inl rfl) | exact Or.inr (Or.inr rfl)))) (fun _ _ _ _ _ => (mt_yes pts_nil)) (fun _ _ _ _ _ => (me_op opm_in (pe_cmpR Cs.op_inD (me_var (pv 6)) (me_var (pv 5)) (by first | exact nomark _ | rfl)))))) (ma_nil pa_nil))))))))))) (pss_one (ms_ret (ps_ret (me_bl pe_bl)))) (mss_nil pss_nil)))
    (pss_one (ms_set (ps_set (i := 1) sc_Fit_is_ordered.nd rfl (by first | exact Or.inl rfl | exact Or.inr rfl | exact Or.inr (Or.inl rfl) | exact Or.inr (Or.inr rfl)) (me_or (pe_or (me_var (pv 1)) (pe_one (me_cb cbm_any (pe_callB (cr_any rfl) (by rfl) T.n_any (by decide +kernel) (ma_cons (pa_cons (me_lc (b := false) (lct_name (by decide)) (pe_lc (own := [("name", 6)]) (g := (gName 6)) (tt := tT T.W E0' mYes) (te := tE T.W E0' (mOp (fIn true) (mVar 6) (mVar 5))) rfl sc_Fit_is_ordered.nd (mi_any (Cs.pi_any (me_var (pv 4)))) (blkOk_by (own := [("name", 6)]) (N := ["self", "is_late", "count", "later", "lost", "need", "name"]) (sc := defScope s_Fit_is_ordered) (by decide +kernel)) (fun _ _ _ _ _ => (pg_name (i := 6) sc_Fit_is_ordered.nd rfl (by first | exact Or.inl rfl | exact Or.inr rfl | exact Or.inr (Or.inl rfl) | exact Or.inr (Or.inr rfl)))) (fun _ _ _ _ _ => (mt_yes pts_nil)) (fun _ _ _ _ _ => (me_op opm_notin (pe_cmpR Cs.op_niD (me_var (pv 6)) (me_var (pv 5)) (by first | exact nomark _ | rfl)))))) (ma_nil pa_nil)))))))))))))))
    (pss_one (ms_ret (ps_ret (me_bl pe_bl)))))))), pureM (N := ["self", "is_late", "count", "later", "lost", "need", "name"]) h⟩
theorem sc_Fit_loses_needed : FnScope ["self", "count", "later", "lost", "need", "name"] ["self"] (defScope s_Fit_loses_needed) := ⟨rfl, rfl, rfl, by decide +kernel, rfl, by decide +kernel, by decide +kernel⟩
theorem ok_Fit_loses_needed (T : Tx K mg w base) : FnOk P w K mg base (L2.CX P w) 1 T.a_Fit_loses_needed T.fd_Fit_loses_needed ["self"] (spM T.W m_Fit_loses_needed) :=
  ok_fun T.F_Fit_loses_needed sc_Fit_loses_needed (fun vs H Q E h => by exact spM_len (P := 1) h) fun cdv A out s H vs Q E hr h => ⟨tS T.W E b_Fit_loses_needed, (pss_one (ms_ret (ps_ret (me_cb cbm_any (pe_callB (cr_any rfl) (by rfl) T.n_any (by decide +kernel) (ma_cons (pa_cons (me_lc2 (b := false) (lct_tup4 (by decide) (by decide) (by decide) (by decide)) (lct_name (by decide)) (pe_lc2 (own := [("count", 1), ("later", 2), ("lost", 3), ("need", 4), ("name", 5)]) (g := (gTup K 4 (gCons (gName 1) (gCons (gName 2) (gCons (gName 3) (gCons (gName 4) gNil)))))) (g1 := (gName 5)) (tt := tT T.W E0' mYes) (tt1 := tT T.W E0' mYes) (te := tE T.W E0' (mOp (fIn false) (mVar 5) (mVar 4))) (vs1 := [5]) rfl sc_Fit_loses_needed.nd (mi_any (Cs.pi_any (me_fld (all1 (fl_Fit_losses T)) (pe_fld (me_var (pv 0)) rfl)))) (blkOk_by (own := [("count", 1), ("later", 2), ("lost", 3), ("need", 4), ("name", 5)]) (N := ["self", "count", "later", "lost", "need", "name"]) (sc := defScope s_Fit_loses_needed) (by decide +kernel)) (by decide) (fun _ _ _ _ _ => (pg_tup rfl (pgs_cons (pg_name (i := 1) sc_Fit_loses_needed.nd rfl (by first | exact Or.inl rfl | exact Or.inr rfl | exact Or.inr (Or.inl rfl) | exact Or.inr (Or.inr rfl))) (pgs_cons (pg_name (i := 2) sc_Fit_loses_needed.nd rfl (by first | exact Or.inl rfl | exact Or.inr rfl | exact Or.inr (Or.inl rfl) | exact Or.inr (Or.inr rfl))) (pgs_cons (pg_name (i := 3) sc_Fit_loses_needed.nd rfl (by first | exact Or.inl rfl | exact Or.inr rfl | exact Or.inr (Or.inl rfl) | exact Or.inr (Or.inr rfl))) (pgs_cons (pg_name (i := 4) sc_Fit_loses_needed.nd rfl (by first | exact Or.inl rfl | exact Or.inr rfl | exact Or.inr (Or.inl rfl) | exact Or.inr (Or.inr rfl))) pgs_nil)))))) (fun _ _ _ _ _ => (mt_yes pts_nil)) (fun _ _ _ _ _ => (mi_any (Cs.pi_any (me_var (pv 3))))) (fun _ _ _ _ _ => (pg_name (i := 5) sc_Fit_loses_needed.nd rfl (by first | exact Or.inl rfl | exact Or.inr rfl | exact Or.inr (Or.inl rfl) | exact Or.inr (Or.inr rfl)))) (fun _ _ _ _ _ => (mt_yes pts_nil)) (fun _ _ _ _ _ => (me_op opm_in (pe_cmpR Cs.op_inD (me_var (pv 5)) (me_var (pv 4)) (by first | exact nomark _ | rfl)))))) (ma_nil pa_nil)))))))), pureM (N := ["self", "count", "later", "lost", "need", "name"]) h⟩
theorem sc_Fit_allows : FnScope ["self", "flat", "stop"] ["self", "flat", "stop"] (defScope s_Fit_allows) := ⟨rfl, rfl, rfl, by decide +kernel, rfl, by decide +kernel, by decide +kernel⟩
theorem ok_Fit_allows (T : Tx K mg w base) : FnOk P w K mg base (L2.CX P w) 2 T.a_Fit_allows T.fd_Fit_allows ["self", "flat", "stop"] (spM T.W m_Fit_allows) :=
  ok_fun T.F_Fit_allows sc_Fit_allows (fun vs H Q E h => by exact spM_len (P := 3) h) fun cdv A out s H vs Q E hr h => ⟨tS T.W E b_Fit_allows, (mss_cons (pss_cons (ms_if (ps_if (PW.pt (mw_and (pw_and (mt_cmp opm_lt (pt_cmpR (Cs.op_ltD hr.units) (me_var (pv 2)) (me_fld (all1 (fl_Fit_last T)) (pe_fld (me_var (pv 0)) rfl)) (nomark _))) (pw_and1 (mt_val (pt_val (me_fld (all1 (fl_Fit_is_bounded T)) (pe_fld (me_var (pv 0)) rfl)))))))) (pss_one (ms_ret (ps_ret (me_bl pe_bl)))) (mss_nil pss_nil)))
    (pss_one (ms_ret (ps_ret (me_or (pe_or (me_op opm_le (pe_cmpR op_le (me_var (pv 1)) (me_fld (all1 (fl_Fit_first T)) (pe_fld (me_var (pv 0)) rfl)) (nomark _))) (pe_one (me_not (pe_not (me_meth0 (cm_Fit T) (pe_meth0 (me_var (pv 0)) T.cl_Fit T.me_Fit_loses_needed (ok_Fit_loses_needed T) (hr.mono (by decide)) T.b_Fit_loses_needed .nil (pass_at (takes_of rfl rfl rfl rfl)))))))))))))), pureM (N := ["self", "flat", "stop"]) h⟩
theorem sc_Fit_is_steady : FnScope ["self", "losing", "at", "loss", "begin", "end", "count", "later", "lost", "need", "flat", "stop"] ["self"] (defScope s_Fit_is_steady) := ⟨rfl, rfl, rfl, by decide +kernel, rfl, by decide +kernel, by decide +kernel⟩
theorem ok_Fit_is_steady (T : Tx K mg w base) : FnOk P w K mg base (L2.CX P w) 3 T.a_Fit_is_steady T.fd_Fit_is_steady ["self"] (spM T.W m_Fit_is_steady) :=
  ok_fun T.F_Fit_is_steady sc_Fit_is_steady (fun vs H Q E h => by exact spM_len (P := 1) h) fun cdv A out s H vs Q E hr h => ⟨tS T.W E b_Fit_is_steady, (mss_cons (pss_cons (ms_setLc (b := false) (lct_tup2 (by decide) (by decide)) (ps_setLc (i := 1) (own := [("at", 2), ("loss", 3)]) (g := (gTup K 2 (gCons (gName 2) (gCons (gName 3) gNil)))) (tt := tT T.W E0' (mB (mOp (fEq true) (mOp fIx (mVar 3) (mC (.int 2))) (mLst false mNil)))) (te := tE T.W E0' (mVar 2)) rfl sc_Fit_is_steady.nd rfl rfl (sw_true rfl rfl rfl (by decide +kernel)) (mi_enum (Cs.pi_enumA (by rfl) T.n_enumerate (ma_cons (pa_cons (me_fld (all1 (fl_Fit_losses T)) (pe_fld (me_var (pv 0)) rfl)) (ma_nil pa_nil))))) (blkOk_by (own := [("at", 2), ("loss", 3)]) (N := ["self", "losing", "at", "loss", "begin", "end", "count", "later", "lost", "need", "flat", "stop"]) (sc := defScope s_Fit_is_steady) (by decide +kernel)) (fun _ _ _ _ _ => (pg_tup rfl (pgs_cons (pg_name (i := 2) sc_Fit_is_steady.nd rfl (by first | exact Or.inl rfl | exact Or.inr rfl | exact Or.inr (Or.inl rfl) | exact Or.inr (Or.inr rfl))) (pgs_cons (pg_name (i := 3) sc_Fit_is_steady.nd rfl (by first | exact Or.inl rfl | exact Or.inr rfl | exact Or.inr (Or.inl rfl) | exact Or.inr (Or.inr rfl))) pgs_nil)))) (fun _ _ _ _ _ => ((pts_one (mt_cmp opm_ne (pt_cmpR (op_neZ hr.units) (me_op opm_ix (pe_ix ix_seq (me_var (pv 3)) (me_int pe_int) (fun _ _ => rfl))) (me_lst (b := false) (pe_lst (ma_nil pa_nil))) (nomark _)))))) (fun _ _ _ _ _ => (me_var (pv 2)))))
    (mss_cons (pss_cons (ms_if (ps_if (mt_cmp opm_eq (pt_cmpR (op_eqZ hr.units) (me_var (pv 1)) (me_lst (b := false) (pe_lst (ma_nil pa_nil))) (nomark _))) (pss_one (ms_ret (ps_ret (me_bl pe_bl)))) (mss_nil pss_nil)))
    (mss_cons (pss_cons (ms_par (ps_par (by rfl) sc_Fit_is_steady.nd rfl rfl (by decide) rfl rfl (ma_cons (pa_cons (me_op opm_ix (pe_ix ix_seq (me_var (pv 1)) (me_int pe_int) (fun _ _ => rfl))) (ma_cons (pa_cons (me_op opm_ix (pe_ix ix_seq (me_var (pv 1)) (me_un unm_neg (pe_un un_neg (me_int pe_int))) (fun _ _ => rfl))) (ma_nil pa_nil))))) (by rfl)))
    (mss_cons (pss_cons (ms_for (ps_for (passes_own rfl) rfl (mi_rng2 (pi_range2 rfl T.n_range (ma_cons (pa_cons (me_var (pv 4)) (ma_cons (pa_cons (me_op (opm_add (b := false)) (pe_op Cs.op_addD (me_var (pv 5)) (me_int pe_int))) (ma_nil pa_nil))))))) (mg_name (pg_name (i := 2) sc_Fit_is_steady.nd rfl (by first | exact Or.inl rfl | exact Or.inr rfl | exact Or.inr (Or.inl rfl) | exact Or.inr (Or.inr rfl)))) (mss_cons (pss_cons (ms_asg (ps_asg (me_op opm_ix (pe_ix ix_seq (me_fld (all1 (fl_Fit_losses T)) (pe_fld (me_var (pv 0)) rfl)) (me_var (pv 2)) (fun _ _ => rfl))) (mg_tup (pg_tup rfl (mgs_cons (pgs_cons (mg_name (pg_name (i := 6) sc_Fit_is_steady.nd rfl (by first | exact Or.inl rfl | exact Or.inr rfl | exact Or.inr (Or.inl rfl) | exact Or.inr (Or.inr rfl)))) (mgs_cons (pgs_cons (mg_name (pg_name (i := 7) sc_Fit_is_steady.nd rfl (by first | exact Or.inl rfl | exact Or.inr rfl | exact Or.inr (Or.inl rfl) | exact Or.inr (Or.inr rfl)))) (mgs_cons (pgs_cons (mg_name (pg_name (i := 8) sc_Fit_is_steady.nd rfl (by first | exact Or.inl rfl | exact Or.inr rfl | exact Or.inr (Or.inl rfl) | exact Or.inr (Or.inr rfl)))) (mgs_cons (pgs_cons (mg_name (pg_name (i := 9) sc_Fit_is_steady.nd rfl (by first | exact Or.inl rfl | exact Or.inr rfl | exact Or.inr (Or.inl rfl) | exact Or.inr (Or.inr rfl)))) (mgs_nil pgs_nil)))))))))))))
    (pss_one (ms_if (ps_if (PW.pt (mw_or (pw_or (mt_cmp opm_gt (pt_cmpR op_gt (me_cb cbm_len (pe_callB call_lenA (by rfl) T.n_len (by decide +kernel) (ma_cons (pa_cons (me_var (pv 8)) (ma_nil pa_nil))))) (me_op opm_sub (pe_op op_sub (me_var (pv 7)) (me_var (pv 6)))) (nomark _))) (pw_or1 (PW.pt (mw_and (pw_and (mt_chain opm_lt opm_lt (pt_chain (Cs.op_ltD hr.units) (Cs.op_ltD hr.units) (me_var (pv 4)) (me_var (pv 2)) (me_var (pv 5)))) (pw_and1 (mt_cmp opm_lt (pt_cmpR (Cs.op_ltD hr.units) (me_cb cbm_len (pe_callB call_lenA (by rfl) T.n_len (by decide +kernel) (ma_cons (pa_cons (me_var (pv 8)) (ma_nil pa_nil))))) (me_op opm_sub (pe_op op_sub (me_var (pv 7)) (me_var (pv 6)))) (nomark _))))))))))) (pss_one (ms_ret (ps_ret (me_bl pe_bl)))) (mss_nil pss_nil))))))))
    (mss_cons (pss_cons (ms_set (ps_set (i := 10) sc_Fit_is_steady.nd rfl (by first | exact Or.inl rfl | exact Or.inr rfl | exact Or.inr (Or.inl rfl) | exact Or.inr (Or.inr rfl)) (me_op opm_sub (pe_op op_sub (me_op opm_ix (pe_ix ix_seq (me_op opm_ix (pe_ix ix_seq (me_fld (all1 (fl_Fit_losses T)) (pe_fld (me_var (pv 0)) rfl)) (me_var (pv 4)) (fun _ _ => rfl))) (me_int pe_int) (fun _ _ => rfl))) (me_cb cbm_len (pe_callB call_lenA (by rfl) T.n_len (by decide +kernel) (ma_cons (pa_cons (me_op opm_ix (pe_ix ix_seq (me_op opm_ix (pe_ix ix_seq (me_fld (all1 (fl_Fit_losses T)) (pe_fld (me_var (pv 0)) rfl)) (me_var (pv 4)) (fun _ _ => rfl))) (me_int pe_int) (fun _ _ => rfl))) (ma_nil pa_nil)))))))))
    (mss_cons (pss_cons (ms_set (ps_set (i := 11) sc_Fit_is_steady.nd rfl (by first | exact Or.inl rfl | exact Or.inr rfl | exact Or.inr (Or.inl rfl) | exact Or.inr (Or.inr rfl)) (me_op (opm_add (b := false)) (pe_op Cs.op_addD (me_op opm_ix (pe_ix ix_seq (me_op opm_ix (pe_ix ix_seq (me_fld (all1 (fl_Fit_losses T)) (pe_fld (me_var (pv 0)) rfl)) (me_var (pv 5)) (fun _ _ => rfl))) (me_int pe_int) (fun _ _ => rfl))) (me_cb cbm_len (pe_callB call_lenA (by rfl) T.n_len (by decide +kernel) (ma_cons (pa_cons (me_op opm_ix (pe_ix ix_seq (me_op opm_ix (pe_ix ix_seq (me_fld (all1 (fl_Fit_losses T)) (pe_fld (me_var (pv 0)) rfl)) (me_var (pv 5)) (fun _ _ => rfl))) (me_int pe_int) (fun _ _ => rfl))) (ma_nil pa_nil)))))))))
    (mss_cons (pss_cons (ms_if (ps_if (mt_cmp opm_lt (pt_cmpR (Cs.op_ltD hr.units) (me_var (pv 4)) (me_var (pv 5)) (nomark _))) (pss_one (ms_ret (ps_ret (me_meth (cm_Fit T) (pe_meth (me_var (pv 0)) T.cl_Fit T.me_Fit_allows (ok_Fit_allows T) (hr.mono (by decide)) T.b_Fit_allows .nil (pass_at (takes_of rfl rfl rfl rfl)) (by exact (ma_cons (pa_cons (me_var (pv 10)) (ma_cons (pa_cons (me_var (pv 11)) (ma_nil pa_nil))))))))))) (mss_nil pss_nil)))
    (pss_one (ms_ret (ps_ret (me_or (pe_or (me_meth (cm_Fit T) (pe_meth (me_var (pv 0)) T.cl_Fit T.me_Fit_allows (ok_Fit_allows T) (hr.mono (by decide)) T.b_Fit_allows .nil (pass_at (takes_of rfl rfl rfl rfl)) (by exact (ma_cons (pa_cons (me_var (pv 10)) (ma_cons (pa_cons (me_op opm_ix (pe_ix ix_seq (me_op opm_ix (pe_ix ix_seq (me_fld (all1 (fl_Fit_losses T)) (pe_fld (me_var (pv 0)) rfl)) (me_var (pv 5)) (fun _ _ => rfl))) (me_int pe_int) (fun _ _ => rfl))) (ma_nil pa_nil)))))))) (pe_one (me_meth (cm_Fit T) (pe_meth (me_var (pv 0)) T.cl_Fit T.me_Fit_allows (ok_Fit_allows T) (hr.mono (by decide)) T.b_Fit_allows .nil (pass_at (takes_of rfl rfl rfl rfl)) (by exact (ma_cons (pa_cons (me_op opm_ix (pe_ix ix_seq (me_op opm_ix (pe_ix ix_seq (me_fld (all1 (fl_Fit_losses T)) (pe_fld (me_var (pv 0)) rfl)) (me_var (pv 4)) (fun _ _ => rfl))) (me_int pe_int) (fun _ _ => rfl))) (ma_cons (pa_cons (me_var (pv 11)) (ma_nil pa_nil)))))))))))))))))))))))))))), pureM (N := ["self", "losing", "at", "loss", "begin", "end", "count", "later", "lost", "need", "flat", "stop"]) h⟩
theorem sc_Fit_is_possible : FnScope ["self", "count", "later", "lost", "need"] ["self"] (defScope s_Fit_is_possible) := ⟨rfl, rfl, rfl, by decide +kernel, rfl, by decide +kernel, by decide +kernel⟩
theorem ok_Fit_is_possible (T : Tx K mg w base) : FnOk P w K mg base (L2.CX P w) 4 T.a_Fit_is_possible T.fd_Fit_is_possible ["self"] (spM T.W m_Fit_is_possible) :=
  ok_fun T.F_Fit_is_possible sc_Fit_is_possible (fun vs H Q E h => by exact spM_len (P := 1) h) fun cdv A out s H vs Q E hr h => ⟨tS T.W E b_Fit_is_possible, (mss_cons (pss_cons (ms_if (ps_if (PW.pt (mw_or (pw_or (mt_val (pt_val (me_fld (all1 (fl_Fit_is_torn T)) (pe_fld (me_var (pv 0)) rfl)))) (pw_or1 (mt_val (pt_val (me_cb cbm_any (pe_callB (cr_any rfl) (by rfl) T.n_any (by decide +kernel) (ma_cons (pa_cons (me_lc (b := false) (lct_tup4 (by decide) (by decide) (by decide) (by decide)) (pe_lc (own := [("count", 1), ("later", 2), ("lost", 3), ("need", 4)]) (g := (gTup K 4 (gCons (gName 1) (gCons (gName 2) (gCons (gName 3) (gCons (gName 4) gNil)))))) (tt := tT T.W E0' mYes) (te := tE T.W E0' (mOp (fIsN false) (mVar 3) (mC .non))) rfl sc_Fit_is_possible.nd (mi_any (Cs.pi_any (me_fld (all1 (fl_Fit_losses T)) (pe_fld (me_var (pv 0)) rfl)))) (blkOk_by (own := [("count", 1), ("later", 2), ("lost", 3), ("need", 4)]) (N := ["self", "count", "later", "lost", "need"]) (sc := defScope s_Fit_is_possible) (by decide +kernel)) (fun _ _ _ _ _ => (pg_tup rfl (pgs_cons (pg_name (i := 1) sc_Fit_is_possible.nd rfl (by first | exact Or.inl rfl | exact Or.inr rfl | exact Or.inr (Or.inl rfl) | exact Or.inr (Or.inr rfl))) (pgs_cons (pg_name (i := 2) sc_Fit_is_possible.nd rfl (by first | exact Or.inl rfl | exact Or.inr rfl | exact Or.inr (Or.inl rfl) | exact Or.inr (Or.inr rfl))) (pgs_cons (pg_name (i := 3) sc_Fit_is_possible.nd rfl (by first | exact Or.inl rfl | exact Or.inr rfl | exact Or.inr (Or.inl rfl) | exact Or.inr (Or.inr rfl))) (pgs_cons (pg_name (i := 4) sc_Fit_is_possible.nd rfl (by first | exact Or.inl rfl | exact Or.inr rfl | exact Or.inr (Or.inl rfl) | exact Or.inr (Or.inr rfl))) pgs_nil)))))) (fun _ _ _ _ _ => (mt_yes pts_nil)) (fun _ _ _ _ _ => (me_op opm_isN (pe_cmpR op_isN (me_var (pv 3)) (me_non pe_non) (nomark _)))))) (ma_nil pa_nil))))))))))) (pss_one (ms_ret (ps_ret (me_bl pe_bl)))) (mss_nil pss_nil)))
    (pss_one (ms_ret (ps_ret (me_and (pe_and (me_meth0 (cm_Fit T) (pe_meth0 (me_var (pv 0)) T.cl_Fit T.me_Fit_is_ordered (ok_Fit_is_ordered T) (hr.mono (by decide)) T.b_Fit_is_ordered .nil (pass_at (takes_of rfl rfl rfl rfl)))) (pe_one (me_meth0 (cm_Fit T) (pe_meth0 (me_var (pv 0)) T.cl_Fit T.me_Fit_is_steady (ok_Fit_is_steady T) (hr.mono (by decide)) T.b_Fit_is_steady .nil (pass_at (takes_of rfl rfl rfl rfl)))))))))))), pureM (N := ["self", "count", "later", "lost", "need"]) h⟩
theorem sc_Staircase_row : FnScope ["self", "count"] ["self", "count"] (defScope s_Staircase_row) := ⟨rfl, rfl, rfl, by decide +kernel, rfl, by decide +kernel, by decide +kernel⟩
theorem ok_Staircase_row (T : Tx K mg w base) : FnOk P w K mg base (L2.CX P w) 1 T.a_Staircase_row T.fd_Staircase_row ["self", "count"] (spM T.W m_Staircase_row) :=
  ok_fun T.F_Staircase_row sc_Staircase_row (fun vs H Q E h => by exact spM_len (P := 2) h) fun cdv A out s H vs Q E hr h => ⟨tS T.W E b_Staircase_row, (pss_one (ms_ret (ps_ret (me_op opm_ix (pe_ix ix_seq (me_fld (all1 (fl_Staircase_own_rows T)) (pe_fld (me_var (pv 0)) rfl)) (me_cb cbm_min2 (pe_callB (call_min2X rfl) (by rfl) T.n_min (by decide +kernel) (ma_cons (pa_cons (me_var (pv 1)) (ma_cons (pa_cons (me_op opm_sub (pe_op op_sub (me_cb cbm_len (pe_callB call_lenA (by rfl) T.n_len (by decide +kernel) (ma_cons (pa_cons (me_fld (all1 (fl_Staircase_own_rows T)) (pe_fld (me_var (pv 0)) rfl)) (ma_nil pa_nil))))) (me_int pe_int))) (ma_nil pa_nil))))))) (fun _ _ => rfl)))))), pureM (N := ["self", "count"]) h⟩
theorem sc_rows_fit : FnScope ["staircase", "counts", "rows", "count", "row"] ["staircase", "counts"] (defScope s_rows_fit) := ⟨rfl, rfl, rfl, by decide +kernel, rfl, by decide +kernel, by decide +kernel⟩
theorem ok_rows_fit (T : Tx K mg w base) : FnOk P w K mg base (L2.CX P w) 5 T.a_rows_fit T.fd_rows_fit ["staircase", "counts"] (spM T.W m_rows_fit) :=
  ok_fun T.F_rows_fit sc_rows_fit (fun vs H Q E h => by exact spM_len (P := 2) h) fun cdv A out s H vs Q E hr h => ⟨tS T.W E b_rows_fit, (mss_cons (pss_cons (ms_setLc (b := false) (lct_name (by decide)) (ps_setLc (i := 2) (own := [("count", 3)]) (g := (gName 3)) (tt := tT T.W E0' mYes) (te := tE T.W E0' (mTup (mCons (mVar 3) (mCons (mMeth "Staircase" "row" m_Staircase_row (mVar 0) (mCons (mVar 3) mNil)) mNil)))) rfl sc_rows_fit.nd rfl rfl (sw_true rfl rfl rfl (by decide +kernel)) (mi_any (Cs.pi_any (me_var (pv 1)))) (blkOk_by (own := [("count", 3)]) (N := ["staircase", "counts", "rows", "count", "row"]) (sc := defScope s_rows_fit) (by decide +kernel)) (fun _ _ _ _ _ => (pg_name (i := 3) sc_rows_fit.nd rfl (by first | exact Or.inl rfl | exact Or.inr rfl | exact Or.inr (Or.inl rfl) | exact Or.inr (Or.inr rfl)))) (fun _ _ _ _ _ => (mt_yes pts_nil)) (fun _ _ _ _ _ => (me_tup (pe_tup (ma_cons (pa_cons (me_var (pv 3)) (ma_cons (pa_cons (me_meth (cm_Staircase T) (pe_meth (me_var (pv 0)) T.cl_Staircase T.me_Staircase_row (ok_Staircase_row T) (hr.mono (by decide)) T.b_Staircase_row .nil pass_no (by exact (ma_cons (pa_cons (me_var (pv 3)) (ma_nil pa_nil)))))) (ma_nil pa_nil))))))))))
    (mss_cons (pss_cons (ms_if (ps_if (mt_val (pt_val (me_cb cbm_all (pe_callB (cr_all rfl) (by rfl) T.n_all (by decide +kernel) (ma_cons (pa_cons (me_lc (b := false) (lct_tup2 (by decide) (by decide)) (pe_lc (own := [("count", 3), ("row", 4)]) (g := (gTup K 2 (gCons (gName 3) (gCons (gName 4) gNil)))) (tt := tT T.W E0' mYes) (te := tE T.W E0' (mOp (fIsN false) (mVar 4) (mC .non))) rfl sc_rows_fit.nd (mi_any (Cs.pi_any (me_var (pv 2)))) (blkOk_by (own := [("count", 3), ("row", 4)]) (N := ["staircase", "counts", "rows", "count", "row"]) (sc := defScope s_rows_fit) (by decide +kernel)) (fun _ _ _ _ _ => (pg_tup rfl (pgs_cons (pg_name (i := 3) sc_rows_fit.nd rfl (by first | exact Or.inl rfl | exact Or.inr rfl | exact Or.inr (Or.inl rfl) | exact Or.inr (Or.inr rfl))) (pgs_cons (pg_name (i := 4) sc_rows_fit.nd rfl (by first | exact Or.inl rfl | exact Or.inr rfl | exact Or.inr (Or.inl rfl) | exact Or.inr (Or.inr rfl))) pgs_nil)))) (fun _ _ _ _ _ => (mt_yes pts_nil)) (fun _ _ _ _ _ => (me_op opm_isN (pe_cmpR op_isN (me_var (pv 4)) (me_non pe_non) (nomark _)))))) (ma_nil pa_nil))))))) (pss_one (ms_ret (ps_ret (me_bl pe_bl)))) (mss_nil pss_nil)))
    (pss_one (ms_ret (ps_ret (me_meth0 (cm_Fit T) (pe_meth0 (me_make (frz := true) (cm_Fit T) (pe_make T.mk_Fit (ok_Fit_dinitd T) (hr.mono (by decide)) rfl T.g_Fit T.b_Fit_dinitd .nil (pass_at (takes_of rfl rfl rfl rfl)) (by exact (ma_cons (pa_cons (me_var (pv 2)) (ma_nil pa_nil)))))) T.cl_Fit T.me_Fit_is_possible (ok_Fit_is_possible T) (hr.mono (by decide)) T.b_Fit_is_possible .nil (pass_at (takes_of rfl rfl rfl rfl))))))))))), pureM (N := ["staircase", "counts", "rows", "count", "row"]) h⟩
theorem sc_fit_together : FnScope ["staircase", "counts", "one", "other"] ["staircase", "counts"] (defScope s_fit_together) := ⟨rfl, rfl, rfl, by decide +kernel, rfl, by decide +kernel, by decide +kernel⟩
theorem ok_fit_together (T : Tx K mg w base) : FnOk P w K mg base (L2.CX P w) 6 T.a_fit_together T.fd_fit_together ["staircase", "counts"] (spM T.W m_fit_together) :=
  ok_fun T.F_fit_together sc_fit_together (fun vs H Q E h => by exact spM_len (P := 2) h) fun cdv A out s H vs Q E hr h => ⟨tS T.W E b_fit_together, (mss_cons (pss_cons (ms_if (ps_if (PW.pt (mw_or (pw_or (mt_not (pt_not (mt_val (pt_val (me_isL (cls := [(.ty "list"), (.ty "tuple")]) (us := [(.ty "list"), (.ty "tuple")]) (T.isf _) ⟨⟨by decide, rfl⟩, ⟨⟨by decide, rfl⟩, trivial⟩⟩ (by show 2 ≤ sizeLine; decide) (pe_callB call_isMT (by rfl) T.n_isinstance (by decide +kernel) (pa_cons (me_var (pv 1)) (pa_cons (pe_tup (pa_cons (pe_bltn (v := .ty "list") (by rfl) T.n_list (by decide +kernel) rfl) (pa_cons (pe_bltn (v := .ty "tuple") (by rfl) T.n_tuple (by decide +kernel) rfl) pa_nil))) pa_nil)))))))) (pw_or1 (mt_cmp opm_gt (pt_cmpR op_gt (me_cb cbm_len (pe_callB call_lenA (by rfl) T.n_len (by decide +kernel) (ma_cons (pa_cons (me_var (pv 1)) (ma_nil pa_nil))))) (me_int (pe_glob rfl T.g_MOST_COUNTS ⟨_, rfl⟩)) (nomark _))))))) (pss_one (ms_raise (cm_BadCounts T) (ps_raise rfl (takes_of rfl rfl rfl rfl) (pmk_own PySem.F.excBase_ValueError T.x_BadCounts T.g_BadCounts T.kp_BadCounts (raises_own T.sb_BadCounts T.ty_BadCounts) (by rfl))))) (mss_nil pss_nil)))
    (mss_cons (pss_cons (ms_if (ps_if (mt_not (pt_not (mt_val (pt_val (me_cb cbm_all (pe_callB (cr_all rfl) (by rfl) T.n_all (by decide +kernel) (ma_cons (pa_cons (me_lc (b := false) (lct_name (by decide)) (pe_lc (own := [("one", 2)]) (g := (gName 2)) (tt := tT T.W E0' mYes) (te := tE T.W E0' (mAndV (mUn (fIsS (.ty "int")) (mVar 2)) (mAndV (mNotV (mUn (fIsS (.ty "bool")) (mVar 2))) (mChain (fI2 fun i j => .bl (decide (i ≤ j))) (fI2 fun i j => .bl (decide (i ≤ j))) (mC (.int 0)) (mVar 2) (mC (.int 100)))))) rfl sc_fit_together.nd (mi_any (Cs.pi_any (me_var (pv 1)))) (blkOk_by (own := [("one", 2)]) (N := ["staircase", "counts", "one", "other"]) (sc := defScope s_fit_together) (by decide +kernel)) (fun _ _ _ _ _ => (pg_name (i := 2) sc_fit_together.nd rfl (by first | exact Or.inl rfl | exact Or.inr rfl | exact Or.inr (Or.inl rfl) | exact Or.inr (Or.inr rfl)))) (fun _ _ _ _ _ => (mt_yes pts_nil)) (fun _ _ _ _ _ => (me_and (pe_and (me_is (cl := (.ty "int")) (u := (.ty "int")) (T.isf _) ⟨by decide, rfl⟩ (pe_callB call_isM (by rfl) T.n_isinstance (by decide +kernel) (pa_cons (me_var (pv 2)) (pa_cons (pe_bltn (v := .ty "int") (by rfl) T.n_int (by decide +kernel) rfl) pa_nil)))) (me_and (pe_and (me_not (pe_not (me_is (cl := (.ty "bool")) (u := (.ty "bool")) (T.isf _) ⟨by decide, rfl⟩ (pe_callB call_isM (by rfl) T.n_isinstance (by decide +kernel) (pa_cons (me_var (pv 2)) (pa_cons (pe_bltn (v := .ty "bool") (by rfl) T.n_bool (by decide +kernel) rfl) pa_nil)))))) (pe_one (me_chain opm_le opm_le (pe_chain op_le op_le (me_int pe_int) (me_var (pv 2)) (me_int (pe_glob rfl T.g_MOST_COUNT ⟨_, rfl⟩)))))))))))) (ma_nil pa_nil))))))))) (pss_one (ms_raise (cm_BadCounts T) (ps_raise rfl (takes_of rfl rfl rfl rfl) (pmk_own PySem.F.excBase_ValueError T.x_BadCounts T.g_BadCounts T.kp_BadCounts (raises_own T.sb_BadCounts T.ty_BadCounts) (by rfl))))) (mss_nil pss_nil)))
    (mss_cons (pss_cons (ms_if (ps_if (mt_not (pt_not (mt_val (pt_val (me_cb cbm_all (pe_callB (cr_all rfl) (by rfl) T.n_all (by decide +kernel) (ma_cons (pa_cons (me_lc (b := false) (lct_tup2 (by decide) (by decide)) (pe_lc (own := [("one", 2), ("other", 3)]) (g := (gTup K 2 (gCons (gName 2) (gCons (gName 3) gNil)))) (tt := tT T.W E0' mYes) (te := tE T.W E0' (mOp fLt (mVar 2) (mVar 3))) rfl sc_fit_together.nd (mi_zip (RZ.pi_zipA rfl T.n_zip (pa_cons (me_var (pv 1)) (pa_cons (me_slice (b := false) (pe_slice Cs.sl_D (me_var (pv 1)) (mo_some (po_some (me_int pe_int))) (mo_none po_none))) pa_nil)))) (blkOk_by (own := [("one", 2), ("other", 3)]) (N := ["staircase", "counts", "one", "other"]) (sc := defScope s_fit_together) (by decide +kernel)) (fun _ _ _ _ _ => (pg_tup rfl (pgs_cons (pg_name (i := 2) sc_fit_together.nd rfl (by first | exact Or.inl rfl | exact Or.inr rfl | exact Or.inr (Or.inl rfl) | exact Or.inr (Or.inr rfl))) (pgs_cons (pg_name (i := 3) sc_fit_together.nd rfl (by first | exact Or.inl rfl | exact Or.inr rfl | exact Or.inr (Or.inl rfl) | exact Or.inr (Or.inr rfl))) pgs_nil)))) (fun _ _ _ _ _ => (mt_yes pts_nil)) (fun _ _ _ _ _ => (me_op opm_lt (pe_cmpR (Cs.op_ltD hr.units) (me_var (pv 2)) (me_var (pv 3)) (nomark _)))))) (ma_nil pa_nil))))))))) (pss_one (ms_raise (cm_BadCounts T) (ps_raise rfl (takes_of rfl rfl rfl rfl) (pmk_own PySem.F.excBase_ValueError T.x_BadCounts T.g_BadCounts T.kp_BadCounts (raises_own T.sb_BadCounts T.ty_BadCounts) (by rfl))))) (mss_nil pss_nil)))
    (pss_one (ms_ret (ps_ret (me_call (pe_call (ok_rows_fit T) (hr.mono (by decide)) rfl T.g_rows_fit T.k_rows_fit T.b_rows_fit .nil (pass_at (takes_of rfl rfl rfl rfl)) (by exact (ma_cons (pa_cons (me_var (pv 0)) (ma_cons (pa_cons (me_var (pv 1)) (ma_nil pa_nil))))))))))))))))), pureM (N := ["staircase", "counts", "one", "other"]) h⟩
theorem sc_Ltold : FnScope ["_law_made", "_law_value", "_law_caught", "_law_found", "error"] ["_law_made", "_law_value"] (defScope s_Ltold) := ⟨rfl, rfl, rfl, by decide +kernel, rfl, by decide +kernel, by decide +kernel⟩
theorem ok_Ltold (T : Tx K mg w base) : FnOk P w K mg base (L2.CX P w) 7 T.a_Ltold T.fd_Ltold ["_law_made", "_law_value"] (spM T.W m_Ltold) :=
  ok_fun T.F_Ltold sc_Ltold (fun vs H Q E h => by exact spM_len (P := 2) h) fun cdv A out s H vs Q E hr h => ⟨tS T.W E b_Ltold, (mss_cons (pss_cons (ms_set (ps_set (i := 2) sc_Ltold.nd rfl (by first | exact Or.inl rfl | exact Or.inr rfl | exact Or.inr (Or.inl rfl) | exact Or.inr (Or.inr rfl)) (me_non pe_non)))
    (mss_cons (pss_cons (ms_tryA calls_fn (by decide) T.xm_CallError (Cs.ps_try_keep (tb := fun WX => tAsg (tCallS (spM T.W m_fit_together) (WE WX) (tA T.W E0' (mCons (mVar 0) (mCons (mVar 1) mNil)))) (gName 3)) rfl rfl sc_Ltold.nd rfl rfl (by exact ⟨rfl, by decide, .inl T.g_CallError⟩) (takes_of rfl rfl rfl rfl) (fun WX pn xe tk po => pss_one (ps_set (i := 3) sc_Ltold.nd rfl (by first | exact Or.inl rfl | exact Or.inr rfl | exact Or.inr (Or.inl rfl) | exact Or.inr (Or.inr rfl)) (by exact pe_callS (ok_fit_together T) (hr.mono (by decide)) rfl T.g_fit_together T.k_fit_together T.b_fit_together (fun σ => passAt tk σ) (by exact (ma_cons (pa_cons (me_var (pv 0)) (ma_cons (pa_cons (me_var (pv 1)) (ma_nil pa_nil))))))))) (fun a oe cls d pn hz hv => pss_one (ps_set (i := 2) sc_Ltold.nd rfl (by first | exact Or.inl rfl | exact Or.inr rfl | exact Or.inr (Or.inl rfl) | exact Or.inr (Or.inr rfl)) (pv 4)))))
    (mss_cons (pss_cons (ms_if (ps_if (mt_cmp opm_isN (pt_cmpR op_isN (me_var (pv 2)) (me_non pe_non) (nomark _))) (pss_one (ms_ret (ps_ret (me_var (pv 3))))) (mss_nil pss_nil)))
    (pss_one (ms_ret (ps_ret (me_and (pe_and (me_is (cl := (.cls "BadCounts")) (u := (.ref T.c_BadCounts)) (T.isf _) ⟨by decide, T.c_BadCounts, cm_BadCounts T, rfl⟩ (pe_callB call_isM (by rfl) T.n_isinstance (by decide +kernel) (pa_cons (me_var (pv 2)) (pa_cons (pe_glob rfl T.g_BadCounts rfl) pa_nil)))) (me_and (pe_and (me_not (pe_not (me_isL (cls := [(.cls "BadCall"), (.cls "BadRow"), (.cls "BadSignature")]) (us := [(.ref T.c_BadCall), (.ref T.c_BadRow), (.ref T.c_BadSignature)]) (T.isf _) ⟨⟨by decide, T.c_BadCall, cm_BadCall T, rfl⟩, ⟨⟨by decide, T.c_BadRow, cm_BadRow T, rfl⟩, ⟨⟨by decide, T.c_BadSignature, cm_BadSignature T, rfl⟩, trivial⟩⟩⟩ (by show 3 ≤ sizeLine; decide) (pe_callB call_isMT (by rfl) T.n_isinstance (by decide +kernel) (pa_cons (me_var (pv 2)) (pa_cons (pe_tup (pa_cons (pe_glob rfl T.g_BadCall rfl) (pa_cons (pe_glob rfl T.g_BadRow rfl) (pa_cons (pe_glob rfl T.g_BadSignature rfl) pa_nil)))) pa_nil)))))) (pe_one (me_str pe_str))))))))))))))), pureM (N := ["_law_made", "_law_value", "_law_caught", "_law_found", "error"]) h⟩
theorem sc_law : FnScope ["_law_script", "_law_k", "_law_cell", "_law_state", "_law_pool_here", "_law_made", "_law_turn", "_law_some", "_law_more", "_law_bend", "_law_at_here", "_law_odd", "_law_value", "_law_shown", "_law_told_here"] ["_law_script"] (defScope s_law) := ⟨rfl, rfl, rfl, by decide +kernel, rfl, by decide +kernel, by decide +kernel⟩
theorem ok_law (T : Tx K mg w base) (hm : ∀ ns : List Int, ns.length ≤ 63 → ∃ μ, m_law [.lst (ns.map D.int)] [] = .ok (.bl true) μ) : Cs.FnG P w K mg base CX0 8 T.a_law T.fd_law ["_law_script"] (spLawT K T.W.tabs) :=
  Cs.Fun.okG T.F_law sc_law (fun vs H Q E h => by exact spM_len (law_sp (W := T.W) hm h.1 h.2.1 h.2.2)) fun cdv A out s H vs Q E hgd hr h => ⟨tS T.W E0' b_law, (mss_cons (pss_cons (ms_for (ps_for PassesOwn.never rfl (mi_enum (Cs.pi_enumA (by rfl) T.n_enumerate (ma_cons (pa_cons (me_slice (b := false) (pe_slice Cs.sl_D (me_orT (pe_orT (me_var (pv 0)) (pe_one (me_lst (b := false) (pe_lst (ma_cons (pa_cons (me_int pe_int) (ma_nil pa_nil)))))))) (mo_none po_none) (mo_some (po_some (me_int pe_int))))) (ma_nil pa_nil))))) (mg_tup (pg_tup rfl (mgs_cons (pgs_cons (mg_name (pg_name (i := 1) sc_law.nd rfl (by first | exact Or.inl rfl | exact Or.inr rfl | exact Or.inr (Or.inl rfl) | exact Or.inr (Or.inr rfl)))) (mgs_cons (pgs_cons (mg_name (pg_name (i := 2) sc_law.nd rfl (by first | exact Or.inl rfl | exact Or.inr rfl | exact Or.inr (Or.inl rfl) | exact Or.inr (Or.inr rfl)))) (mgs_nil pgs_nil))))))) (mss_cons (pss_cons (ms_set (ps_set (i := 3) sc_law.nd rfl (by first | exact Or.inl rfl | exact Or.inr rfl | exact Or.inr (Or.inl rfl) | exact Or.inr (Or.inr rfl)) (me_call (pe_call (ok_Lbegin T) (hr.mono (by decide)) rfl T.g_Lbegin T.k_Lbegin T.b_Lbegin .nil pass_no (by exact (ma_cons (pa_cons (me_var (pv 2)) (ma_cons (pa_cons (me_var (pv 1)) (ma_nil pa_nil))))))))))
    (mss_cons (pss_cons (ms_set (ps_set (i := 4) sc_law.nd rfl (by first | exact Or.inl rfl | exact Or.inr rfl | exact Or.inr (Or.inl rfl) | exact Or.inr (Or.inr rfl)) (me_call (pe_call (ok_Lpool T) (hr.mono (by decide)) rfl T.g_Lpool T.k_Lpool T.b_Lpool .nil pass_no (by exact (ma_cons (pa_cons (me_var (pv 3)) (ma_cons (pa_cons (me_int pe_int) (ma_nil pa_nil))))))))))
    (mss_cons (pss_cons (ms_set (ps_set (i := 5) sc_law.nd rfl (by first | exact Or.inl rfl | exact Or.inr rfl | exact Or.inr (Or.inl rfl) | exact Or.inr (Or.inr rfl)) (me_make (frz := true) (cm_Staircase T) (pe_make T.mk_Staircase (ok_Staircase_dinitd T) (hr.mono (by decide)) rfl T.g_Staircase T.b_Staircase_dinitd .nil pass_no (by exact (ma_cons (pa_cons (me_call (pe_call (ok_Lrandom_rows T) (hr.mono (by decide)) rfl T.g_Lrandom_rows T.k_Lrandom_rows T.b_Lrandom_rows .nil pass_no (by exact (ma_cons (pa_cons (me_var (pv 3)) (ma_cons (pa_cons (me_var (pv 4)) (ma_cons (pa_cons (me_int pe_int) (ma_nil pa_nil)))))))))) (ma_nil pa_nil))))))))
    (mss_cons (pss_cons (ms_if (ps_if (PW.pt (mw_or (pw_or (mt_cmp opm_notB (pt_cmpR op_notB (me_call (pe_call (ok_fit_together T) (hr.mono (by decide)) rfl T.g_fit_together T.k_fit_together T.b_fit_together .nil pass_no (by exact (ma_cons (pa_cons (me_var (pv 5)) (ma_cons (pa_cons (me_tup (pe_tup (ma_nil pa_nil))) (ma_nil pa_nil)))))))) (me_bl pe_bl) (nomark _))) (pw_or1 (mt_cmp opm_notB (pt_cmpR op_notB (me_callK0 (pe_callK0 (ks := ["counts", "staircase"]) (ok_fit_together T) (hr.mono (by decide)) rfl T.g_fit_together T.k_fit_together T.kw_fit_together_0_counts_staircase pass_no (by exact (mk_cons (pk_cons (me_lst (b := false) (pe_lst (ma_nil pa_nil))) (mk_cons (pk_cons (me_var (pv 5)) (mk_nil pk_nil)))))))) (me_bl pe_bl) (nomark _))))))) (pss_one (ms_ret (ps_ret (me_bl pe_bl)))) (mss_nil pss_nil)))
    (mss_cons (pss_cons (ms_for (ps_for PassesOwn.never rfl (mi_rng1 (pi_range1 rfl T.n_range (ma_cons (pa_cons (me_int pe_int) (ma_nil pa_nil))))) (mg_name (pg_name (i := 6) sc_law.nd rfl (by first | exact Or.inl rfl | exact Or.inr rfl | exact Or.inr (Or.inl rfl) | exact Or.inr (Or.inr rfl)))) (mss_cons (pss_cons (ms_setLc (b := false) (lct_name (by decide)) (ps_setLc (i := 7) (own := [("_law_more", 8)]) (g := (gName 8)) (tt := tT T.W E0' mYes) (te := tE T.W E0' (mCall m_Lpick (mCons (mVar 3) (mCons (mLst false (mCons (mC (.int 0)) (mCons (mC (.int 1)) (mCons (mC (.int 2)) (mCons (mC (.int 3)) (mCons (mC (.int 4)) (mCons (mC (.int 5)) (mCons (mC (.int 50)) (mCons (mC (.int 99)) (mCons (mC (.int 100)) mNil)))))))))) mNil)))) rfl sc_law.nd rfl rfl (sw_true rfl rfl rfl (by decide +kernel)) (mi_rng1 (pi_range1 rfl T.n_range (ma_cons (pa_cons (me_call (pe_call (ok_Ldraw T) (hr.mono (by decide)) rfl T.g_Ldraw T.k_Ldraw T.b_Ldraw .nil pass_no (by exact (ma_cons (pa_cons (me_var (pv 3)) (ma_cons (pa_cons (me_int pe_int) (ma_nil pa_nil)))))))) (ma_nil pa_nil))))) (blkOk_by (own := [("_law_more", 8)]) (N := ["_law_script", "_law_k", "_law_cell", "_law_state", "_law_pool_here", "_law_made", "_law_turn", "_law_some", "_law_more", "_law_bend", "_law_at_here", "_law_odd", "_law_value", "_law_shown", "_law_told_here"]) (sc := defScope s_law) (by decide +kernel)) (fun _ _ _ _ _ => (pg_name (i := 8) sc_law.nd rfl (by first | exact Or.inl rfl | exact Or.inr rfl | exact Or.inr (Or.inl rfl) | exact Or.inr (Or.inr rfl)))) (fun _ _ _ _ _ => (mt_yes pts_nil)) (fun _ _ _ _ _ => (me_call (pe_call (ok_Lpick T) (hr.mono (by decide)) rfl T.g_Lpick T.k_Lpick T.b_Lpick .nil pass_no (by exact (ma_cons (pa_cons (me_var (pv 3)) (ma_cons (pa_cons (me_lst (b := false) (pe_lst (ma_cons (pa_cons (me_int pe_int) (ma_cons (pa_cons (me_int pe_int) (ma_cons (pa_cons (me_int pe_int) (ma_cons (pa_cons (me_int pe_int) (ma_cons (pa_cons (me_int pe_int) (ma_cons (pa_cons (me_int pe_int) (ma_cons (pa_cons (me_int pe_int) (ma_cons (pa_cons (me_int pe_int) (ma_cons (pa_cons (me_int pe_int) (ma_nil pa_nil))))))))))))))))))))) (ma_nil pa_nil)))))))))))
    (mss_cons (pss_cons (ms_set (ps_set (i := 7) sc_law.nd rfl (by first | exact Or.inl rfl | exact Or.inr rfl | exact Or.inr (Or.inl rfl) | exact Or.inr (Or.inr rfl)) (me_sortSetI (b := false) (pe_sortSetI rfl rfl T.n_sorted rfl T.n_set (me_var (pv 7))))))
    (mss_cons (pss_cons (ms_for (ps_for PassesOwn.never rfl (mi_rng1 (pi_range1 rfl T.n_range (ma_cons (pa_cons (me_call (pe_call (ok_Ldraw T) (hr.mono (by decide)) rfl T.g_Ldraw T.k_Ldraw T.b_Ldraw .nil pass_no (by exact (ma_cons (pa_cons (me_var (pv 3)) (ma_cons (pa_cons (me_int pe_int) (ma_nil pa_nil)))))))) (ma_nil pa_nil))))) (mg_name (pg_name (i := 9) sc_law.nd rfl (by first | exact Or.inl rfl | exact Or.inr rfl | exact Or.inr (Or.inl rfl) | exact Or.inr (Or.inr rfl)))) (mss_cons (pss_cons (ms_set (ps_set (i := 10) sc_law.nd rfl (by first | exact Or.inl rfl | exact Or.inr rfl | exact Or.inr (Or.inl rfl) | exact Or.inr (Or.inr rfl)) (me_call (pe_call (ok_Ldraw T) (hr.mono (by decide)) rfl T.g_Ldraw T.k_Ldraw T.b_Ldraw .nil pass_no (by exact (ma_cons (pa_cons (me_var (pv 3)) (ma_cons (pa_cons (me_op (opm_add (b := false)) (pe_op Cs.op_addD (me_cb cbm_len (pe_callB call_lenA (by rfl) T.n_len (by decide +kernel) (ma_cons (pa_cons (me_var (pv 7)) (ma_nil pa_nil))))) (me_int pe_int))) (ma_nil pa_nil))))))))))
    (mss_cons (pss_cons (ms_set (ps_set (i := 11) sc_law.nd rfl (by first | exact Or.inl rfl | exact Or.inr rfl | exact Or.inr (Or.inl rfl) | exact Or.inr (Or.inr rfl)) (me_call (pe_call (ok_Lpick T) (hr.mono (by decide)) rfl T.g_Lpick T.k_Lpick T.b_Lpick .nil pass_no (by exact (ma_cons (pa_cons (me_var (pv 3)) (ma_cons (pa_cons (me_lst (b := false) (pe_lst (ma_cons (pa_cons (me_un unm_neg (pe_un un_neg (me_int pe_int))) (ma_cons (pa_cons (me_int pe_int) (ma_cons (pa_cons (me_bl pe_bl) (ma_cons (pa_cons (me_bl pe_bl) (ma_cons (pa_cons (me_non pe_non) (ma_cons (pa_cons (me_str pe_str) (ma_cons (pa_cons (me_tup (pe_tup (ma_cons (pa_cons (me_int pe_int) (ma_nil pa_nil))))) (ma_cons (pa_cons (me_int pe_int) (ma_cons (pa_cons (me_int pe_int) (ma_cons (pa_cons (me_op opm_pow (pe_op Cs.op_powW (me_int pe_int) (me_int pe_int))) (ma_nil pa_nil))))))))))))))))))))))) (ma_nil pa_nil))))))))))
    (pss_one (ms_set (ps_set (i := 7) sc_law.nd rfl (by first | exact Or.inl rfl | exact Or.inr rfl | exact Or.inr (Or.inl rfl) | exact Or.inr (Or.inr rfl)) (me_op (opm_add (b := false)) (pe_op Cs.op_addD (me_op (opm_add (b := false)) (pe_op Cs.op_addD (me_slice (b := false) (pe_slice Cs.sl_D (me_var (pv 7)) (mo_none po_none) (mo_some (po_some (me_var (pv 10)))))) (me_lst (b := false) (pe_lst (ma_cons (pa_cons (me_var (pv 11)) (ma_nil pa_nil))))))) (me_slice (b := false) (pe_slice Cs.sl_D (me_var (pv 7)) (mo_some (po_some (me_op (opm_add (b := false)) (pe_op Cs.op_addD (me_var (pv 10)) (me_call (pe_call (ok_Ldraw T) (hr.mono (by decide)) rfl T.g_Ldraw T.k_Ldraw T.b_Ldraw .nil pass_no (by exact (ma_cons (pa_cons (me_var (pv 3)) (ma_cons (pa_cons (me_int pe_int) (ma_nil pa_nil)))))))))))) (mo_none po_none))))))))))))))
    (mss_cons (pss_cons (ms_set (ps_set (i := 12) sc_law.nd rfl (by first | exact Or.inl rfl | exact Or.inr rfl | exact Or.inr (Or.inl rfl) | exact Or.inr (Or.inr rfl)) (me_if (pe_ifExp (mt_cmp opm_eq (pt_cmpR (op_eqZ hr.units) (me_call (pe_call (ok_Ldraw T) (hr.mono (by decide)) rfl T.g_Ldraw T.k_Ldraw T.b_Ldraw .nil pass_no (by exact (ma_cons (pa_cons (me_var (pv 3)) (ma_cons (pa_cons (me_int pe_int) (ma_nil pa_nil)))))))) (me_int pe_int) (nomark _))) (me_cb cbm_tuple (pe_callTy (call_tupA rfl) (by rfl) T.n_tuple (by decide +kernel) (ma_cons (pa_cons (me_var (pv 7)) (ma_nil pa_nil))))) (me_var (pv 7))))))
    (mss_cons (pss_cons (ms_par (ps_par (by rfl) sc_law.nd rfl rfl (by decide) rfl rfl (ma_cons (pa_cons (me_cb cbm_repr (pe_callB (Cs.call_reprD hgd (hu66 hr)) (by rfl) T.n_repr (by decide +kernel) (ma_cons (pa_cons (me_var (pv 12)) (ma_nil pa_nil))))) (ma_cons (pa_cons (me_call (pe_call (ok_Ltold T) (hr.mono (by decide)) rfl T.g_Ltold T.k_Ltold T.b_Ltold .nil pass_no (by exact (ma_cons (pa_cons (me_var (pv 5)) (ma_cons (pa_cons (me_var (pv 12)) (ma_nil pa_nil)))))))) (ma_nil pa_nil))))) (by rfl)))
    (mss_cons (pss_cons (ms_if (ps_if (PW.pt (mw_or (pw_or (mt_cmp opm_ne (pt_cmpR (op_neZ hr.units) (me_call (pe_call (ok_Lis_right T) (hr.mono (by decide)) rfl T.g_Lis_right T.k_Lis_right T.b_Lis_right .nil pass_no (by exact (ma_cons (pa_cons (me_var (pv 12)) (ma_nil pa_nil)))))) (me_is (cl := (.ty "bool")) (u := (.ty "bool")) (T.isf _) ⟨by decide, rfl⟩ (pe_callB call_isM (by rfl) T.n_isinstance (by decide +kernel) (pa_cons (me_var (pv 14)) (pa_cons (pe_bltn (v := .ty "bool") (by rfl) T.n_bool (by decide +kernel) rfl) pa_nil)))) (nomark _))) (pw_or1 (mt_cmp opm_notin (pt_cmpR Cs.op_niD (me_var (pv 14)) (me_tup (pe_tup (ma_cons (pa_cons (me_bl pe_bl) (ma_cons (pa_cons (me_bl pe_bl) (ma_cons (pa_cons (me_str pe_str) (ma_nil pa_nil))))))))) (by first | exact nomark _ | rfl))))))) (pss_one (ms_ret (ps_ret (me_bl pe_bl)))) (mss_nil pss_nil)))
    (pss_one (ms_if (ps_if (mt_cmp opm_ne (pt_cmpR (op_neZ hr.units) (me_cb cbm_repr (pe_callB (Cs.call_reprD hgd (hu66 hr)) (by rfl) T.n_repr (by decide +kernel) (ma_cons (pa_cons (me_var (pv 12)) (ma_nil pa_nil))))) (me_var (pv 13)) (nomark _))) (pss_one (ms_ret (ps_ret (me_bl pe_bl)))) (mss_nil pss_nil))))))))))))))))))
    (pss_one (ms_if (ps_if (mt_cmp opm_ne (pt_cmpR (op_neZ hr.units) (me_call (pe_call (ok_Ltold T) (hr.mono (by decide)) rfl T.g_Ltold T.k_Ltold T.b_Ltold .nil pass_no (by exact (ma_cons (pa_cons (me_var (pv 5)) (ma_cons (pa_cons (me_call (pe_call (ok_Lpick T) (hr.mono (by decide)) rfl T.g_Lpick T.k_Lpick T.b_Lpick .nil pass_no (by exact (ma_cons (pa_cons (me_var (pv 3)) (ma_cons (pa_cons (me_lst (b := false) (pe_lst (ma_cons (pa_cons (me_non pe_non) (ma_cons (pa_cons (me_int pe_int) (ma_cons (pa_cons (me_str pe_str) (ma_cons (pa_cons (me_str pe_str) (ma_cons (pa_cons (me_dnew (b := false) pe_dnewK) (ma_cons (pa_cons (me_disp (b := false) (trs := [((mC (.int 0)), (mC (.int 1)))]) (pe_disp (pps_cons (me_int pe_int) (me_int pe_int) pps_nil) (by rfl) (by rfl) (fun z => by cases z) (by decide))) (ma_cons (pa_cons (me_bl pe_bl) (ma_nil pa_nil))))))))))))))))) (ma_nil pa_nil)))))))) (ma_nil pa_nil)))))))) (me_str pe_str) (nomark _))) (pss_one (ms_ret (ps_ret (me_bl pe_bl)))) (mss_nil pss_nil))))))))))))))))
    (pss_one (ms_ret (ps_ret (me_bl pe_bl)))))), pureM (N := ["_law_script", "_law_k", "_law_cell", "_law_state", "_law_pool_here", "_law_made", "_law_turn", "_law_some", "_law_more", "_law_bend", "_law_at_here", "_law_odd", "_law_value", "_law_shown", "_law_told_here"]) (law_sp (W := T.W) hm h.1 h.2.1 h.2.2)⟩
end
end K29
namespace K29
open PySem PySem.Spec L2 Mi
section
theorem all_mk (hm : ∀ ns : List Int, ns.length ≤ 63 → ∃ μ, m_law [.lst (ns.map D.int)] [] = .ok (.bl true) μ) {l : PySem.W.OpenLaw} {qq : Program} {w : World} {K : PySem.W.Frag} {h : Heap} {mg : Str → Option Value} {fa : Addr} (X : K.In h) (G : h.Ns mainGlobals mg) (hfa : mg "law" = some (.ref fa))
    {C_CallError : Addr} {C_BadSignature : Addr} {C_BadCall : Addr} {C_BadRow : Addr} {C_BadCounts : Addr} {C_Staircase : Addr} {C_Fit : Addr} {f1 : Addr} {od1 an1 : Option Addr} {sl1 : Array (Option Value)} {oc1 kV1 dc1 pm1 cd1 ct1 : Value} {f2 : Addr} {od2 an2 : Option Addr} {sl2 : Array (Option Value)} {oc2 kV2 dc2 pm2 cd2 ct2 : Value} {f3 : Addr} {od3 an3 : Option Addr} {sl3 : Array (Option Value)} {oc3 kV3 dc3 pm3 cd3 ct3 : Value} {f4 : Addr} {od4 an4 : Option Addr} {sl4 : Array (Option Value)} {oc4 kV4 dc4 pm4 cd4 ct4 : Value} {f5 : Addr} {od5 an5 : Option Addr} {sl5 : Array (Option Value)} {oc5 kV5 dc5 pm5 cd5 ct5 : Value} {f6 : Addr} {od6 an6 : Option Addr} {sl6 : Array (Option Value)} {oc6 kV6 dc6 pm6 cd6 ct6 : Value} {f7 : Addr} {od7 an7 : Option Addr} {sl7 : Array (Option Value)} {oc7 kV7 dc7 pm7 cd7 ct7 : Value} {f8 : Addr} {od8 an8 : Option Addr} {sl8 : Array (Option Value)} {oc8 kV8 dc8 pm8 cd8 ct8 : Value} {f9 : Addr} {od9 an9 : Option Addr} {sl9 : Array (Option Value)} {oc9 kV9 dc9 pm9 cd9 ct9 : Value} {f10 : Addr} {od10 an10 : Option Addr} {sl10 : Array (Option Value)} {oc10 kV10 dc10 pm10 cd10 ct10 : Value} {f11 : Addr} {od11 an11 : Option Addr} {sl11 : Array (Option Value)} {oc11 kV11 dc11 pm11 cd11 ct11 : Value} {f12 : Addr} {od12 an12 : Option Addr} {sl12 : Array (Option Value)} {oc12 kV12 dc12 pm12 cd12 ct12 : Value} {f13 : Addr} {od13 an13 : Option Addr} {sl13 : Array (Option Value)} {oc13 kV13 dc13 pm13 cd13 ct13 : Value} {f14 : Addr} {od14 an14 : Option Addr} {sl14 : Array (Option Value)} {oc14 kV14 dc14 pm14 cd14 ct14 : Value} {f15 : Addr} {od15 an15 : Option Addr} {sl15 : Array (Option Value)} {oc15 kV15 dc15 pm15 cd15 ct15 : Value} {f16 : Addr} {od16 an16 : Option Addr} {sl16 : Array (Option Value)} {oc16 kV16 dc16 pm16 cd16 ct16 : Value} {f17 : Addr} {od17 an17 : Option Addr} {sl17 : Array (Option Value)} {oc17 kV17 dc17 pm17 cd17 ct17 : Value} {f18 : Addr} {od18 an18 : Option Addr} {sl18 : Array (Option Value)} {oc18 kV18 dc18 pm18 cd18 ct18 : Value} {f19 : Addr} {od19 an19 : Option Addr} {sl19 : Array (Option Value)} {oc19 kV19 dc19 pm19 cd19 ct19 : Value} {f20 : Addr} {od20 an20 : Option Addr} {sl20 : Array (Option Value)} {oc20 kV20 dc20 pm20 cd20 ct20 : Value} {f21 : Addr} {od21 an21 : Option Addr} {sl21 : Array (Option Value)} {oc21 kV21 dc21 pm21 cd21 ct21 : Value} {f22 : Addr} {od22 an22 : Option Addr} {sl22 : Array (Option Value)} {oc22 kV22 dc22 pm22 cd22 ct22 : Value} {f23 : Addr} {od23 an23 : Option Addr} {sl23 : Array (Option Value)} {oc23 kV23 dc23 pm23 cd23 ct23 : Value} {f24 : Addr} {od24 an24 : Option Addr} {sl24 : Array (Option Value)} {oc24 kV24 dc24 pm24 cd24 ct24 : Value} {f25 : Addr} {od25 an25 : Option Addr} {sl25 : Array (Option Value)} {oc25 kV25 dc25 pm25 cd25 ct25 : Value} {tk_LONGEST_NAME : Tok} {tk_MOST_COUNT : Tok} {tk_MOST_COUNTS : Tok}
    (a_CallError : PySem.W.nsIn K mainGlobals "CallError" = some (some (.ref C_CallError)))
    (a_BadSignature : PySem.W.nsIn K mainGlobals "BadSignature" = some (some (.ref C_BadSignature)))
    (a_BadCall : PySem.W.nsIn K mainGlobals "BadCall" = some (some (.ref C_BadCall)))
    (a_BadRow : PySem.W.nsIn K mainGlobals "BadRow" = some (some (.ref C_BadRow)))
    (a_BadCounts : PySem.W.nsIn K mainGlobals "BadCounts" = some (some (.ref C_BadCounts)))
    (a_Staircase : PySem.W.nsIn K mainGlobals "Staircase" = some (some (.ref C_Staircase)))
    (a_Fit : PySem.W.nsIn K mainGlobals "Fit" = some (some (.ref C_Fit)))
    (a2 : PySem.W.nsIn K mainGlobals "is_name" = some (some (.ref f2)))
    (a3 : PySem.W.nsIn K mainGlobals "are_names" = some (some (.ref f3)))
    (a4 : PySem.W.nsIn K mainGlobals "is_row" = some (some (.ref f4)))
    (a6 : PySem.W.nsIn K mainGlobals "_law_begin" = some (some (.ref f6)))
    (a7 : PySem.W.nsIn K mainGlobals "_law_draw" = some (some (.ref f7)))
    (a8 : PySem.W.nsIn K mainGlobals "_law_is_right" = some (some (.ref f8)))
    (a9 : PySem.W.nsIn K mainGlobals "_law_pick" = some (some (.ref f9)))
    (a10 : PySem.W.nsIn K mainGlobals "_law_shuffled" = some (some (.ref f10)))
    (a11 : PySem.W.nsIn K mainGlobals "_law_pool" = some (some (.ref f11)))
    (a12 : PySem.W.nsIn K mainGlobals "_law_random_row" = some (some (.ref f12)))
    (a13 : PySem.W.nsIn K mainGlobals "_law_random_rows" = some (some (.ref f13)))
    (a14 : PySem.W.nsIn K mainGlobals "lost_between" = some (some (.ref f14)))
    (a22 : PySem.W.nsIn K mainGlobals "rows_fit" = some (some (.ref f22)))
    (a23 : PySem.W.nsIn K mainGlobals "fit_together" = some (some (.ref f23)))
    (a24 : PySem.W.nsIn K mainGlobals "_law_told" = some (some (.ref f24)))
    (a25 : PySem.W.nsIn K mainGlobals "law" = some (some (.ref f25)))
    (in1 : PySem.W.findIn K (.ref C_BadRow) "__init__" = some (some (.ref f1)))
    (in5 : PySem.W.findIn K (.ref C_Staircase) "__init__" = some (some (.ref f5)))
    (in15 : PySem.W.findIn K (.ref C_Fit) "__init__" = some (some (.ref f15)))
    (q116 : PySem.W.findIn K (.ref C_Fit) "is_ordered" = some (some (.ref f16)))
    (q117 : PySem.W.findIn K (.ref C_Fit) "loses_needed" = some (some (.ref f17)))
    (q118 : PySem.W.findIn K (.ref C_Fit) "allows" = some (some (.ref f18)))
    (q119 : PySem.W.findIn K (.ref C_Fit) "is_steady" = some (some (.ref f19)))
    (q120 : PySem.W.findIn K (.ref C_Fit) "is_possible" = some (some (.ref f20)))
    (q121 : PySem.W.findIn K (.ref C_Staircase) "row" = some (some (.ref f21)))
    (l1 : K.lookup f1 = some ⟨oc1, od1, .func (PySem.W.fnOf "__init__" "BadRow.__init__" (defArgs s_BadRow_dinitd) (defBody s_BadRow_dinitd) (defScope s_BadRow_dinitd) .none kV1 dc1 pm1 an1 cd1 ct1), sl1⟩)
    (l2 : K.lookup f2 = some ⟨oc2, od2, .func (PySem.W.fnOf "is_name" "is_name" (defArgs s_is_name) (defBody s_is_name) (defScope s_is_name) .none kV2 dc2 pm2 an2 cd2 ct2), sl2⟩)
    (l3 : K.lookup f3 = some ⟨oc3, od3, .func (PySem.W.fnOf "are_names" "are_names" (defArgs s_are_names) (defBody s_are_names) (defScope s_are_names) .none kV3 dc3 pm3 an3 cd3 ct3), sl3⟩)
    (l4 : K.lookup f4 = some ⟨oc4, od4, .func (PySem.W.fnOf "is_row" "is_row" (defArgs s_is_row) (defBody s_is_row) (defScope s_is_row) .none kV4 dc4 pm4 an4 cd4 ct4), sl4⟩)
    (l5 : K.lookup f5 = some ⟨oc5, od5, .func (PySem.W.fnOf "__init__" "Staircase.__init__" (defArgs s_Staircase_dinitd) (defBody s_Staircase_dinitd) (defScope s_Staircase_dinitd) .none kV5 dc5 pm5 an5 cd5 ct5), sl5⟩)
    (l6 : K.lookup f6 = some ⟨oc6, od6, .func (PySem.W.fnOf "_law_begin" "_law_begin" (defArgs s_Lbegin) (defBody s_Lbegin) (defScope s_Lbegin) .none kV6 dc6 pm6 an6 cd6 ct6), sl6⟩)
    (l7 : K.lookup f7 = some ⟨oc7, od7, .func (PySem.W.fnOf "_law_draw" "_law_draw" (defArgs s_Ldraw) (defBody s_Ldraw) (defScope s_Ldraw) .none kV7 dc7 pm7 an7 cd7 ct7), sl7⟩)
    (l8 : K.lookup f8 = some ⟨oc8, od8, .func (PySem.W.fnOf "_law_is_right" "_law_is_right" (defArgs s_Lis_right) (defBody s_Lis_right) (defScope s_Lis_right) .none kV8 dc8 pm8 an8 cd8 ct8), sl8⟩)
    (l9 : K.lookup f9 = some ⟨oc9, od9, .func (PySem.W.fnOf "_law_pick" "_law_pick" (defArgs s_Lpick) (defBody s_Lpick) (defScope s_Lpick) .none kV9 dc9 pm9 an9 cd9 ct9), sl9⟩)
    (l10 : K.lookup f10 = some ⟨oc10, od10, .func (PySem.W.fnOf "_law_shuffled" "_law_shuffled" (defArgs s_Lshuffled) (defBody s_Lshuffled) (defScope s_Lshuffled) .none kV10 dc10 pm10 an10 cd10 ct10), sl10⟩)
    (l11 : K.lookup f11 = some ⟨oc11, od11, .func (PySem.W.fnOf "_law_pool" "_law_pool" (defArgs s_Lpool) (defBody s_Lpool) (defScope s_Lpool) .none kV11 dc11 pm11 an11 cd11 ct11), sl11⟩)
    (l12 : K.lookup f12 = some ⟨oc12, od12, .func (PySem.W.fnOf "_law_random_row" "_law_random_row" (defArgs s_Lrandom_row) (defBody s_Lrandom_row) (defScope s_Lrandom_row) .none kV12 dc12 pm12 an12 cd12 ct12), sl12⟩)
    (l13 : K.lookup f13 = some ⟨oc13, od13, .func (PySem.W.fnOf "_law_random_rows" "_law_random_rows" (defArgs s_Lrandom_rows) (defBody s_Lrandom_rows) (defScope s_Lrandom_rows) .none kV13 dc13 pm13 an13 cd13 ct13), sl13⟩)
    (l14 : K.lookup f14 = some ⟨oc14, od14, .func (PySem.W.fnOf "lost_between" "lost_between" (defArgs s_lost_between) (defBody s_lost_between) (defScope s_lost_between) .none kV14 dc14 pm14 an14 cd14 ct14), sl14⟩)
    (l15 : K.lookup f15 = some ⟨oc15, od15, .func (PySem.W.fnOf "__init__" "Fit.__init__" (defArgs s_Fit_dinitd) (defBody s_Fit_dinitd) (defScope s_Fit_dinitd) .none kV15 dc15 pm15 an15 cd15 ct15), sl15⟩)
    (l16 : K.lookup f16 = some ⟨oc16, od16, .func (PySem.W.fnOf "is_ordered" "Fit.is_ordered" (defArgs s_Fit_is_ordered) (defBody s_Fit_is_ordered) (defScope s_Fit_is_ordered) .none kV16 dc16 pm16 an16 cd16 ct16), sl16⟩)
    (l17 : K.lookup f17 = some ⟨oc17, od17, .func (PySem.W.fnOf "loses_needed" "Fit.loses_needed" (defArgs s_Fit_loses_needed) (defBody s_Fit_loses_needed) (defScope s_Fit_loses_needed) .none kV17 dc17 pm17 an17 cd17 ct17), sl17⟩)
    (l18 : K.lookup f18 = some ⟨oc18, od18, .func (PySem.W.fnOf "allows" "Fit.allows" (defArgs s_Fit_allows) (defBody s_Fit_allows) (defScope s_Fit_allows) .none kV18 dc18 pm18 an18 cd18 ct18), sl18⟩)
    (l19 : K.lookup f19 = some ⟨oc19, od19, .func (PySem.W.fnOf "is_steady" "Fit.is_steady" (defArgs s_Fit_is_steady) (defBody s_Fit_is_steady) (defScope s_Fit_is_steady) .none kV19 dc19 pm19 an19 cd19 ct19), sl19⟩)
    (l20 : K.lookup f20 = some ⟨oc20, od20, .func (PySem.W.fnOf "is_possible" "Fit.is_possible" (defArgs s_Fit_is_possible) (defBody s_Fit_is_possible) (defScope s_Fit_is_possible) .none kV20 dc20 pm20 an20 cd20 ct20), sl20⟩)
    (l21 : K.lookup f21 = some ⟨oc21, od21, .func (PySem.W.fnOf "row" "Staircase.row" (defArgs s_Staircase_row) (defBody s_Staircase_row) (defScope s_Staircase_row) .none kV21 dc21 pm21 an21 cd21 ct21), sl21⟩)
    (l22 : K.lookup f22 = some ⟨oc22, od22, .func (PySem.W.fnOf "rows_fit" "rows_fit" (defArgs s_rows_fit) (defBody s_rows_fit) (defScope s_rows_fit) .none kV22 dc22 pm22 an22 cd22 ct22), sl22⟩)
    (l23 : K.lookup f23 = some ⟨oc23, od23, .func (PySem.W.fnOf "fit_together" "fit_together" (defArgs s_fit_together) (defBody s_fit_together) (defScope s_fit_together) .none kV23 dc23 pm23 an23 cd23 ct23), sl23⟩)
    (l24 : K.lookup f24 = some ⟨oc24, od24, .func (PySem.W.fnOf "_law_told" "_law_told" (defArgs s_Ltold) (defBody s_Ltold) (defScope s_Ltold) .none kV24 dc24 pm24 an24 cd24 ct24), sl24⟩)
    (l25 : K.lookup f25 = some ⟨oc25, od25, .func (PySem.W.fnOf "law" "law" (defArgs s_law) (defBody s_law) (defScope s_law) .none kV25 dc25 pm25 an25 cd25 ct25), sl25⟩)
    (ti1 : PySem.W.typeIn K (.ref f1) = some (.type "function"))
    (c1 : PySem.W.codeIn K cd1 "BadRow.__init__" = true)
    (k1 : PySem.W.keepIn K (.ref f1) = true)
    (c2 : PySem.W.codeIn K cd2 "is_name" = true)
    (k2 : PySem.W.keepIn K (.ref f2) = true)
    (c3 : PySem.W.codeIn K cd3 "are_names" = true)
    (k3 : PySem.W.keepIn K (.ref f3) = true)
    (c4 : PySem.W.codeIn K cd4 "is_row" = true)
    (k4 : PySem.W.keepIn K (.ref f4) = true)
    (mk5 : mkB K C_Staircase f5 = true)
    (c5 : PySem.W.codeIn K cd5 "Staircase.__init__" = true)
    (k5 : PySem.W.keepIn K (.ref f5) = true)
    (c6 : PySem.W.codeIn K cd6 "_law_begin" = true)
    (k6 : PySem.W.keepIn K (.ref f6) = true)
    (c7 : PySem.W.codeIn K cd7 "_law_draw" = true)
    (k7 : PySem.W.keepIn K (.ref f7) = true)
    (c8 : PySem.W.codeIn K cd8 "_law_is_right" = true)
    (k8 : PySem.W.keepIn K (.ref f8) = true)
    (c9 : PySem.W.codeIn K cd9 "_law_pick" = true)
    (k9 : PySem.W.keepIn K (.ref f9) = true)
    (c10 : PySem.W.codeIn K cd10 "_law_shuffled" = true)
    (k10 : PySem.W.keepIn K (.ref f10) = true)
    (c11 : PySem.W.codeIn K cd11 "_law_pool" = true)
    (k11 : PySem.W.keepIn K (.ref f11) = true)
    (c12 : PySem.W.codeIn K cd12 "_law_random_row" = true)
    (k12 : PySem.W.keepIn K (.ref f12) = true)
    (c13 : PySem.W.codeIn K cd13 "_law_random_rows" = true)
    (k13 : PySem.W.keepIn K (.ref f13) = true)
    (c14 : PySem.W.codeIn K cd14 "lost_between" = true)
    (k14 : PySem.W.keepIn K (.ref f14) = true)
    (mk15 : mkB K C_Fit f15 = true)
    (c15 : PySem.W.codeIn K cd15 "Fit.__init__" = true)
    (k15 : PySem.W.keepIn K (.ref f15) = true)
    (q216 : meB K C_Fit "is_ordered" f16 = true)
    (c16 : PySem.W.codeIn K cd16 "Fit.is_ordered" = true)
    (k16 : PySem.W.keepIn K (.ref f16) = true)
    (q217 : meB K C_Fit "loses_needed" f17 = true)
    (c17 : PySem.W.codeIn K cd17 "Fit.loses_needed" = true)
    (k17 : PySem.W.keepIn K (.ref f17) = true)
    (q218 : meB K C_Fit "allows" f18 = true)
    (c18 : PySem.W.codeIn K cd18 "Fit.allows" = true)
    (k18 : PySem.W.keepIn K (.ref f18) = true)
    (q219 : meB K C_Fit "is_steady" f19 = true)
    (c19 : PySem.W.codeIn K cd19 "Fit.is_steady" = true)
    (k19 : PySem.W.keepIn K (.ref f19) = true)
    (q220 : meB K C_Fit "is_possible" f20 = true)
    (c20 : PySem.W.codeIn K cd20 "Fit.is_possible" = true)
    (k20 : PySem.W.keepIn K (.ref f20) = true)
    (q221 : meB K C_Staircase "row" f21 = true)
    (c21 : PySem.W.codeIn K cd21 "Staircase.row" = true)
    (k21 : PySem.W.keepIn K (.ref f21) = true)
    (c22 : PySem.W.codeIn K cd22 "rows_fit" = true)
    (k22 : PySem.W.keepIn K (.ref f22) = true)
    (c23 : PySem.W.codeIn K cd23 "fit_together" = true)
    (k23 : PySem.W.keepIn K (.ref f23) = true)
    (c24 : PySem.W.codeIn K cd24 "_law_told" = true)
    (k24 : PySem.W.keepIn K (.ref f24) = true)
    (c25 : PySem.W.codeIn K cd25 "law" = true)
    (k25 : PySem.W.keepIn K (.ref f25) = true)
    (xisf : isfB K [("CallError", C_CallError), ("BadSignature", C_BadSignature), ("BadCall", C_BadCall), ("BadRow", C_BadRow), ("BadCounts", C_BadCounts), ("Staircase", C_Staircase), ("Fit", C_Fit)] ["BadSignature", "BadCall", "BadRow", "BadCounts"] ["bool", "int", "list", "str", "tuple"] = true)
    (xxm_CallError : xmB K [("CallError", C_CallError), ("BadSignature", C_BadSignature), ("BadCall", C_BadCall), ("BadRow", C_BadRow), ("BadCounts", C_BadCounts), ("Staircase", C_Staircase), ("Fit", C_Fit)] "CallError" C_CallError = true)
    (xcl_Staircase : clsB K C_Staircase = true)
    (xcl_Fit : clsB K C_Fit = true)
    (xno : noB K [(C_Fit, "first"), (C_Fit, "full"), (C_Fit, "is_bounded"), (C_Fit, "is_torn"), (C_Fit, "last"), (C_Fit, "losses"), (C_Staircase, "own_rows"), (C_BadRow, "index")] = true)
    (xcr_CallError : crB K C_CallError = true)
    (xx_BadRow : OexCls K C_BadRow)
    (xs_BadRow : PySem.W.findIn K (.ref C_BadRow) "__setattr__" = some (some (.builtin "object.__setattr__")))
    (sb_BadRow : PySem.W.subIn K (.ref C_BadRow) (.type "BaseException") = some true)
    (ty_BadRow : PySem.W.typeIn K (.ref C_BadRow) = some (.type "type"))
    (kp_BadRow : PySem.W.keepIn K (.ref C_BadRow) = true)
    (x_BadCounts : PySem.W.excIn K C_BadCounts [.type "ValueError", .type "Exception", .type "BaseException", .type "object"] "ValueError.__new__" = true)
    (kp_BadCounts : PySem.W.keepIn K (.ref C_BadCounts) = true)
    (sb_BadCounts : PySem.W.subIn K (.ref C_BadCounts) (.type "BaseException") = some true)
    (ty_BadCounts : PySem.W.typeIn K (.ref C_BadCounts) = some (.type "type"))
    (bi : PySem.W.findCls K (.ref C_CallError) (.type "type") "__init__" = some (.val (.builtin "ValueError.__init__")))
    (v_LONGEST_NAME : PySem.W.nsIn K mainGlobals "LONGEST_NAME" = some (some (.int 6 tk_LONGEST_NAME)))
    (v_MOST_COUNT : PySem.W.nsIn K mainGlobals "MOST_COUNT" = some (some (.int 100 tk_MOST_COUNT)))
    (v_MOST_COUNTS : PySem.W.nsIn K mainGlobals "MOST_COUNTS" = some (some (.int 6 tk_MOST_COUNTS)))
    (z_all : PySem.W.nsIn K mainGlobals "all" = some none)
    (z_any : PySem.W.nsIn K mainGlobals "any" = some none)
    (z_bool : PySem.W.nsIn K mainGlobals "bool" = some none)
    (z_enumerate : PySem.W.nsIn K mainGlobals "enumerate" = some none)
    (z_int : PySem.W.nsIn K mainGlobals "int" = some none)
    (z_isinstance : PySem.W.nsIn K mainGlobals "isinstance" = some none)
    (z_len : PySem.W.nsIn K mainGlobals "len" = some none)
    (z_list : PySem.W.nsIn K mainGlobals "list" = some none)
    (z_max : PySem.W.nsIn K mainGlobals "max" = some none)
    (z_min : PySem.W.nsIn K mainGlobals "min" = some none)
    (z_range : PySem.W.nsIn K mainGlobals "range" = some none)
    (z_repr : PySem.W.nsIn K mainGlobals "repr" = some none)
    (z_set : PySem.W.nsIn K mainGlobals "set" = some none)
    (z_sorted : PySem.W.nsIn K mainGlobals "sorted" = some none)
    (z_str : PySem.W.nsIn K mainGlobals "str" = some none)
    (z_tuple : PySem.W.nsIn K mainGlobals "tuple" = some none)
    (z_zip : PySem.W.nsIn K mainGlobals "zip" = some none) :
    ∃ (fd : FuncData) (cs : List (Addr × Addr)) (ts : List (Addr × Str)), ts.map (·.1) = cs.map (·.2) ∧ (∀ p ∈ cs, K.lookup p.2 = none ∧ ∃ (y : Str) (e : DefRec), (PyProof.Rows.recsOf qq).find? (fun e => e.name == y) = some e ∧ PySem.W.tabIn K y = some p) ∧
      (∀ (s : Shared) (v : Value), BindsTo s fd ⟨[v], []⟩ [("_law_script", v)]) ∧ ∀ base : Heap, K.In base → base.Ns mainGlobals mg → (∀ p ∈ cs, LamX.TabB base mg p.1 p.2) → Cs.FnG l.prog w K mg base CX0 8 fa fd ["_law_script"] (spLawT K ts) := by
  have e := (PySem.W.mg_of X G a25).symm.trans hfa
  obtain rfl : f25 = fa := by cases e; rfl
  refine ⟨PySem.W.fnOf "law" "law" (defArgs s_law) (defBody s_law) (defScope s_law) .none kV25 dc25 pm25 an25 cd25 ct25, [], [], rfl, (fun p hp => by cases hp), fun s v => .of_eq rfl, fun base _ _ htb => ?_⟩
  let T : Tx K mg w base := {
    c_CallError := C_CallError,
    g_CallError := PySem.W.mg_of X G a_CallError,
    c_BadSignature := C_BadSignature,
    g_BadSignature := PySem.W.mg_of X G a_BadSignature,
    c_BadCall := C_BadCall,
    g_BadCall := PySem.W.mg_of X G a_BadCall,
    c_BadRow := C_BadRow,
    g_BadRow := PySem.W.mg_of X G a_BadRow,
    c_BadCounts := C_BadCounts,
    g_BadCounts := PySem.W.mg_of X G a_BadCounts,
    c_Staircase := C_Staircase,
    g_Staircase := PySem.W.mg_of X G a_Staircase,
    c_Fit := C_Fit,
    g_Fit := PySem.W.mg_of X G a_Fit,
    in_BadRow := in1,
    ti_BadRow := ti1,
    a_BadRow_dinitd := f1,
    fd_BadRow_dinitd := _,
    F_BadRow_dinitd := fun_mk (st := s_BadRow_dinitd) l1 c1 k1,
    b_BadRow_dinitd := (fun_mk (st := s_BadRow_dinitd) l1 c1 k1).binds (ps := ["self", "index"]) fun _ _ _ _ _ _ us hl => match us, hl with | [_, _], _ => rfl,
    g_is_name := PySem.W.mg_of X G a2,
    k_is_name := k2,
    a_is_name := f2,
    fd_is_name := _,
    F_is_name := fun_mk (st := s_is_name) l2 c2 k2,
    b_is_name := (fun_mk (st := s_is_name) l2 c2 k2).binds (ps := ["value"]) fun _ _ _ _ _ _ us hl => match us, hl with | [_], _ => rfl,
    g_are_names := PySem.W.mg_of X G a3,
    k_are_names := k3,
    a_are_names := f3,
    fd_are_names := _,
    F_are_names := fun_mk (st := s_are_names) l3 c3 k3,
    b_are_names := (fun_mk (st := s_are_names) l3 c3 k3).binds (ps := ["value"]) fun _ _ _ _ _ _ us hl => match us, hl with | [_], _ => rfl,
    g_is_row := PySem.W.mg_of X G a4,
    k_is_row := k4,
    a_is_row := f4,
    fd_is_row := _,
    F_is_row := fun_mk (st := s_is_row) l4 c4 k4,
    b_is_row := (fun_mk (st := s_is_row) l4 c4 k4).binds (ps := ["value"]) fun _ _ _ _ _ _ us hl => match us, hl with | [_], _ => rfl,
    mk_Staircase := mkB_ok mk5,
    a_Staircase_dinitd := f5,
    fd_Staircase_dinitd := _,
    F_Staircase_dinitd := fun_mk (st := s_Staircase_dinitd) l5 c5 k5,
    b_Staircase_dinitd := (fun_mk (st := s_Staircase_dinitd) l5 c5 k5).binds (ps := ["self", "rows"]) fun _ _ _ _ _ _ us hl => match us, hl with | [_, _], _ => rfl,
    g_Lbegin := PySem.W.mg_of X G a6,
    k_Lbegin := k6,
    a_Lbegin := f6,
    fd_Lbegin := _,
    F_Lbegin := fun_mk (st := s_Lbegin) l6 c6 k6,
    b_Lbegin := (fun_mk (st := s_Lbegin) l6 c6 k6).binds (ps := ["_law_cell", "_law_turn"]) fun _ _ _ _ _ _ us hl => match us, hl with | [_, _], _ => rfl,
    g_Ldraw := PySem.W.mg_of X G a7,
    k_Ldraw := k7,
    a_Ldraw := f7,
    fd_Ldraw := _,
    F_Ldraw := fun_mk (st := s_Ldraw) l7 c7 k7,
    b_Ldraw := (fun_mk (st := s_Ldraw) l7 c7 k7).binds (ps := ["_law_state", "_law_size"]) fun _ _ _ _ _ _ us hl => match us, hl with | [_, _], _ => rfl,
    g_Lis_right := PySem.W.mg_of X G a8,
    k_Lis_right := k8,
    a_Lis_right := f8,
    fd_Lis_right := _,
    F_Lis_right := fun_mk (st := s_Lis_right) l8 c8 k8,
    b_Lis_right := (fun_mk (st := s_Lis_right) l8 c8 k8).binds (ps := ["_law_value"]) fun _ _ _ _ _ _ us hl => match us, hl with | [_], _ => rfl,
    g_Lpick := PySem.W.mg_of X G a9,
    k_Lpick := k9,
    a_Lpick := f9,
    fd_Lpick := _,
    F_Lpick := fun_mk (st := s_Lpick) l9 c9 k9,
    b_Lpick := (fun_mk (st := s_Lpick) l9 c9 k9).binds (ps := ["_law_state", "_law_items"]) fun _ _ _ _ _ _ us hl => match us, hl with | [_, _], _ => rfl,
    g_Lshuffled := PySem.W.mg_of X G a10,
    k_Lshuffled := k10,
    a_Lshuffled := f10,
    fd_Lshuffled := _,
    F_Lshuffled := fun_mk (st := s_Lshuffled) l10 c10 k10,
    b_Lshuffled := (fun_mk (st := s_Lshuffled) l10 c10 k10).binds (ps := ["_law_state", "_law_items"]) fun _ _ _ _ _ _ us hl => match us, hl with | [_, _], _ => rfl,
    g_Lpool := PySem.W.mg_of X G a11,
    k_Lpool := k11,
    a_Lpool := f11,
    fd_Lpool := _,
    F_Lpool := fun_mk (st := s_Lpool) l11 c11 k11,
    b_Lpool := (fun_mk (st := s_Lpool) l11 c11 k11).binds (ps := ["_law_state", "_law_size"]) fun _ _ _ _ _ _ us hl => match us, hl with | [_, _], _ => rfl,
    g_Lrandom_row := PySem.W.mg_of X G a12,
    k_Lrandom_row := k12,
    a_Lrandom_row := f12,
    fd_Lrandom_row := _,
    F_Lrandom_row := fun_mk (st := s_Lrandom_row) l12 c12 k12,
    b_Lrandom_row := (fun_mk (st := s_Lrandom_row) l12 c12 k12).binds (ps := ["_law_state", "_law_pool_here"]) fun _ _ _ _ _ _ us hl => match us, hl with | [_, _], _ => rfl,
    g_Lrandom_rows := PySem.W.mg_of X G a13,
    k_Lrandom_rows := k13,
    a_Lrandom_rows := f13,
    fd_Lrandom_rows := _,
    F_Lrandom_rows := fun_mk (st := s_Lrandom_rows) l13 c13 k13,
    b_Lrandom_rows := (fun_mk (st := s_Lrandom_rows) l13 c13 k13).binds (ps := ["_law_state", "_law_pool_here", "_law_most"]) fun _ _ _ _ _ _ us hl => match us, hl with | [_, _, _], _ => rfl,
    g_lost_between := PySem.W.mg_of X G a14,
    k_lost_between := k14,
    a_lost_between := f14,
    fd_lost_between := _,
    F_lost_between := fun_mk (st := s_lost_between) l14 c14 k14,
    b_lost_between := (fun_mk (st := s_lost_between) l14 c14 k14).binds (ps := ["row", "later"]) fun _ _ _ _ _ _ us hl => match us, hl with | [_, _], _ => rfl,
    mk_Fit := mkB_ok mk15,
    a_Fit_dinitd := f15,
    fd_Fit_dinitd := _,
    F_Fit_dinitd := fun_mk (st := s_Fit_dinitd) l15 c15 k15,
    b_Fit_dinitd := (fun_mk (st := s_Fit_dinitd) l15 c15 k15).binds (ps := ["self", "rows"]) fun _ _ _ _ _ _ us hl => match us, hl with | [_, _], _ => rfl,
    me_Fit_is_ordered := meB_ok q216,
    a_Fit_is_ordered := f16,
    fd_Fit_is_ordered := _,
    F_Fit_is_ordered := fun_mk (st := s_Fit_is_ordered) l16 c16 k16,
    b_Fit_is_ordered := (fun_mk (st := s_Fit_is_ordered) l16 c16 k16).binds (ps := ["self"]) fun _ _ _ _ _ _ us hl => match us, hl with | [_], _ => rfl,
    me_Fit_loses_needed := meB_ok q217,
    a_Fit_loses_needed := f17,
    fd_Fit_loses_needed := _,
    F_Fit_loses_needed := fun_mk (st := s_Fit_loses_needed) l17 c17 k17,
    b_Fit_loses_needed := (fun_mk (st := s_Fit_loses_needed) l17 c17 k17).binds (ps := ["self"]) fun _ _ _ _ _ _ us hl => match us, hl with | [_], _ => rfl,
    me_Fit_allows := meB_ok q218,
    a_Fit_allows := f18,
    fd_Fit_allows := _,
    F_Fit_allows := fun_mk (st := s_Fit_allows) l18 c18 k18,
    b_Fit_allows := (fun_mk (st := s_Fit_allows) l18 c18 k18).binds (ps := ["self", "flat", "stop"]) fun _ _ _ _ _ _ us hl => match us, hl with | [_, _, _], _ => rfl,
    me_Fit_is_steady := meB_ok q219,
    a_Fit_is_steady := f19,
    fd_Fit_is_steady := _,
    F_Fit_is_steady := fun_mk (st := s_Fit_is_steady) l19 c19 k19,
    b_Fit_is_steady := (fun_mk (st := s_Fit_is_steady) l19 c19 k19).binds (ps := ["self"]) fun _ _ _ _ _ _ us hl => match us, hl with | [_], _ => rfl,
    me_Fit_is_possible := meB_ok q220,
    a_Fit_is_possible := f20,
    fd_Fit_is_possible := _,
    F_Fit_is_possible := fun_mk (st := s_Fit_is_possible) l20 c20 k20,
    b_Fit_is_possible := (fun_mk (st := s_Fit_is_possible) l20 c20 k20).binds (ps := ["self"]) fun _ _ _ _ _ _ us hl => match us, hl with | [_], _ => rfl,
    me_Staircase_row := meB_ok q221,
    a_Staircase_row := f21,
    fd_Staircase_row := _,
    F_Staircase_row := fun_mk (st := s_Staircase_row) l21 c21 k21,
    b_Staircase_row := (fun_mk (st := s_Staircase_row) l21 c21 k21).binds (ps := ["self", "count"]) fun _ _ _ _ _ _ us hl => match us, hl with | [_, _], _ => rfl,
    g_rows_fit := PySem.W.mg_of X G a22,
    k_rows_fit := k22,
    a_rows_fit := f22,
    fd_rows_fit := _,
    F_rows_fit := fun_mk (st := s_rows_fit) l22 c22 k22,
    b_rows_fit := (fun_mk (st := s_rows_fit) l22 c22 k22).binds (ps := ["staircase", "counts"]) fun _ _ _ _ _ _ us hl => match us, hl with | [_, _], _ => rfl,
    g_fit_together := PySem.W.mg_of X G a23,
    k_fit_together := k23,
    a_fit_together := f23,
    fd_fit_together := _,
    F_fit_together := fun_mk (st := s_fit_together) l23 c23 k23,
    b_fit_together := (fun_mk (st := s_fit_together) l23 c23 k23).binds (ps := ["staircase", "counts"]) fun _ _ _ _ _ _ us hl => match us, hl with | [_, _], _ => rfl,
    kw_fit_together_0_counts_staircase := kb_of (fun_mk (st := s_fit_together) l23 c23 k23) (ps := ["staircase", "counts"]) (ks := ["counts", "staircase"]) (n := 0) (ix := [1, 0]) (by simp) fun _ _ _ _ _ _ us ws h1 h2 => match us, h1, ws, h2 with | [], _, [_, _], _ => rfl,
    g_Ltold := PySem.W.mg_of X G a24,
    k_Ltold := k24,
    a_Ltold := f24,
    fd_Ltold := _,
    F_Ltold := fun_mk (st := s_Ltold) l24 c24 k24,
    b_Ltold := (fun_mk (st := s_Ltold) l24 c24 k24).binds (ps := ["_law_made", "_law_value"]) fun _ _ _ _ _ _ us hl => match us, hl with | [_, _], _ => rfl,
    g_law := PySem.W.mg_of X G a25,
    k_law := k25,
    a_law := f25,
    fd_law := _,
    F_law := fun_mk (st := s_law) l25 c25 k25,
    b_law := (fun_mk (st := s_law) l25 c25 k25).binds (ps := ["_law_script"]) fun _ _ _ _ _ _ us hl => match us, hl with | [_], _ => rfl,
    isf := fun _ => isfB_ok xisf,
    xm_CallError := xmB_ok xxm_CallError,
    cl_Staircase := clsB_ok xcl_Staircase,
    cl_Fit := clsB_ok xcl_Fit,
    nf_Fit_first := noB_ok xno (by simp),
    nf_Fit_full := noB_ok xno (by simp),
    nf_Fit_is_bounded := noB_ok xno (by simp),
    nf_Fit_is_torn := noB_ok xno (by simp),
    nf_Fit_last := noB_ok xno (by simp),
    nf_Fit_losses := noB_ok xno (by simp),
    nf_Staircase_own_rows := noB_ok xno (by simp),
    nf_BadRow_index := noB_ok xno (by simp),
    cr_CallError := crB_ok xcr_CallError,
    ox_BadRow := ⟨xx_BadRow, xs_BadRow, sb_BadRow, ty_BadRow, kp_BadRow⟩,
    x_BadCounts := x_BadCounts,
    kp_BadCounts := kp_BadCounts,
    sb_BadCounts := sb_BadCounts,
    ty_BadCounts := ty_BadCounts,
    bi := bi,
    t_LONGEST_NAME := tk_LONGEST_NAME,
    g_LONGEST_NAME := PySem.W.mg_of X G v_LONGEST_NAME,
    t_MOST_COUNT := tk_MOST_COUNT,
    g_MOST_COUNT := PySem.W.mg_of X G v_MOST_COUNT,
    t_MOST_COUNTS := tk_MOST_COUNTS,
    g_MOST_COUNTS := PySem.W.mg_of X G v_MOST_COUNTS,
    n_all := PySem.W.mg_none_of X G z_all,
    n_any := PySem.W.mg_none_of X G z_any,
    n_bool := PySem.W.mg_none_of X G z_bool,
    n_enumerate := PySem.W.mg_none_of X G z_enumerate,
    n_int := PySem.W.mg_none_of X G z_int,
    n_isinstance := PySem.W.mg_none_of X G z_isinstance,
    n_len := PySem.W.mg_none_of X G z_len,
    n_list := PySem.W.mg_none_of X G z_list,
    n_max := PySem.W.mg_none_of X G z_max,
    n_min := PySem.W.mg_none_of X G z_min,
    n_range := PySem.W.mg_none_of X G z_range,
    n_repr := PySem.W.mg_none_of X G z_repr,
    n_set := PySem.W.mg_none_of X G z_set,
    n_sorted := PySem.W.mg_none_of X G z_sorted,
    n_str := PySem.W.mg_none_of X G z_str,
    n_tuple := PySem.W.mg_none_of X G z_tuple,
    n_zip := PySem.W.mg_none_of X G z_zip}
  exact ok_law T hm
end
end K29
namespace Pl
open PySem PySem.Spec L2 Mi
section
variable {α : Type} {Q : D → Store → Prop} {X : Exc → Store → Prop} {P : Post} {ρ : Mi.Env} {μ μ0 : Store} {n : Nat} {S : Src → Store → Prop}
theorem watch_nil : watch [] μ0 μ := fun _ h => by cases h
@[simp] theorem rs_for {i : MI} {g : MG} {body : MS} : @RpS (mFor i g body n ρ μ) P = @Rp _ (i ρ μ) (fun s μ => @RpS (forS s.w μ g body n s.items ρ μ) P) P.X := by
  unfold mFor; rw [rs_st]
@[simp] theorem ri_any {a : ME} : @Rp _ (miAny a ρ μ) S X = @Rp _ (a ρ μ) (fun d μ => match anyItems μ d with
  | some (ds, w) => S ⟨ds, w⟩ μ
  | none => False) X := by
  unfold miAny; rw [rp_bind]; congr 1; funext d μ; cases anyItems μ d <;> rfl
@[simp] theorem ri_rng1 {a : MA} : @Rp _ (miRng1 a ρ μ) S X = @Rp _ (a ρ μ) (fun ds μ => match ds with
  | [.int j] => (-(2 ^ 62) ≤ j ∧ j < 2 ^ 62) ∧ S ⟨rangeD 0 j.toNat, []⟩ μ
  | _ => False) X := by
  unfold miRng1; rw [rp_bind]; congr 1; funext ds μ
  split
  · rename_i j; by_cases h : -(2 ^ 62) ≤ j ∧ j < 2 ^ 62 <;> simp [h]
  · rename_i h
    first
      | rfl
      | (split
         · rename_i j; exact absurd rfl (h j)
         · rfl)
@[simp] theorem ri_rng2 {a : MA} : @Rp _ (miRng2 a ρ μ) S X = @Rp _ (a ρ μ) (fun ds μ => match ds with
  | [.int i, .int j] => (-(2 ^ 62) ≤ i ∧ i < 2 ^ 62 ∧ -(2 ^ 62) ≤ j ∧ j < 2 ^ 62) ∧ S ⟨rangeD i (j - i).toNat, []⟩ μ
  | _ => False) X := by
  unfold miRng2; rw [rp_bind]; congr 1; funext ds μ
  split
  · rename_i i j; by_cases h : -(2 ^ 62) ≤ i ∧ i < 2 ^ 62 ∧ -(2 ^ 62) ≤ j ∧ j < 2 ^ 62 <;> simp [h]
  · rename_i h
    first
      | rfl
      | (split
         · rename_i i j; exact absurd rfl (h i j)
         · rfl)
@[simp] theorem ri_enum {a : MA} : @Rp _ (miEnum a ρ μ) S X = @Rp _ (a ρ μ) (fun xs μ => match xs with
  | [d] => (match seqL μ d with
    | some ds => S ⟨enumD ds, d.cell⟩ μ
    | none => (match seqT d with
      | some ds => S ⟨enumD ds, []⟩ μ
      | none => False))
  | _ => False) X := by
  unfold miEnum; rw [rp_bind]; congr 1; funext xs μ
  rcases xs with _ | ⟨d, _ | ⟨e, r⟩⟩
  · rfl
  · dsimp only
    cases seqL μ d with
    | some ds => rfl
    | none => dsimp only; cases seqT d <;> rfl
  · rfl
theorem while_go {t : MT} {body : MS} (I : Nat → Mi.Env → Store → Prop) (step : ∀ m ρ μ, I m ρ μ → @Rp _ (t ρ μ) (fun b μ => if b = true then ∃ k, m = k + 1 ∧ @RpS (body n ρ μ) ⟨I k, P.R, P.N, I k, P.X⟩ else P.N ρ μ) P.X) :
    ∀ (m : Nat) (ρ : Mi.Env) (μ : Store), I m ρ μ → @RpS (whileS t body n (m + 1) ρ μ) P := fun m => by
  induction m with
  | zero =>
    intro ρ μ h
    have s := step 0 ρ μ h
    unfold whileS
    cases et : t ρ μ with
    | bad => rw [et] at s; exact s
    | exc x μ1 => rw [et] at s; exact s
    | ok b μ1 =>
      rw [et] at s
      cases b with
      | false => exact s
      | true => obtain ⟨k, z, _⟩ := s; exact absurd z (by omega)
  | succ m ih =>
    intro ρ μ h
    have s := step (m + 1) ρ μ h
    unfold whileS
    cases et : t ρ μ with
    | bad => rw [et] at s; exact s
    | exc x μ1 => rw [et] at s; exact s
    | ok b μ1 =>
      rw [et] at s
      cases b with
      | false => exact s
      | true =>
        obtain ⟨k, z, s⟩ := s
        obtain rfl : m = k := by omega
        dsimp only
        rw [if_pos rfl]
        cases eb : body n ρ μ1 with
        | nx ρ2 μ2 => rw [eb] at s; exact ih ρ2 μ2 s
        | ct ρ2 μ2 => rw [eb] at s; exact ih ρ2 μ2 s
        | bk ρ2 μ2 => rw [eb] at s; exact s
        | rt d2 μ2 => rw [eb] at s; exact s
        | exc x μ2 => rw [eb] at s; exact s
        | bad => rw [eb] at s; exact s
theorem while_inv {t : MT} {body : MS} (I : Nat → Mi.Env → Store → Prop) (m : Nat) (h0 : I m ρ μ) (step : ∀ m ρ μ, I m ρ μ → @Rp _ (t ρ μ) (fun b μ => if b = true then ∃ k, m = k + 1 ∧ @RpS (body n ρ μ) ⟨I k, P.R, P.N, I k, P.X⟩ else P.N ρ μ) P.X) :
    @RpS (mWhile t body n ρ μ) P := by
  have h := while_go (P := P) I step m ρ μ h0
  have nb : whileS t body n (m + 1) ρ μ ≠ .bad := fun z => by rw [z] at h; exact h
  rw [mWhile_eq rfl nb]
  exact h
@[simp] theorem rp_lc {b : Bool} {i : MI} {g : D → Mi.Env → Option Mi.Env} {t : MT} {el : ME} {vs : List Nat} : @Rp _ (mLc b i g t el vs ρ μ) Q X = @Rp _ (i ρ μ) (fun s μ => @Rp _ (lcA s.w μ g t el (wipeD ρ vs) s.items [] μ) (fun xs μ => @Rp _ (newL b xs μ) Q X) X) X := by
  unfold mLc; simp only [rp_bind]
variable {L : List D → Store → Prop}
theorem lc_go {g : D → Mi.Env → Option Mi.Env} {t : MT} {el : ME} {w : List Nat} (I : List D → List D → Store → Prop) (all : List D) (hw : ∀ pre acc μ, I pre acc μ → watch w μ0 μ) (hn : ∀ pre acc μ, I pre acc μ → acc.length ≤ pre.length) (hz : all.length ≤ sizeLine)
    (step : ∀ pre d post acc μ, all = pre ++ d :: post → I pre acc μ → ∃ ρ2, g d ρ = some ρ2 ∧ @Rp _ (t ρ2 μ) (fun k μ => if k = true then @Rp _ (el ρ2 μ) (fun y μ => I (pre ++ [d]) (acc ++ [y]) μ) (fun _ _ => False) else I (pre ++ [d]) acc μ) (fun _ _ => False)) (fin : ∀ acc μ, I all acc μ → L acc μ) :
    ∀ (ds pre acc : List D) (μ : Store), all = pre ++ ds → I pre acc μ → @Rp _ (lcA w μ0 g t el ρ ds acc μ) L X
  | [], pre, acc, μ, e, h => by
    unfold lcA
    rw [if_pos (hw _ _ _ h)]
    rw [List.append_nil] at e
    exact fin acc μ (e ▸ h)
  | d :: ds, pre, acc, μ, e, h => by
    unfold lcA
    rw [if_pos (hw _ _ _ h)]
    obtain ⟨ρ2, eg, s⟩ := step pre d ds acc μ e h
    have e' : all = (pre ++ [d]) ++ ds := by rw [e]; simp
    rw [eg]
    dsimp only
    cases et : t ρ2 μ with
    | bad => rw [et] at s; exact s
    | exc x μ1 => rw [et] at s; exact s.elim
    | ok b μ1 =>
      rw [et] at s
      cases b with
      | false => exact lc_go I all hw hn hz step fin ds _ acc μ1 e' s
      | true =>
        have s : @Rp _ (el ρ2 μ1) (fun y μ => I (pre ++ [d]) (acc ++ [y]) μ) (fun _ _ => False) := s
        dsimp only
        cases ee : el ρ2 μ1 with
        | bad => rw [ee] at s; exact s
        | exc x μ2 => rw [ee] at s; exact s.elim
        | ok y μ2 =>
          rw [ee] at s
          dsimp only
          have l1 := hn _ _ _ h
          rw [e, List.length_append, List.length_cons] at hz
          rw [if_pos (by omega)]
          exact lc_go I all hw hn (by rw [e, List.length_append, List.length_cons]; exact hz) step fin ds _ _ μ2 e' s
theorem lc_inv {g : D → Mi.Env → Option Mi.Env} {t : MT} {el : ME} {w : List Nat} {ds : List D} (I : List D → List D → Store → Prop) (hz : ds.length ≤ sizeLine) (h0 : I [] [] μ) (hw : ∀ pre acc μ, I pre acc μ → watch w μ0 μ) (hn : ∀ pre acc μ, I pre acc μ → acc.length ≤ pre.length)
    (step : ∀ pre d post acc μ, ds = pre ++ d :: post → I pre acc μ → ∃ ρ2, g d ρ = some ρ2 ∧ @Rp _ (t ρ2 μ) (fun k μ => if k = true then @Rp _ (el ρ2 μ) (fun y μ => I (pre ++ [d]) (acc ++ [y]) μ) (fun _ _ => False) else I (pre ++ [d]) acc μ) (fun _ _ => False)) (fin : ∀ acc μ, I ds acc μ → L acc μ) :
    @Rp _ (lcA w μ0 g t el ρ ds [] μ) L X := lc_go I ds hw hn hz step fin ds [] [] μ rfl h0
theorem lc_pure {g : D → Mi.Env → Option Mi.Env} {t : MT} {el : ME} {w : List Nat} {ds : List D} (p : D → Bool) (f : D → D) (hz : ds.length ≤ sizeLine)
    (step : ∀ d ∈ ds, ∃ ρ2, g d ρ = some ρ2 ∧ t ρ2 μ = .ok (p d) μ ∧ (p d = true → el ρ2 μ = .ok (f d) μ)) : lcA w μ g t el ρ ds [] μ = .ok ((ds.filter p).map f) μ := by
  have h : @Rp _ (lcA w μ g t el ρ ds [] μ) (fun xs μ' => xs = (ds.filter p).map f ∧ μ' = μ) (fun _ _ => False) := by
    refine lc_inv (fun pre acc μ' => acc = (pre.filter p).map f ∧ μ' = μ) hz ⟨rfl, rfl⟩ (fun pre acc μ' q => by rw [q.2]; exact fun _ _ => rfl) (fun pre acc μ' q => by rw [q.1, List.length_map]; exact List.length_filter_le _ _) (fun pre d post acc μ' e q => ?_) fun acc μ' q => q
    obtain ⟨rfl, rfl⟩ := q
    obtain ⟨ρ2, h1, h2, h3⟩ := step d (by rw [e]; simp)
    refine ⟨ρ2, h1, ?_⟩
    rw [h2]
    cases hp : p d with
    | true => rw [rp_ok, if_pos rfl, h3 hp]; simp [hp]
    | false => simp [hp]
  obtain ⟨xs, μ', e, rfl, rfl⟩ := rp_get h
  exact e
theorem lc_map {g : D → Mi.Env → Option Mi.Env} {el : ME} {w : List Nat} {ds : List D} (f : D → D) (hz : ds.length ≤ sizeLine)
    (step : ∀ d ∈ ds, ∃ ρ2, g d ρ = some ρ2 ∧ el ρ2 μ = .ok (f d) μ) : lcA w μ g mYes el ρ ds [] μ = .ok (ds.map f) μ := by
  rw [lc_pure (fun _ => true) f hz fun d hd => ?_, List.filter_eq_self.mpr fun _ _ => rfl]
  obtain ⟨ρ2, h1, h2⟩ := step d hd
  exact ⟨ρ2, h1, rfl, fun _ => h2⟩
theorem rp_lcm {g : D → Mi.Env → Option Mi.Env} {el : ME} {w : List Nat} {ds : List D} (f : D → D) (hz : ds.length ≤ sizeLine)
    (step : ∀ d ∈ ds, ∃ ρ2, g d ρ = some ρ2 ∧ el ρ2 μ = .ok (f d) μ) (k : L (ds.map f) μ) : @Rp _ (lcA w μ g mYes el ρ ds [] μ) L X := by
  rw [lc_map f hz step]; exact k
@[simp] theorem seqL_lst {ds : List D} : seqL μ (.lst ds) = some ds := rfl
@[simp] theorem seqL_tup {ds : List D} : seqL μ (.tup ds) = none := rfl
@[simp] theorem seqL_str {z : Str} : seqL μ (.str z) = none := rfl
@[simp] theorem seqL_int {z : Int} : seqL μ (.int z) = none := rfl
@[simp] theorem seqL_bl {z : Bool} : seqL μ (.bl z) = none := rfl
@[simp] theorem seqL_non : seqL μ .non = none := rfl
@[simp] theorem seqL_dct {ks : List Key} {ds : List D} : seqL μ (.dct ks ds) = none := rfl
@[simp] theorem seqT_lst {ds : List D} : seqT (.lst ds) = none := rfl
@[simp] theorem seqT_tup {ds : List D} : seqT (.tup ds) = some ds := rfl
theorem seqL_own {k : Nat} {ds : List D} (h : μ[k]? = some (some (.lst ds))) : seqL μ (.own k) = some ds := by unfold seqL; simp [h]
theorem ownL_own {k : Nat} {ds : List D} (h : μ[k]? = some (some (.lst ds))) : ownL μ (.own k) = some (k, ds) := by unfold ownL; simp [h]
theorem ownK_own {k : Nat} {ks : List Key} {ds : List D} (h : μ[k]? = some (some (.dct ks ds))) : ownK μ (.own k) = some (k, ks, ds) := by unfold ownK; simp [h]
@[simp] theorem dctOf_dct {ks : List Key} {ds : List D} : dctOf μ (.dct ks ds) = some (ks, ds) := rfl
theorem tyM_ownL {k : Nat} {ds : List D} (h : μ[k]? = some (some (.lst ds))) : tyM μ (.own k) = some "list" := by unfold tyM; simp [h]
@[simp] theorem keyOf_int {i : Int} : keyOf (.int i) = some (.inl i) := rfl
@[simp] theorem keyOf_str {x : Str} : keyOf (.str x) = some (.inr x) := rfl
@[simp] theorem f_i2 {g : Int → Int → D} {i j : Int} : @Rp _ (fI2 g (.int i) (.int j) μ) Q X = Q (g i j) μ := rfl
@[simp] theorem f_i2c {C : Int → Int → Prop} {g : Int → Int → D} {i j : Int} : @Rp _ (fI2c C g (.int i) (.int j) μ) Q X = (C i j ∧ Q (g i j) μ) := by
  unfold fI2c; by_cases h : C i j <;> simp [h]
@[simp] theorem f_addI {b : Bool} {i j : Int} : @Rp _ (fAdd b (.int i) (.int j) μ) Q X = Q (.int (i + j)) μ := rfl
@[simp] theorem f_addS {b : Bool} {i j : Str} : @Rp _ (fAdd b (.str i) (.str j) μ) Q X = (i.length + j.length ≤ sizeLine ∧ Q (.str (i ++ j)) μ) := by
  unfold fAdd; by_cases h : i.length + j.length ≤ sizeLine <;> simp [h]
theorem f_addL {b : Bool} {x y : D} {xs ys : List D} (hx : seqL μ x = some xs) (hy : seqL μ y = some ys) : @Rp _ (fAdd b x y μ) Q X = (xs.length + ys.length ≤ sizeLine ∧ @Rp _ (newL b (xs ++ ys) μ) Q X) := by
  have e : fAdd b x y μ = if xs.length + ys.length ≤ sizeLine then newL b (xs ++ ys) μ else .bad := by
    unfold fAdd
    split
    · cases hx
    · cases hx
    · cases hx
    · rw [hx, hy]
  rw [e]; by_cases h : xs.length + ys.length ≤ sizeLine <;> simp [h]
@[simp] theorem f_addLL {b : Bool} {xs ys : List D} : @Rp _ (fAdd b (.lst xs) (.lst ys) μ) Q X = (xs.length + ys.length ≤ sizeLine ∧ @Rp _ (newL b (xs ++ ys) μ) Q X) := f_addL rfl rfl
@[simp] theorem f_mulI {b : Bool} {i j : Int} : @Rp _ (fMul b (.int i) (.int j) μ) Q X = (CMulW i j ∧ Q (.int (i * j)) μ) := by
  unfold fMul; by_cases h : CMulW i j <;> simp [h]
@[simp] theorem f_neg {i : Int} : @Rp _ (fNeg (.int i) μ) Q X = Q (.int (-i)) μ := rfl
@[simp] theorem f_max {i j : Int} : @Rp _ (fMax2 [.int i, .int j] μ) Q X = Q (.int (if j > i then j else i)) μ := rfl
theorem f_lenL {x : D} {xs : List D} (hx : seqL μ x = some xs) : @Rp _ (fLen [x] μ) Q X = Q (.int xs.length) μ := by
  have e : fLen [x] μ = .ok (.int xs.length) μ := by
    unfold fLen
    split
    · rename_i e; cases e; cases hx
    · rename_i e; cases e; simp [hx]
    · rename_i h; exact absurd rfl (h x)
  rw [e]; rfl
@[simp] theorem f_lenLst {xs : List D} : @Rp _ (fLen [.lst xs] μ) Q X = Q (.int xs.length) μ := f_lenL rfl
@[simp] theorem f_lenTup {xs : List D} : @Rp _ (fLen [.tup xs] μ) Q X = Q (.int xs.length) μ := rfl
theorem f_lenStr {z : Str} (h : z.length ≤ sizeLine) : @Rp _ (fLen [.str z] μ) Q X = Q (.int z.length) μ := by
  unfold fLen; simp [h]
theorem f_ixL {x : D} {xs : List D} {i : Int} (hx : seqL μ x = some xs) : @Rp _ (fIx x (.int i) μ) Q X = (match atI xs i with
  | some d => Q d μ
  | none => False) := by
  have e : fIx x (.int i) μ = match atI xs i with
      | some d => .ok d μ
      | none => .bad := by
    unfold fIx
    split
    · cases hx
    · rename_i i' _ e; cases e; simp only [hx]; all_goals (cases atI xs i <;> rfl)
    · rename_i h2 h1; exact (h2 _ rfl).elim
  rw [e]
  all_goals (cases atI xs i <;> rfl)
@[simp] theorem f_ixLst {xs : List D} {i : Int} : @Rp _ (fIx (.lst xs) (.int i) μ) Q X = (match atI xs i with
  | some d => Q d μ
  | none => False) := f_ixL rfl
@[simp] theorem f_ixTup {xs : List D} {i : Int} : @Rp _ (fIx (.tup xs) (.int i) μ) Q X = (match atI xs i with
  | some d => Q d μ
  | none => False) := by
  have e : fIx (.tup xs) (.int i) μ = match atI xs i with
      | some d => .ok d μ
      | none => .bad := by
    unfold fIx
    simp only [seqL_tup, seqT_tup]
    all_goals (cases atI xs i <;> rfl)
  rw [e]
  all_goals (cases atI xs i <;> rfl)
theorem atI_nat {α : Type} {xs : List α} {i : Int} (h0 : 0 ≤ i) (h1 : i < xs.length) : ∃ d, atI xs i = some d ∧ d ∈ xs := by
  have hl : i.toNat < xs.length := by omega
  refine ⟨xs[i.toNat], ?_, List.getElem_mem hl⟩
  unfold atI ixN
  rw [if_pos h0, if_pos h1]
  simp [hl]
theorem ixN_nat {n : Nat} {i : Int} (h0 : 0 ≤ i) (h1 : i < n) : ixN n i = some i.toNat := by
  unfold ixN
  rw [if_pos h0, if_pos h1]
@[simp] theorem atI_0 {α : Type} {x : α} {xs : List α} : atI (x :: xs) 0 = some x := by
  unfold atI ixN; simp
@[simp] theorem atI_1 {α : Type} {x y : α} {xs : List α} : atI (x :: y :: xs) 1 = some y := by
  unfold atI ixN
  rw [if_pos (by decide), if_pos (by simp only [List.length_cons]; omega)]; rfl
@[simp] theorem atI_2 {α : Type} {x y z : α} {xs : List α} : atI (x :: y :: z :: xs) 2 = some z := by
  unfold atI ixN
  rw [if_pos (by decide), if_pos (by simp only [List.length_cons]; omega)]; rfl
theorem view_nil {x : D} (hx : seqL μ x = some []) : x.view μ = some (.list []) := by
  cases x with
  | lst ds => cases Option.some.inj hx; rfl
  | own k =>
    unfold seqL at hx
    dsimp only at hx
    cases e : μ[k]? with
    | none => rw [e] at hx; cases hx
    | some o =>
      rw [e] at hx
      cases o with
      | none => cases hx
      | some y =>
        cases y with
        | lst ds =>
          cases Option.some.inj hx
          show vf 4 μ k = _
          unfold vf
          rw [e]
          rfl
        | _ => cases hx
  | _ => cases hx
theorem f_eqNil {neg : Bool} {x : D} {xs : List D} (hx : seqL μ x = some xs) : @Rp _ (fEq neg x (.lst []) μ) Q X = Q (.bl (if neg = true then !xs.isEmpty else xs.isEmpty)) μ := by
  unfold fEq
  simp only [hx, seqL_lst]
  cases xs with
  | nil =>
    rw [if_pos rfl]
    unfold eqView
    rw [view_nil hx, show D.view μ (.lst []) = some (.list []) from rfl]
    have : SeqAt.shaped (.list []) = true := by decide
    simp only [this]
    cases neg <;> rfl
  | cons a as =>
    rw [if_neg (by simp)]
    cases neg <;> rfl
theorem f_list {b : Bool} {x : D} {xs : List D} (hx : seqL μ x = some xs) : @Rp _ (fList b [x] μ) Q X = @Rp _ (newL b xs μ) Q X := by
  unfold fList; simp [hx]
theorem f_append {k : Nat} {ds : List D} {y : D} (h : μ[k]? = some (some (.lst ds))) : @Rp _ (fAppend (.own k) [y] μ) Q X = (ds.length < sizeLine ∧ Q .non (μ.set k (some (.lst (ds ++ [y]))))) := by
  unfold fAppend
  rw [ownL_own h]
  by_cases hl : ds.length < sizeLine <;> simp [hl]
theorem f_pop {k : Nat} {ds : List D} {i : Int} (h : μ[k]? = some (some (.lst ds))) (h0 : 0 ≤ i) (h1 : i < ds.length) (hb : ds.length ≤ sizeLine) (q : ∀ y, ds[i.toNat]? = some y → Q y (μ.set k (some (.lst (ds.eraseIdx i.toNat))))) : @Rp _ (fPopAt (.own k) [.int i] μ) Q X := by
  have hl : i.toNat < ds.length := by omega
  have e1 : seqIndex? i ds.length = some i.toNat := by
    unfold seqIndex?
    have n0 : ¬ i < 0 := by omega
    simp [n0, h0, h1]
  have z : sizeLine < 2 ^ 62 := by decide
  have e63 : (2:Int) ^ 63 = 9223372036854775808 := by decide
  have e62 : (2:Nat) ^ 62 = 4611686018427387904 := by decide
  unfold fPopAt
  rw [ownL_own h]
  dsimp only
  rw [if_pos ⟨by omega, by omega⟩, e1]
  dsimp only
  rw [List.getElem?_eq_getElem hl]
  exact q _ (List.getElem?_eq_getElem hl)
end
end Pl
namespace Pl
open PySem PySem.Spec L2 Mi
noncomputable def b_begin : MS := (mRet (mLst true (mCons (mCb fMax2 (mCons (mC (.int 0)) (mCons (mOp (fI2 fun i j => .int (i - j)) (mVar 0) (mOp (fI2c Cs.CPowW fun i j => .int (i ^ j.toNat)) (mC (.int 10)) (mC (.int 18)))) mNil))) (mCons (mOp (fAdd false) (mVar 0) (mOp (fMul false) (mC (.int 977)) (mVar 1))) (mCons (mC (.int 0)) mNil)))))
noncomputable def m_begin : List D → Store → Res D := mFn 2 2 b_begin
noncomputable def b_draw : MS := (mSeq (mIfS (mB (mOp (fI2 fun i j => .bl (decide (j < i))) (mOp fIx (mVar 0) (mC (.int 0))) (mC (.int 0)))) (mSeq (mSet 2 (mOp (fI2c (fun _ j => j ≠ 0) fun i j => .int (i.fmod j)) (mOp fIx (mVar 0) (mC (.int 0))) (mVar 1)))
  (mSeq (mAsg (mOp (fI2c CDivN fun i j => .int (i.fdiv j)) (mOp fIx (mVar 0) (mC (.int 0))) (mVar 1)) (mgSubL (mVar 0) (mC (.int 0))))
  (mRet (mVar 2)))) mNext)
  (mSeq (mAsg (mOp (fAdd false) (mOp fIx (mVar 0) (mC (.int 2))) (mC (.int 1))) (mgSubL (mVar 0) (mC (.int 2))))
  (mSeq (mSet 2 (mOp (fAdd false) (mOp (fI2c (fun _ j => j ≠ 0) fun i j => .int (i.fmod j)) (mOp fIx (mVar 0) (mC (.int 1))) (mC (.int 2147483629))) (mOp (fMul false) (mC (.int 104729)) (mOp fIx (mVar 0) (mC (.int 2))))))
  (mSeq (mSet 2 (mOp (fMul false) (mVar 2) (mOp (fAdd false) (mOp (fAdd false) (mOp (fI2c (fun _ j => j ≠ 0) fun i j => .int (i.fmod j)) (mOp fIx (mVar 0) (mC (.int 1))) (mC (.int 2147483587))) (mOp (fMul false) (mOp (fMul false) (mC (.int 7919)) (mOp fIx (mVar 0) (mC (.int 2)))) (mOp fIx (mVar 0) (mC (.int 2))))) (mC (.int 11)))))
  (mRet (mOp (fI2c (fun _ j => j ≠ 0) fun i j => .int (i.fmod j)) (mOp (fI2c CDivN fun i j => .int (i.fdiv j)) (mOp (fI2c (fun _ j => j ≠ 0) fun i j => .int (i.fmod j)) (mOp (fI2c Cs.CPowW fun i j => .int (i ^ j.toNat)) (mVar 2) (mC (.int 3))) (mC (.int 2147483647))) (mC (.int 11))) (mVar 1)))))))
noncomputable def m_draw : List D → Store → Res D := mFn 3 2 b_draw
noncomputable def b_pick : MS := (mRet (mOp fIx (mVar 1) (mCall m_draw (mCons (mVar 0) (mCons (mCb fLen (mCons (mVar 1) mNil)) mNil)))))
noncomputable def m_pick : List D → Store → Res D := mFn 2 2 b_pick
noncomputable def b_shuffled : MS := (mSeq (mPar 2 3 (mCons (mCb (fList true) (mCons (mVar 1) mNil)) (mCons (mLst true mNil) mNil)))
  (mSeq (mWhile (mB (mOp (fEq true) (mVar 2) (mLst false mNil))) (mDrop (mBm "list" fAppend (mVar 3) (mCons (mBm "list" fPopAt (mVar 2) (mCons (mCall m_draw (mCons (mVar 0) (mCons (mCb fLen (mCons (mVar 2) mNil)) mNil))) mNil)) mNil))))
  (mFrz 3 (mRet (mVar 3)))))
noncomputable def m_shuffled : List D → Store → Res D := mFn 4 2 b_shuffled
def St (μ : Store) (s c : Nat) : Prop := ∃ a b z : Int, μ[s]? = some (some (.lst [.int a, .int b, .int z])) ∧ 0 ≤ z ∧ z ≤ c
structure Fr (s : Nat) (μ μ' : Store) : Prop where
  len : μ.length ≤ μ'.length
  at_ : ∀ n, n < μ.length → n ≠ s → μ'[n]? = μ[n]?
section
variable {Q : D → Store → Prop} {X : Exc → Store → Prop} {P : Post} {ρ : Mi.Env} {μ μ' μ'' : Store} {s c n : Nat}
theorem St.lt (h : St μ s c) : s < μ.length := by
  obtain ⟨a, b, z, e, _⟩ := h
  exact (List.getElem?_eq_some_iff.mp e).1
theorem St.le (h : St μ s c) {d : Nat} (l : c ≤ d) : St μ s d := by
  obtain ⟨a, b, z, e, h0, h1⟩ := h
  exact ⟨a, b, z, e, h0, by omega⟩
theorem Fr.refl : Fr s μ μ := ⟨Nat.le_refl _, fun _ _ _ => rfl⟩
theorem Fr.trans (h : Fr s μ μ') (k : Fr s μ' μ'') : Fr s μ μ'' := ⟨Nat.le_trans h.len k.len, fun n l ne => (k.at_ n (Nat.lt_of_lt_of_le l h.len) ne).trans (h.at_ n l ne)⟩
theorem Fr.set {x : Option Cell} : Fr s μ (μ.set s x) := ⟨by simp, fun n l ne => by rw [List.getElem?_set_ne (Ne.symm ne)]⟩
theorem Fr.new {x : Option Cell} : Fr s μ (μ ++ [x]) := ⟨by simp, fun n l ne => by rw [List.getElem?_append_left l]⟩
theorem Fr.put {k : Nat} {x : Option Cell} (h : Fr s μ μ') (l : μ.length ≤ k) : Fr s μ (μ'.set k x) := ⟨by rw [List.length_set]; exact h.len, fun n l2 ne => by rw [List.getElem?_set_ne (by omega)]; exact h.at_ n l2 ne⟩
theorem St.new {x : Option Cell} (h : St μ s c) : St (μ ++ [x]) s c := by
  have l := h.lt
  obtain ⟨a, b, z, e, h0, h1⟩ := h
  exact ⟨a, b, z, by rw [List.getElem?_append_left l]; exact e, h0, h1⟩
theorem St.put {k : Nat} {x : Option Cell} (h : St μ s c) (ne : k ≠ s) : St (μ.set k x) s c := by
  obtain ⟨a, b, z, e, h0, h1⟩ := h
  exact ⟨a, b, z, by rw [List.getElem?_set_ne ne]; exact e, h0, h1⟩
theorem begin_rp {cell turn : Int} (h0 : 0 ≤ turn) (h1 : turn < 1000) (k : ∀ x y : Int, Q (.own μ.length) (μ ++ [some (.lst [.int x, .int y, .int 0])])) : @Rp _ (m_begin [.int cell, .int turn] μ) Q X := by
  simp only [m_begin, b_begin, startD, rp_fn, rs_ret, rp_lst, rp_cons, rp_cb, rp_op, rp_var, rp_c, rp_nil, f_i2, f_i2c, f_max, f_addI, f_mulI, rp_newL]
  simp
  refine ⟨by unfold Cs.CPowW; decide +kernel, Cs.mulW_of (a := 10) (b := 10) (by decide) (by omega) (by decide) (by decide) (by decide), by decide, ?_⟩
  exact k _ _
theorem draw_rp {n : Int} (h : St μ s c) (hc : c < 1000000) (h0 : 0 < n) (h1 : n < 1073741824) (k : ∀ (r : Int) μ', 0 ≤ r → r < n → St μ' s (c + 1) → Fr s μ μ' → Q (.int r) μ') : @Rp _ (m_draw [.own s, .int n] μ) Q X := by
  have hl := h.lt
  obtain ⟨x, y, z, hs, z0, z1⟩ := h
  have set1 : ∀ v : Option Cell, (μ.set s v)[s]? = some v := fun v => by simp [hl]
  have hs2 := set1 (some (.lst [.int x, .int y, .int (z + 1)]))
  have f1 := Cs.fmod_lt (a := y) (b := 2147483629) (by decide)
  have f2 := Cs.fmod_lt (a := y) (b := 2147483587) (by decide)
  have hz2 : (z + 1).natAbs < 2 ^ 20 := by
    have : (2:Nat) ^ 20 = 1048576 := by decide
    omega
  have m1 : CMulW 104729 (z + 1) := Cs.mulW_of (a := 17) (b := 20) (by decide) hz2 (by decide) (by decide) (by decide)
  have m2 : CMulW 7919 (z + 1) := Cs.mulW_of (a := 13) (b := 20) (by decide) hz2 (by decide) (by decide) (by decide)
  have b2 : (7919 * (z + 1)).natAbs < 2 ^ 33 := wide_lt (a := 13) (b := 20) (by decide) hz2
  have m3 : CMulW (7919 * (z + 1)) (z + 1) := Cs.mulW_of (a := 33) (b := 20) b2 hz2 (by decide) (by decide) (by decide)
  have b3 : (7919 * (z + 1) * (z + 1)).natAbs < 2 ^ 53 := wide_lt (a := 33) (b := 20) b2 hz2
  have b1 : (104729 * (z + 1)).natAbs < 2 ^ 37 := wide_lt (a := 17) (b := 20) (by decide) hz2
  have e37 : (2:Nat) ^ 37 = 137438953472 := by decide
  have e53 : (2:Nat) ^ 53 = 9007199254740992 := by decide
  have u1 : (y.fmod 2147483629 + 104729 * (z + 1)).natAbs < 2 ^ 38 := by
    have e38 : (2:Nat) ^ 38 = 274877906944 := by decide
    omega
  have u2 : (y.fmod 2147483587 + 7919 * (z + 1) * (z + 1) + 11).natAbs < 2 ^ 54 := by
    have e54 : (2:Nat) ^ 54 = 18014398509481984 := by decide
    omega
  have m4 : CMulW (y.fmod 2147483629 + 104729 * (z + 1)) (y.fmod 2147483587 + 7919 * (z + 1) * (z + 1) + 11) := Cs.mulW_of (a := 38) (b := 54) u1 u2 (by decide) (by decide) (by decide)
  have u3 : ((y.fmod 2147483629 + 104729 * (z + 1)) * (y.fmod 2147483587 + 7919 * (z + 1) * (z + 1) + 11)).natAbs < 2 ^ 92 := wide_lt (a := 38) (b := 54) u1 u2
  have p1 : Cs.CPowW ((y.fmod 2147483629 + 104729 * (z + 1)) * (y.fmod 2147483587 + 7919 * (z + 1) * (z + 1) + 11)) 3 := by
    refine ⟨by decide, ?_⟩
    have l := PySem.Flt.log2_lt_of (by decide) u3
    have e27 : (2:Int) ^ 27 = 134217728 := by decide
    omega
  have d1 : CDivN x n := ⟨by omega, by omega⟩
  have d2 : ∀ v : Int, CDivN v 11 := fun v => ⟨by decide, by decide⟩
  have n0 : n ≠ 0 := by omega
  have e2 : ∀ v, [D.int x, D.int y, D.int z].set (Int.toNat 2) v = [D.int x, D.int y, v] := fun _ => rfl
  have S1 := seqL_own hs
  have S2 := seqL_own hs2
  simp only [m_draw, b_draw, startD, rp_fn, rs_ret, rs_seq, rs_if, rs_set, rs_asg, rs_next, rp_B, rp_op, rp_var, rp_c, f_i2, f_i2c, f_addI, f_mulI, rg_subL, f_ixL S1, ownL_own hs, List.map, List.length, List.replicate, List.cons_append, List.nil_append, List.getElem?_cons_zero, List.getElem?_cons_succ, List.set_cons_zero, List.set_cons_succ, atI_0, atI_1, atI_2, Nat.reduceAdd, Nat.reduceSub, Nat.sub_self, ixN_nat (n := 3) (i := 0) (by decide) (by decide), ixN_nat (n := 3) (i := 2) (by decide) (by decide), true_and]
  by_cases hx : 0 < x
  · simp only [hx, decide_true, if_true, n0, ne_eq, not_false_eq_true, true_and, d1]
    refine k _ _ (Cs.fmod_lt h0).1 (Cs.fmod_lt h0).2 ⟨_, y, z, set1 _, z0, by omega⟩ .set
  · simp only [hx, decide_false, Bool.false_eq_true, if_false, e2, f_ixL S2, atI_0, atI_1, atI_2, f_i2c, f_addI, f_mulI, ne_eq, m1, m2, m3, m4, p1, n0, d2, not_false_eq_true, true_and, List.getElem?_cons_zero, List.getElem?_cons_succ, List.set_cons_zero, List.set_cons_succ]
    refine ⟨by decide, by decide, by decide, ?_⟩
    exact k _ _ (Cs.fmod_lt h0).1 (Cs.fmod_lt h0).2 ⟨x, y, z + 1, hs2, by omega, by omega⟩ .set
theorem pick_rp {x : D} {xs : List D} (h : St μ s c) (hc : c < 1000000) (hx : ∀ μ', Fr s μ μ' → seqL μ' x = some xs) (h0 : 0 < xs.length) (h1 : xs.length < 1073741824) (k : ∀ d μ', d ∈ xs → St μ' s (c + 1) → Fr s μ μ' → Q d μ') : @Rp _ (m_pick [.own s, x] μ) Q X := by
  have e1 : ∀ Q, @Rp _ (fLen [x] μ) Q X = Q (.int xs.length) μ := fun Q => f_lenL (hx μ .refl)
  simp only [m_pick, b_pick, startD, rp_fn, rs_ret, rp_op, rp_var, rp_call, rp_cons, rp_nil, rp_cb, e1, List.map, List.length, List.replicate, List.cons_append, List.nil_append, List.getElem?_cons_zero, List.getElem?_cons_succ, Nat.reduceAdd, Nat.reduceSub, Nat.sub_self, true_and]
  refine draw_rp h hc (by omega) (by omega) fun r μ' r0 r1 st fr => ?_
  obtain ⟨d, e, hd⟩ := atI_nat (xs := xs) r0 r1
  rw [f_ixL (hx μ' fr), e]
  exact k d μ' hd st fr
theorem perm_pop {α : Type} {xs : List α} {i : Nat} {y : α} (h : xs[i]? = some y) : (y :: xs.eraseIdx i).Perm xs := by
  induction xs generalizing i with
  | nil => simp at h
  | cons a as ih =>
    cases i with
    | zero => cases Option.some.inj h; exact .refl _
    | succ i => exact (List.Perm.swap _ _ _).trans ((ih h).cons a)
theorem shuffled_rp {x : D} {xs : List D} (h : St μ s c) (hc : c + xs.length ≤ 1000000) (hx : seqL μ x = some xs) (k : ∀ ys μ', ys.Perm xs → St μ' s (c + xs.length) → Fr s μ μ' → Q (.lst ys) μ') : @Rp _ (m_shuffled [.own s, x] μ) Q X := by
  have hl := h.lt
  have zl : 1000000 < sizeLine := by decide
  simp only [m_shuffled, b_shuffled, startD, rp_fn, rs_seq, rs_par, rp_cons, rp_nil, rp_cb, rp_var, rp_lst, List.map, List.length, List.replicate, List.cons_append, List.nil_append, List.getElem?_cons_zero, List.getElem?_cons_succ, List.set_cons_zero, List.set_cons_succ, Nat.reduceAdd, Nat.reduceSub, Nat.sub_self, true_and, f_list hx, rp_newL, if_true, List.length_append]
  refine ⟨by omega, ?_⟩
  refine while_inv (fun m ρ μ' => ρ = [some (.own s), some x, some (.own μ.length), some (.own (μ.length + 1))] ∧ m ≤ xs.length ∧ St μ' s (c + (xs.length - m)) ∧ Fr s μ μ' ∧ μ.length + 2 ≤ μ'.length ∧
    ∃ l f : List D, l.length = m ∧ (f ++ l).Perm xs ∧ μ'[μ.length]? = some (some (.lst l)) ∧ μ'[μ.length + 1]? = some (some (.lst f))) xs.length ⟨rfl, Nat.le_refl _, (h.new.new).le (by omega), Fr.trans .new .new, by simp, xs, [], rfl, .refl _, by simp, by simp⟩ ?_
  rintro m ρ μ1 ⟨rfl, hm, st, fr, len, l, f, el, pm, e1, e2⟩
  have pl := pm.length_eq
  simp only [List.length_append] at pl
  simp only [rp_B, rp_op, rp_var, rp_lst, rp_nil, rp_newL, List.getElem?_cons_zero, List.getElem?_cons_succ, f_eqNil (seqL_own e1), List.length_nil, Nat.zero_le, true_and, if_false, Bool.false_eq_true, if_true]
  cases l with
  | nil =>
    simp only [List.isEmpty_nil, Bool.not_true, Bool.false_eq_true, if_false, rs_frz, List.getElem?_cons_zero, List.getElem?_cons_succ, e2, frzC, rs_ret, rp_var, List.set_cons_zero, List.set_cons_succ]
    refine ⟨by omega, ?_⟩
    subst el
    refine k _ _ (by simpa using pm) (st.put (by omega)) (fr.put (by omega))
  | cons a as =>
    subst el
    simp only [List.isEmpty_cons, Bool.not_false, if_true, rs_drop, rp_bm, rp_var, rp_call, rp_cons, rp_nil, rp_cb, List.getElem?_cons_zero, List.getElem?_cons_succ, tyM_ownL e1, tyM_ownL e2, f_lenL (seqL_own e1), true_and]
    refine ⟨as.length, rfl, ?_⟩
    simp only [List.length_cons] at hm pl
    refine draw_rp st (by simp only [List.length_cons]; omega) (by simp only [List.length_cons]; omega) (by simp only [List.length_cons]; omega) fun r μ2 r0 r1 st2 fr2 => ?_
    have g1 := (fr2.at_ _ (Nat.lt_of_lt_of_le (by omega) len) (by omega : μ.length ≠ s)).trans e1
    have g2 := (fr2.at_ (μ.length + 1) (by omega) (by omega)).trans e2
    refine f_pop g1 r0 r1 (by simp only [List.length_cons]; omega) fun y hy => ?_
    have g3 : (μ2.set μ.length (some (.lst ((a :: as).eraseIdx r.toNat))))[μ.length + 1]? = some (some (.lst f)) := by rw [List.getElem?_set_ne (by omega)]; exact g2
    have l2 := fr2.len
    rw [f_append g3]
    have ry : r.toNat < (a :: as).length := by simp only [List.length_cons] at r1 ⊢; omega
    have el : ((a :: as).eraseIdx r.toNat).length = as.length := by rw [List.length_eraseIdx, if_pos ry]; rfl
    refine ⟨by omega, by omega, ((st2.put (by omega)).put (by omega)).le (by simp only [List.length_cons]; omega), ((fr.trans fr2).put (by omega)).put (by omega), by simp only [List.length_set]; omega, _, f ++ [y], el, ?_, ?_, ?_⟩
    · rw [List.append_assoc]
      exact ((perm_pop hy).append_left f).trans pm
    · rw [List.getElem?_set_ne (by omega), List.getElem?_set_self (by omega)]
    · rw [List.getElem?_set_self (by simp only [List.length_set]; omega)]
end
end Pl
namespace Pl
open PySem PySem.Spec L2 Mi
noncomputable def b_is_name : MS := (mRet (mAndV (mUn (fIsS (.ty "str")) (mVar 0)) (mAndV (mChain fLt (fI2 fun i j => .bl (decide (i ≤ j))) (mC (.int 0)) (mCb fLen (mCons (mVar 0) mNil)) (mC (.int 6))) (mCb (fAll false) (mCons (mLc false (miAny (mVar 0)) (lgName 1) mYes (mChain fLeS fLeS (mC (.str "a")) (mVar 1) (mC (.str "z"))) [1]) mNil)))))
noncomputable def m_is_name : List D → Store → Res D := mFn 2 1 b_is_name
def dat : D → Bool
  | .non => true
  | .bl _ => true
  | .int _ => true
  | .str _ => true
  | .lst _ => true
  | .tup _ => true
  | .dct _ _ => true
  | _ => false
def isBlD : D → Bool
  | .bl _ => true
  | _ => false
def isStrD : D → Bool
  | .str _ => true
  | _ => false
section
variable {Q : D → Store → Prop} {X : Exc → Store → Prop} {P : Post} {ρ : Mi.Env} {μ μ' μ'' : Store} {s c n : Nat} {d : D}
theorem is_bl (h : dat d = true) : fIsS (.ty "bool") d μ = .ok (.bl (isBlD d)) μ := by cases d <;> first | rfl | cases h
theorem is_str (h : dat d = true) : fIsS (.ty "str") d μ = .ok (.bl (isStrD d)) μ := by cases d <;> first | rfl | cases h
theorem ok_of {α : Type} {r : Res α} {a : α} (h : @Rp _ r (fun b μ' => b = a ∧ μ' = μ) fun _ _ => False) : r = .ok a μ := by
  obtain ⟨b, μ', e, rfl, rfl⟩ := rp_get h
  exact e
theorem f_ltI {i j : Int} : @Rp _ (fLt (.int i) (.int j) μ) Q X = Q (.bl (decide (i < j))) μ := by
  have e : fLt (.int i) (.int j) μ = .ok (.bl (decide (i < j))) μ := by
    unfold fLt
    rw [show D.view μ (.int i) = some (.int i) from rfl, show D.view μ (.int j) = some (.int j) from rfl]
    dsimp only
    rw [if_pos (by refine ⟨rfl, rfl, rfl, ?_, ?_⟩; exact (fun z => by cases z); exact Nat.zero_le _)]
    rw [PySem.W.dataLt_int]
  rw [e]; rfl
theorem allB_map : ∀ bs : List Bool, allB (bs.map D.bl) = some bs
  | [] => rfl
  | b :: bs => by show (allB (bs.map D.bl)).map _ = _; rw [allB_map bs]; rfl
theorem f_all {bs : List Bool} : @Rp _ (fAll false [.lst (bs.map D.bl)] μ) Q X = Q (.bl (bs.all id)) μ := by
  unfold fAll
  simp [allB_map]
theorem f_any {bs : List Bool} : @Rp _ (fAll true [.lst (bs.map D.bl)] μ) Q X = Q (.bl (bs.any id)) μ := by
  unfold fAll
  simp [allB_map]
theorem chars_len {z : Str} : (chars z).length = z.length := by unfold chars; rw [List.length_map]; rfl
@[simp] theorem any_str {z : Str} : anyItems μ (.str z) = some (chars z, []) := rfl
@[simp] theorem any_lst {ds : List D} : anyItems μ (.lst ds) = some (ds, []) := rfl
@[simp] theorem any_tup {ds : List D} : anyItems μ (.tup ds) = some (ds, []) := rfl
theorem any_own {k : Nat} {ds : List D} (h : μ[k]? = some (some (.lst ds))) : anyItems μ (.own k) = some (ds, [k]) := by
  unfold anyItems
  rw [seqL_own h]; rfl
def lowC (c : Nat) : Bool := decide (97 ≤ c) && decide (c ≤ 122)
def lowD : D → Bool
  | .str z => z.cps.toList.all lowC
  | _ => false
def isName : D → Bool
  | .str z => Cs.isNameS z
  | _ => false
@[simp] theorem f_leS {i j : Str} : @Rp _ (fLeS (.str i) (.str j) μ) Q X = Q (.bl (!decide (j.cps.toList < i.cps.toList))) μ := rfl
theorem lt_one (a b : Nat) : ([a] < [b]) ↔ a < b := by
  show List.Lex (· < ·) [a] [b] ↔ _
  constructor
  · intro h
    cases h with
    | rel h => exact h
    | cons h => cases h
  · exact .rel
theorem chars_map {z : Str} (f : D → D) (g : Nat → D) (h : ∀ k, f (.str ⟨#[k]⟩) = g k) : (chars z).map f = z.cps.toList.map g := by
  unfold chars
  rw [List.map_map]
  exact List.map_congr_left fun k _ => h k
theorem low_le {k : Nat} : (!decide ([k] < (Str.cps "a").toList)) = decide (97 ≤ k) ∧ (!decide ((Str.cps "z").toList < [k])) = decide (k ≤ 122) := by
  have e1 : (Str.cps "a").toList = [97] := by decide +kernel
  have e2 : (Str.cps "z").toList = [122] := by decide +kernel
  rw [e1, e2]
  simp only [lt_one]
  constructor
  · by_cases h : 97 ≤ k <;> simp [h]
    omega
  · by_cases h : k ≤ 122 <;> simp [h]
    omega
theorem lowD_one {k : Nat} : lowD (.str ⟨#[k]⟩) = lowC k := by simp [lowD]
def fitS : D → Prop
  | .str z => z.length ≤ sizeLine
  | _ => True
theorem name_eq (h : dat d = true) (hf : fitS d) : m_is_name [d] μ = .ok (.bl (isName d)) μ := ok_of (by
  have e1 := is_str (μ := μ) h
  simp [m_is_name, b_is_name, startD, e1]
  cases d with
  | str z =>
    have hz : z.length ≤ sizeLine := hf
    simp only [isStrD, f_lenStr hz, f_ltI]
    by_cases h0 : 0 < z.length
    · have h0' : (0 : Int) < z.length := by omega
      by_cases h6 : z.length ≤ 6
      · have h6' : (z.length : Int) ≤ 6 := by omega
        simp only [h0', h6', decide_true, f_i2, any_str]
        rw [lc_pure (fun _ => true) (fun d => .bl (lowD d)) (by rw [chars_len]; exact hz) fun d hd => ?_]
        · rw [rp_ok, List.filter_eq_self.mpr (fun _ _ => rfl), chars_map (fun d => D.bl (lowD d)) (fun k => D.bl (lowC k)) fun k => by rw [lowD_one], show (z.cps.toList.map fun k => D.bl (lowC k)) = (z.cps.toList.map lowC).map D.bl by rw [List.map_map]; rfl]
          simp only [rp_newL, Bool.false_eq_true, if_false, f_all, isName, Cs.isNameS, h0, h6, decide_true, Bool.true_and, Cs.isWord, List.all_map, and_true]
          rfl
        · obtain ⟨k, hk, rfl⟩ := List.mem_map.mp hd
          refine ⟨_, rfl, rfl, fun _ => ok_of ?_⟩
          simp [lgName, wipeD]
          have q := (low_le (k := k)).2
          rw [low_le.1, lowD_one]
          by_cases h97 : 97 ≤ k
          · simp only [h97, decide_true, lowC, Bool.true_and]
            rw [← q, Bool.not_not]
          · simp [h97, lowC]
      · have h6' : ¬ (z.length : Int) ≤ 6 := by omega
        simp [h0', h6', h0, h6, isName, Cs.isNameS]
    · have h0' : ¬ (0 : Int) < z.length := by omega
      simp [h0, h0', isName, Cs.isNameS]
  | _ => simp [isStrD, isName])
end
end Pl
namespace Pl
open PySem PySem.Spec L2 Mi
def leS (a b : Str) : Bool := !PySem.Spec.ltCps b.cps.toList a.cps.toList
theorem leS_iff {a b : Str} : leS a b = true ↔ a.cps.toList ≤ b.cps.toList := by
  unfold leS
  rw [PyProof.Rows.ltCps_eq]
  show (!decide (b.cps.toList < a.cps.toList)) = true ↔ ¬ (b.cps.toList < a.cps.toList)
  simp
theorem sortS_of (ss : List Str) : Cs.SortOf ss (sortS ss) := by
  have ex : ∃ ys, Cs.SortOf ss ys := by
    refine ⟨ss.mergeSort leS, List.mergeSort_perm ss leS, PyProof.Rows.sortedS_of_pairwise _ ?_⟩
    have p := List.pairwise_mergeSort (le := leS) (fun a b c h1 h2 => leS_iff.mpr (List.le_trans (leS_iff.mp h1) (leS_iff.mp h2))) (fun a b => by
      rw [Bool.or_eq_true, leS_iff, leS_iff]
      exact List.le_total _ _) ss
    refine p.imp fun {a b} h => ?_
    unfold leS at h
    simpa using h
  obtain ⟨ys, h⟩ := ex
  rw [sortS_eq h]
  exact h
theorem sortS_perm {ss : List Str} : (sortS ss).Perm ss := (sortS_of ss).1
section
variable {Q : D → Store → Prop} {X : Exc → Store → Prop} {P : Post} {ρ : Mi.Env} {μ μ' μ0 : Store} {s c n : Nat} {d : D} {L : List Key × List D → Store → Prop}
@[simp] theorem rp_dc {b : Bool} {i : MI} {g : D → Mi.Env → Option Mi.Env} {t : MT} {ek ev : ME} {vs : List Nat} : @Rp _ (mDc b i g t ek ev vs ρ μ) Q X = @Rp _ (i ρ μ) (fun s μ => @Rp _ (dcA s.w μ g t ek ev (wipeD ρ vs) s.items [] [] μ) (fun p μ => @Rp _ (newK b p.1 p.2 μ) Q X) X) X := by
  unfold mDc; simp only [rp_bind]
theorem putKK_new {ks : List Key} {k : Key} (h : k ∉ ks) : putKK ks k = ks ++ [k] := by unfold putKK; rw [if_neg h]
theorem putKV_new {α : Type} {ks : List Key} {k : Key} {z : α} {ds : List α} (h : k ∉ ks) (hl : ks.length = ds.length) : putKV k z ks ds = ds ++ [z] := by
  induction ks generalizing ds with
  | nil => cases ds <;> simp [putKV] at hl ⊢
  | cons a as ih =>
    cases ds with
    | nil => simp at hl
    | cons e es =>
      unfold putKV
      have h1 : a ≠ k := fun q => h (q ▸ List.mem_cons_self)
      rw [if_neg h1, ih (fun q => h (List.mem_cons_of_mem _ q)) (by simpa using hl)]
      rfl
theorem watch_rfl {w : List Nat} : watch w μ μ := fun _ _ => rfl
theorem strsD_map : ∀ ss : List Str, strsD (ss.map D.str) = some ss
  | [] => rfl
  | s :: ss => by show (strsD (ss.map D.str)).map _ = _; rw [strsD_map ss]; rfl
theorem f_sortL {b : Bool} {x : D} {ss : List Str} (h1 : seqL μ x = some (ss.map D.str)) (hl : ss.length < 64) : @Rp _ (fSorted b [x] μ) Q X = @Rp _ (newL b ((sortS ss).map D.str) μ) Q X := by
  unfold fSorted
  simp [h1, strsD_map, hl]
end
end Pl
namespace Pl
open PySem PySem.Spec L2 Mi
def keyGd : Key → Bool
  | .inr z => decide (z.length ≤ 20) && PyData.strOk z
  | .inl _ => false
mutual
def gd : D → Bool
  | .non => true
  | .bl _ => true
  | .int i => decide (i.natAbs < 1000000)
  | .str z => keyGd (.inr z)
  | .lst ds => gds ds
  | .tup ds => gds ds
  | .dct ks ds => decide (ks.length = ds.length) && decide (ks.length ≤ 3) && decide ks.Nodup && ks.all keyGd && gds ds
  | _ => false
def gds : List D → Bool
  | [] => true
  | d :: ds => gd d && gds ds
end
mutual
def wt : D → Nat
  | .lst ds => wts ds
  | .tup ds => wts ds
  | .dct _ ds => wts ds + 22 * ds.length
  | _ => 20
def wts : List D → Nat
  | [] => 0
  | d :: ds => wt d + 1 + wts ds
end
mutual
def nest : D → Nat
  | .lst ds => nests ds + 1
  | .tup ds => nests ds + 1
  | .dct _ ds => nests ds + 1
  | _ => 0
def nests : List D → Nat
  | [] => 0
  | d :: ds => max (nest d) (nests ds)
end
structure Shows (d : D) (p : PyData) : Prop where
  s : p.showable = true
  l : PyData.leavesShort 60 p = true
  w : p.weight ≤ wt d
  n : p.depth ≤ nest d
inductive ShA : List D → List PyData → Prop
  | nil : ShA [] []
  | cons {d : D} {p : PyData} {ds : List D} {ps : List PyData} : Shows d p → ShA ds ps → ShA (d :: ds) (p :: ps)
theorem ShA.all : ∀ {ds : List D} {ps : List PyData}, ShA ds ps → PyData.showableAll ps = true ∧ PyData.leavesShortAll 60 ps = true ∧ PyData.weightAll ps ≤ wts ds ∧ PyData.depthAll ps ≤ nests ds
  | _, _, .nil => by simp [PyData.showableAll, PyData.leavesShortAll, PyData.weightAll, PyData.depthAll]
  | _, _, .cons h t => by
    obtain ⟨a, b, c, e⟩ := t.all
    have hw := h.w
    have hn := h.n
    refine ⟨by simp only [PyData.showableAll, h.s, a, Bool.and_self], by simp only [PyData.leavesShortAll, h.l, b, Bool.and_self], ?_, ?_⟩
    · simp only [PyData.weightAll, wts]; omega
    · simp only [PyData.depthAll, nests]; omega
theorem shows_key {k : Key} (h : keyGd k = true) : (Cs.keyD k).showable = true ∧ PyData.leavesShort 60 (Cs.keyD k) = true ∧ (Cs.keyD k).weight ≤ 20 ∧ (Cs.keyD k).depth = 0 := by
  cases k with
  | inl i => cases h
  | inr z =>
    unfold keyGd at h
    rw [Bool.and_eq_true, decide_eq_true_eq] at h
    refine ⟨rfl, ?_, h.1, rfl⟩
    rw [Cs.keyD, PyData.leavesShort, List.all_eq_true]
    intro c hc
    have q := h.2
    unfold PyData.strOk at q
    rw [Array.all_eq_true'] at q
    have q2 := q c (by simpa using hc)
    exact decide_eq_true (Nat.lt_trans (of_decide_eq_true q2) (by decide))
theorem ShA.kv : ∀ {ks : List Key} {ds : List D} {ps : List PyData}, ks.length = ds.length → ks.all keyGd = true → ShA ds ps →
    PyData.showableKv (Cs.dctD ks ps) = true ∧ PyData.leavesShortKv 60 (Cs.dctD ks ps) = true ∧ PyData.weightKv (Cs.dctD ks ps) ≤ wts ds + 22 * ds.length ∧ PyData.depthKv (Cs.dctD ks ps) ≤ nests ds
  | [], ds, ps, hl, _, _ => by
    refine ⟨by simp [Cs.dctD, PyData.showableKv], by simp [Cs.dctD, PyData.leavesShortKv], by simp [Cs.dctD, PyData.weightKv], by simp [Cs.dctD, PyData.depthKv]⟩
  | k :: ks, [], ps, hl, _, _ => by simp at hl
  | k :: ks, d :: ds, _, hl, hk, .cons (p := p) (ps := ps) h t => by
    rw [List.all_cons, Bool.and_eq_true] at hk
    obtain ⟨a, b, c, e⟩ := ShA.kv (by simpa using hl) hk.2 t
    obtain ⟨a2, b2, c2, e2⟩ := shows_key hk.1
    have hw := h.w
    have hn := h.n
    have ed : Cs.dctD (k :: ks) (p :: ps) = (Cs.keyD k, p) :: Cs.dctD ks ps := rfl
    rw [ed]
    refine ⟨by simp only [PyData.showableKv, h.s, a, a2, Bool.and_self], by simp only [PyData.leavesShortKv, h.l, b, b2, Bool.and_self], ?_, ?_⟩
    · simp only [PyData.weightKv, wts, List.length_cons]; omega
    · simp only [PyData.depthKv, nests, e2]; omega
theorem shows_int {i : Int} (h : i.natAbs < 1000000) : Shows (.int i) (.int i) := by
  have hl : i.natAbs.log2 < 20 := by
    by_cases c : i.natAbs = 0
    · rw [c]; decide
    · exact (Nat.log2_lt c).mpr (Nat.lt_of_lt_of_le h (by decide))
  refine ⟨by simp only [PyData.showable]; exact decide_eq_true (by omega), ?_, ?_, by rw [PyData.depth]; exact Nat.zero_le _⟩
  · simp only [PyData.leavesShort]
    exact decide_eq_true (Nat.le_trans (PyData.shown_int_le (Nat.lt_trans h (by decide))) (by decide))
  · simp only [PyData.weight, wt]
    split <;> omega
mutual
theorem gd_shows : ∀ {d : D}, gd d = true → ∃ p, (∀ f, d.pdW f = some p) ∧ Shows d p
  | .non, _ => ⟨.none, fun _ => rfl, rfl, rfl, Nat.zero_le _, Nat.le_refl _⟩
  | .bl b, _ => ⟨.bool b, fun _ => rfl, rfl, rfl, Nat.zero_le _, Nat.le_refl _⟩
  | .int i, h => ⟨.int i, fun _ => rfl, shows_int (by unfold gd at h; exact of_decide_eq_true h)⟩
  | .str z, h => by
    unfold gd at h
    obtain ⟨a, b, c, e⟩ := shows_key h
    exact ⟨.str z, fun _ => rfl, a, b, c, Nat.le_of_eq e⟩
  | .lst ds, h => by
    unfold gd at h
    obtain ⟨ps, e, k⟩ := gds_shows h
    obtain ⟨a, b, c, n⟩ := k.all
    refine ⟨.list ps, fun f => by unfold D.pdW; rw [e f]; rfl, by simpa [PyData.showable] using a, by simpa [PyData.leavesShort] using b, by simpa [PyData.weight, wt] using c, by simpa [PyData.depth, nest] using n⟩
  | .tup ds, h => by
    unfold gd at h
    obtain ⟨ps, e, k⟩ := gds_shows h
    obtain ⟨a, b, c, n⟩ := k.all
    refine ⟨.tuple ps, fun f => by unfold D.pdW; rw [e f]; rfl, by simpa [PyData.showable] using a, by simpa [PyData.leavesShort] using b, by simpa [PyData.weight, wt] using c, by simpa [PyData.depth, nest] using n⟩
  | .dct ks ds, h => by
    unfold gd at h
    simp only [Bool.and_eq_true, decide_eq_true_eq] at h
    obtain ⟨ps, e, k⟩ := gds_shows h.2
    obtain ⟨a, b, c, n⟩ := k.kv h.1.1.1.1 h.1.2
    refine ⟨.dict (Cs.dctD ks ps), fun f => by unfold D.pdW; rw [e f]; rfl, by simpa [PyData.showable] using a, by simpa [PyData.leavesShort] using b, by simpa [PyData.weight, wt] using c, by simpa [PyData.depth, nest] using n⟩
theorem gds_shows : ∀ {ds : List D}, gds ds = true → ∃ ps, (∀ f, pdsW f ds = some ps) ∧ ShA ds ps
  | [], _ => ⟨[], fun _ => rfl, .nil⟩
  | d :: ds, h => by
    unfold gds at h
    rw [Bool.and_eq_true] at h
    obtain ⟨p, e1, h1⟩ := gd_shows h.1
    obtain ⟨ps, e2, h2⟩ := gds_shows h.2
    exact ⟨p :: ps, fun f => by unfold pdsW; rw [e1 f, e2 f], .cons h1 h2⟩
end
section
variable {Q : D → Store → Prop} {X : Exc → Store → Prop} {μ : Store} {d : D}
end
end Pl
namespace Pl
open PySem PySem.Spec L2 Mi
section
variable {Q : D → Store → Prop} {X : Exc → Store → Prop} {μ : Store} {d : D}
@[simp] theorem f_eqSS {neg : Bool} {a b : Str} : @Rp _ (fEq neg (.str a) (.str b) μ) Q X = Q (.bl (if neg = true then !(a == b) else a == b)) μ := rfl
@[simp] theorem f_eqI {neg : Bool} {a b : Int} : @Rp _ (fEq neg (.int a) (.int b) μ) Q X = Q (.bl (if neg = true then !(a == b) else a == b)) μ := by
  have e : fEq neg (.int a) (.int b) μ = .ok (.bl (if neg = true then !(a == b) else a == b)) μ := by
    unfold fEq eqOne eqView
    rw [show D.view μ (.int a) = some (.int a) from rfl, show D.view μ (.int b) = some (.int b) from rfl]
    have sh : ∀ z : Int, SeqAt.shaped (.int z) = true := fun z => by
      unfold SeqAt.shaped PyData.canLay0
      rfl
    simp only [seqL_int, sh a, sh b, and_self, if_true, PyData.eqv]
  rw [e]; rfl
@[simp] theorem f_eqB {neg : Bool} {a b : Bool} : @Rp _ (fEq neg (.bl a) (.bl b) μ) Q X = Q (.bl (if neg = true then !(a == b) else a == b)) μ := by
  cases a <;> cases b <;> cases neg <;> rfl
theorem f_inT {neg : Bool} {x : D} {xs : List D} (hs : ∀ z, x = .str z → True) (hx : flatD x = true) (h : xs.all flatD = true) : @Rp _ (fIn neg x (.tup xs) μ) Q X = Q (.bl (if neg = true then !inF x xs else inF x xs)) μ := by
  have e : fIn neg x (.tup xs) μ = .ok (.bl (if neg = true then !inF x xs else inF x xs)) μ := by
    unfold fIn
    split
    · rename_i e1; cases e1
    · simp only [seqL_tup, seqT_tup, hx, h, and_self, if_true]
  rw [e]; rfl
theorem f_inL {neg : Bool} {x y : D} {xs : List D} (hy : seqL μ y = some xs) (hx : flatD x = true) (h : xs.all flatD = true) : @Rp _ (fIn neg x y μ) Q X = Q (.bl (if neg = true then !inF x xs else inF x xs)) μ := by
  have e : fIn neg x y μ = .ok (.bl (if neg = true then !inF x xs else inF x xs)) μ := by
    unfold fIn
    split
    · cases hy
    · simp only [hy, hx, h, and_self, if_true]
  rw [e]; rfl
@[simp] theorem f_isN {neg : Bool} : @Rp _ (fIsN neg d .non μ) Q X = Q (.bl (if neg = true then !isNonD d else isNonD d)) μ := rfl
@[simp] theorem inF_nil {x : D} : inF x [] = false := rfl
@[simp] theorem inF_cons {x y : D} {ys : List D} : inF x (y :: ys) = (eqF y x || inF x ys) := rfl
@[simp] theorem eqF_str {a b : Str} : eqF (.str a) (.str b) = (a == b) := rfl
@[simp] theorem eqF_int {a b : Int} : eqF (.int a) (.int b) = (a == b) := rfl
@[simp] theorem f_inTS {neg : Bool} {w a b : Str} : @Rp _ (fIn neg (.str w) (.tup [.str a, .str b]) μ) Q X = Q (.bl (if neg = true then !(a == w || b == w) else (a == w || b == w))) μ := by
  rw [f_inT (fun _ _ => trivial) rfl rfl]
  simp
@[simp] theorem f_inLS {neg : Bool} {w a b : Str} : @Rp _ (fIn neg (.str w) (.lst [.str a, .str b]) μ) Q X = Q (.bl (if neg = true then !(a == w || b == w) else (a == w || b == w))) μ := by
  rw [f_inL rfl rfl rfl]
  simp
end
def enumF : Nat → List D → List D
  | _, [] => []
  | i, d :: ds => .tup [.int (i : Nat), d] :: enumF (i + 1) ds
theorem enumF_get : ∀ (i j : Nat) (ds : List D), (enumF i ds)[j]? = (ds[j]?).map fun d => .tup [.int ((i + j : Nat) : Int), d]
  | _, _, [] => by simp [enumF]
  | i, 0, d :: ds => rfl
  | i, j + 1, d :: ds => by
    rw [enumF, List.getElem?_cons_succ, enumF_get (i + 1) j ds, List.getElem?_cons_succ, show i + 1 + j = i + (j + 1) by omega]
theorem enumD_eq {ds : List D} : enumD ds = enumF 0 ds := by
  refine List.ext_getElem? fun j => ?_
  rw [enumF_get, Nat.zero_add]
  unfold enumD
  rw [List.getElem?_map]
  by_cases h : j < ds.length
  · rw [List.getElem?_range h, List.getElem?_eq_getElem h]
    simp [List.getD, h]
  · rw [List.getElem?_eq_none (by simp; omega), List.getElem?_eq_none (by omega)]
    rfl
section
variable {P : Post} {ρ : Mi.Env} {μ μ0 : Store} {n : Nat}
theorem enum_go {g : MG} {body : MS} {w : List Nat} (I : List D → Mi.Env → Store → Prop) (all : List D) (hw : ∀ pre ρ μ, I pre ρ μ → watch w μ0 μ)
    (step : ∀ pre d post ρ μ, all = pre ++ d :: post → I pre ρ μ → @Rp _ (g (.tup [.int pre.length, d]) ρ μ) (fun ρ μ => @RpS (body n ρ μ) ⟨I (pre ++ [d]), P.R, P.N, I (pre ++ [d]), P.X⟩) P.X) (fin : ∀ ρ μ, I all ρ μ → P.N ρ μ) :
    ∀ (ds pre : List D) (ρ : Mi.Env) (μ : Store), all = pre ++ ds → I pre ρ μ → @RpS (forS w μ0 g body n (enumF pre.length ds) ρ μ) P
  | [], pre, ρ, μ, e, h => by
    unfold enumF forS
    rw [if_pos (hw _ _ _ h)]
    rw [List.append_nil] at e
    exact fin ρ μ (e ▸ h)
  | d :: ds, pre, ρ, μ, e, h => by
    unfold enumF forS
    rw [if_pos (hw _ _ _ h)]
    have s := step pre d ds ρ μ e h
    have e' : all = (pre ++ [d]) ++ ds := by rw [e]; simp
    have el : pre.length + 1 = (pre ++ [d]).length := by simp
    cases eg : g (.tup [.int pre.length, d]) ρ μ with
    | bad => rw [eg] at s; exact s
    | exc x μ1 => rw [eg] at s; exact s
    | ok ρ1 μ1 =>
      rw [eg] at s
      dsimp only
      cases eb : body n ρ1 μ1 with
      | nx ρ2 μ2 => rw [rp_ok, eb] at s; dsimp only; rw [el]; exact enum_go I all hw step fin ds _ ρ2 μ2 e' s
      | ct ρ2 μ2 => rw [rp_ok, eb] at s; dsimp only; rw [el]; exact enum_go I all hw step fin ds _ ρ2 μ2 e' s
      | bk ρ2 μ2 => rw [rp_ok, eb] at s; exact s
      | rt d2 μ2 => rw [rp_ok, eb] at s; exact s
      | exc x μ2 => rw [rp_ok, eb] at s; exact s
      | bad => rw [rp_ok, eb] at s; exact s
theorem enum_inv {g : MG} {body : MS} {w : List Nat} {ds : List D} (I : List D → Mi.Env → Store → Prop) (h0 : I [] ρ μ) (hw : ∀ pre ρ μ, I pre ρ μ → watch w μ0 μ)
    (step : ∀ pre d post ρ μ, ds = pre ++ d :: post → I pre ρ μ → @Rp _ (g (.tup [.int pre.length, d]) ρ μ) (fun ρ μ => @RpS (body n ρ μ) ⟨I (pre ++ [d]), P.R, P.N, I (pre ++ [d]), P.X⟩) P.X) (fin : ∀ ρ μ, I ds ρ μ → P.N ρ μ) :
    @RpS (forS w μ0 g body n (enumD ds) ρ μ) P := by
  rw [enumD_eq]
  exact enum_go I ds hw step fin ds [] ρ μ rfl h0
def Ext (μ μ' : Store) : Prop := ∃ t, μ' = μ ++ t
theorem Ext.refl : Ext μ μ := ⟨[], by simp⟩
theorem Ext.trans {μ' μ'' : Store} (h : Ext μ μ') (k : Ext μ' μ'') : Ext μ μ'' := by
  obtain ⟨t, rfl⟩ := h
  obtain ⟨u, rfl⟩ := k
  exact ⟨t ++ u, by simp⟩
theorem Ext.new {x : Option Cell} : Ext μ (μ ++ [x]) := ⟨[x], rfl⟩
theorem Ext.at_ {μ' : Store} (h : Ext μ μ') {k : Nat} {x : Option Cell} (e : μ[k]? = some x) : μ'[k]? = some x := by
  obtain ⟨t, rfl⟩ := h
  rw [List.getElem?_append_left (List.getElem?_eq_some_iff.mp e).1]
  exact e
theorem Ext.put {μ' : Store} (h : Ext μ μ') {k : Nat} {x : Option Cell} (l : μ.length ≤ k) : Ext μ (μ'.set k x) := by
  obtain ⟨t, rfl⟩ := h
  exact ⟨t.set (k - μ.length) x, by rw [List.set_append_right _ _ l]⟩
theorem Ext.len {μ' : Store} (h : Ext μ μ') : μ.length ≤ μ'.length := by
  obtain ⟨t, rfl⟩ := h
  simp
end
end Pl
namespace Pl
open PySem PySem.Spec L2 Mi
section
variable {α : Type} {P : Post} {ρ : Mi.Env} {μ μ0 : Store} {n : Nat}
theorem for_map {g : MG} {body : MS} {w : List Nat} {l : List α} (f : α → D) (I : List α → Mi.Env → Store → Prop) (h0 : I [] ρ μ) (hw : ∀ pre ρ μ, I pre ρ μ → watch w μ0 μ)
    (step : ∀ pre a post ρ μ, l = pre ++ a :: post → I pre ρ μ → @Rp _ (g (f a) ρ μ) (fun ρ μ => @RpS (body n ρ μ) ⟨I (pre ++ [a]), P.R, P.N, I (pre ++ [a]), P.X⟩) P.X) (fin : ∀ ρ μ, I l ρ μ → P.N ρ μ) :
    @RpS (forS w μ0 g body n (l.map f) ρ μ) P := by
  have go : ∀ (r pre : List α) (ρ : Mi.Env) (μ : Store), l = pre ++ r → I pre ρ μ → @RpS (forS w μ0 g body n (r.map f) ρ μ) P := by
    intro r
    induction r with
    | nil =>
      intro pre ρ μ e h
      rw [List.map_nil]
      unfold forS
      rw [if_pos (hw _ _ _ h)]
      rw [List.append_nil] at e
      exact fin ρ μ (e ▸ h)
    | cons a r ih =>
      intro pre ρ μ e h
      rw [List.map_cons]
      unfold forS
      rw [if_pos (hw _ _ _ h)]
      have s := step pre a r ρ μ e h
      have e' : l = (pre ++ [a]) ++ r := by rw [e]; simp
      cases eg : g (f a) ρ μ with
      | bad => rw [eg] at s; exact s
      | exc x μ1 => rw [eg] at s; exact s
      | ok ρ1 μ1 =>
        rw [eg] at s
        dsimp only
        cases eb : body n ρ1 μ1 with
        | nx ρ2 μ2 => rw [rp_ok, eb] at s; exact ih _ ρ2 μ2 e' s
        | ct ρ2 μ2 => rw [rp_ok, eb] at s; exact ih _ ρ2 μ2 e' s
        | bk ρ2 μ2 => rw [rp_ok, eb] at s; exact s
        | rt d2 μ2 => rw [rp_ok, eb] at s; exact s
        | exc x μ2 => rw [rp_ok, eb] at s; exact s
        | bad => rw [rp_ok, eb] at s; exact s
  exact go l [] ρ μ rfl h0
theorem inF_strs {z : Str} : ∀ {s : List Str}, inF (.str z) (s.map D.str) = decide (z ∈ s)
  | [] => by simp
  | a :: s => by
    rw [List.map_cons, inF_cons, inF_strs, eqF_str, Bool.eq_iff_iff]
    simp only [Bool.or_eq_true, beq_iff_eq, decide_eq_true_eq, List.mem_cons]
    constructor
    · rintro (q | q)
      · exact .inl q.symm
      · exact .inr q
    · rintro (q | q)
      · exact .inl q.symm
      · exact .inr q
theorem strs_flat : ∀ {s : List Str}, (s.map D.str).all flatD = true
  | [] => rfl
  | _ :: s => by rw [List.map_cons, List.all_cons, strs_flat]; rfl
end
end Pl
namespace Pl
open PySem PySem.Spec L2 Mi
section
variable {α : Type} {Q : D → Store → Prop} {X : Exc → Store → Prop} {P : Post} {ρ : Mi.Env} {μ μ0 : Store} {n : Nat} {G : Mi.Env → Store → Prop}
@[simp] theorem rs_putF {cs : List String} {f : Str} {o a : ME} : @RpS (mPutF cs f o a n ρ μ) P = @Rp _ (a ρ μ) (fun z μ => @Rp _ (o ρ μ) (fun x μ => match ownO μ x with
  | some (k, C, ks, ds) => (cs.contains C = true ∧ ks.length < 1000) ∧ P.N ρ (μ.set k (some (.obj C (putFK f ks) (putFV f z ks ds))))
  | none => False) P.X) P.X := by
  unfold mPutF
  rw [rs_st]; congr 1; funext z μ; rw [rs_st]; congr 1; funext x μ
  cases ownO μ x with
  | none => rfl
  | some p =>
    obtain ⟨k, C, ks, ds⟩ := p
    dsimp only
    by_cases h : cs.contains C = true ∧ ks.length < 1000
    · rw [if_pos h]; simp only [rs_nx, h, true_and, and_self]
    · rw [if_neg h]; exact propext ⟨False.elim, fun z => h z.1⟩
theorem ownO_own {k : Nat} {C : String} {ks : List Str} {ds : List D} (h : μ[k]? = some (some (.obj C ks ds))) : ownO μ (.own k) = some (k, C, ks, ds) := by unfold ownO; simp [h]
theorem objOf_own {k : Nat} {C : String} {ks : List Str} {ds : List D} (h : μ[k]? = some (some (.obj C ks ds))) : objOf μ (.own k) = some (C, ks, ds) := by unfold objOf; simp [h]
@[simp] theorem objOf_obj {C : String} {ks : List Str} {ds : List D} : objOf μ (.obj C ks ds) = some (C, ks, ds) := rfl
theorem rp_mkObj {C : String} {m : List D → Store → Res D} {ds : List D} (h : @Rp _ (m (.own μ.length :: ds) (μ ++ [some (.obj C [] [])])) (fun d μ' => d = .non ∧ ∃ x d', μ'[μ.length]? = some (some x) ∧ frzC x = some d' ∧ Q d' (μ'.set μ.length none)) X) : @Rp _ (mkObj true C m ds μ) Q X := by
  unfold mkObj
  cases e : m (.own μ.length :: ds) (μ ++ [some (.obj C [] [])]) with
  | bad => rw [e] at h; exact h
  | exc x μ' => rw [e] at h; exact h
  | ok d μ' =>
    rw [e] at h
    obtain ⟨rfl, x, d', h1, h2, h3⟩ := h
    dsimp only
    rw [if_pos rfl, h1]
    dsimp only
    rw [h2]
    exact h3
@[simp] theorem rp_make {z : Bool} {C : String} {m : List D → Store → Res D} {a : MA} : @Rp _ (mMake z C m a ρ μ) Q X = @Rp _ (a ρ μ) (fun ds μ => @Rp _ (mkObj z C m ds μ) Q X) X := by simp [mMake]
@[simp] theorem rp_cmeth {C : String} {m : List D → Store → Res D} {a : MA} : @Rp _ (mCMeth C m a ρ μ) Q X = @Rp _ (a ρ μ) (fun ds μ => @Rp _ (m (.cls C :: ds) μ) Q X) X := by simp [mCMeth]
@[simp] theorem rp_initSK {m : List D → Store → Res D} {x : D} {rest : List D} : @Rp _ (mInitSK m (x :: rest) μ) Q X = (rest.length ≤ sizeLine ∧ @Rp _ (m [x, .tup rest, .dct [] []] μ) Q X) := by
  unfold mInitSK; dsimp only; by_cases h : rest.length ≤ sizeLine <;> simp [h]
@[simp] theorem rp_initS {m : List D → Store → Res D} {x : D} {rest : List D} : @Rp _ (mInitS m (x :: rest) μ) Q X = (rest.length ≤ sizeLine ∧ @Rp _ (m [x, .tup rest] μ) Q X) := by
  unfold mInitS; dsimp only; by_cases h : rest.length ≤ sizeLine <;> simp [h]
@[simp] theorem rp_fld {cs : List String} {f : Str} {a : ME} : @Rp _ (mFld cs f a ρ μ) Q X = @Rp _ (a ρ μ) (fun x μ => match objOf μ x with
  | some (C, ks, ds) => cs.contains C = true ∧ (match lookF f ks ds with
    | some d => Q d μ
    | none => False)
  | none => False) X := by
  unfold mFld
  rw [rp_bind]; congr 1; funext x μ
  cases objOf μ x with
  | none => rfl
  | some p =>
    obtain ⟨C, ks, ds⟩ := p
    dsimp only
    by_cases h : cs.contains C = true
    · rw [if_pos h]; simp only [h, true_and]; cases lookF f ks ds <;> rfl
    · rw [if_neg h]; exact propext ⟨False.elim, fun z => h z.1⟩
@[simp] theorem rp_fldX {cs : List String} {f : Str} {a : ME} : @Rp _ (mFldX cs f a ρ μ) Q X = @Rp _ (a ρ μ) (fun x μ => match x with
  | .exc C ks ds => cs.contains C = true ∧ (match lookF f ks ds with
    | some d => Q d μ
    | none => False)
  | _ => False) X := by
  unfold mFldX
  rw [rp_bind]; congr 1; funext x μ
  cases x with
  | exc C ks ds =>
    dsimp only
    by_cases h : cs.contains C = true
    · rw [if_pos h]; simp only [h, true_and]; cases lookF f ks ds <;> rfl
    · rw [if_neg h]; exact propext ⟨False.elim, fun z => h z.1⟩
  | _ => rfl
@[simp] theorem rp_prop {C : String} {m : List D → Store → Res D} {o : ME} : @Rp _ (mProp C m o ρ μ) Q X = @Rp _ (o ρ μ) (fun x μ => match objOf μ x with
  | some (C', _, _) => C' = C ∧ @Rp _ (m [x] μ) Q X
  | none => False) X := by
  unfold mProp
  rw [rp_bind]; congr 1; funext x μ
  cases objOf μ x with
  | none => rfl
  | some p =>
    obtain ⟨C', ks, ds⟩ := p
    dsimp only
    by_cases h : C' = C <;> simp [h]
@[simp] theorem rp_meth {C : String} {f : Str} {m : List D → Store → Res D} {o : ME} {a : MA} : @Rp _ (mMeth C f m o a ρ μ) Q X = @Rp _ (o ρ μ) (fun x μ => match objOf μ x with
  | some (C', ks, _) => (C' = C ∧ f ∉ ks) ∧ @Rp _ (a ρ μ) (fun ds μ => @Rp _ (m (x :: ds) μ) Q X) X
  | none => False) X := by
  unfold mMeth
  rw [rp_bind]; congr 1; funext x μ
  cases objOf μ x with
  | none => rfl
  | some p =>
    obtain ⟨C', ks, ds⟩ := p
    dsimp only
    by_cases h : C' = C ∧ f ∉ ks
    · rw [if_pos h, rp_bind]; simp only [h, true_and, not_false_eq_true, and_self]
    · rw [if_neg h]; simp only [rp_bad, h, false_and]
@[simp] theorem rs_raise {C : String} : @RpS (mRaise C n ρ μ) P = P.X ⟨C, [], []⟩ μ := rfl
theorem rp_mArgs {a : MA} {m : List D → Store → Res D} : @Rp _ (mArgs a m ρ μ) Q X = @Rp _ (a ρ μ) (fun ds μ => @Rp _ (m ds μ) Q X) (fun _ _ => False) := by
  unfold mArgs; cases a ρ μ <;> rfl
theorem rs_tryR {T : String} {i k : Nat} {r : Res D} {nx : D → Store → ResS} : @RpS (tryR T i k r nx ρ) P = @Rp _ r (fun d μ => @RpS (nx d μ) P) (fun x μ => if isaC x.C T = true then P.N ((ρ.set k (some (.exc x.C x.ks x.ds))).set i none) μ else P.X x μ) := by
  unfold tryR
  cases r with
  | ok d μ => rfl
  | exc x μ => dsimp only; by_cases h : isaC x.C T = true <;> simp [h]
  | bad => rfl
@[simp] theorem rs_tryA {T : String} {i k j : Nat} {a : MA} {m : List D → Store → Res D} : @RpS (mTryA T i k j (mArgs a m) n ρ μ) P = (i < ρ.length ∧ @Rp _ (a ρ μ) (fun ds μ => @Rp _ (m ds μ) (fun d μ => P.N (ρ.set j (some d)) μ) (fun x μ => if isaC x.C T = true then P.N ((ρ.set k (some (.exc x.C x.ks x.ds))).set i none) μ else P.X x μ)) (fun _ _ => False)) := by
  unfold mTryA
  by_cases h : i < ρ.length
  · rw [if_pos h, rs_tryR, rp_mArgs]; simp only [h, true_and, rs_nx]
  · rw [if_neg h]; simp only [rs_bad, h, false_and]
@[simp] theorem rs_tryD {T : String} {i k : Nat} {a : MA} {m : List D → Store → Res D} : @RpS (mTryD T i k (mArgs a m) n ρ μ) P = (i < ρ.length ∧ @Rp _ (a ρ μ) (fun ds μ => @Rp _ (m ds μ) (fun _ μ => P.N ρ μ) (fun x μ => if isaC x.C T = true then P.N ((ρ.set k (some (.exc x.C x.ks x.ds))).set i none) μ else P.X x μ)) (fun _ _ => False)) := by
  unfold mTryD
  by_cases h : i < ρ.length
  · rw [if_pos h, rs_tryR, rp_mArgs]; simp only [h, true_and, rs_nx]
  · rw [if_neg h]; simp only [rs_bad, h, false_and]
@[simp] theorem rg_subK {o i : ME} {z : D} : @Rp _ (mgSubK o i z ρ μ) G X = @Rp _ (o ρ μ) (fun x μ => @Rp _ (i ρ μ) (fun y μ => match ownK μ x, keyOf y with
  | some (n, ks, ds), some k => ks.length < sizeLine ∧ G ρ (μ.set n (some (.dct (putKK ks k) (putKV k z ks ds))))
  | _, _ => False) X) X := by
  unfold mgSubK; simp only [rp_bind]; congr 1; funext x μ; congr 1; funext y μ
  cases ownK μ x with
  | none => rfl
  | some p =>
    obtain ⟨m, ks, ds⟩ := p
    cases keyOf y with
    | none => rfl
    | some k => dsimp only; by_cases h : ks.length < sizeLine <;> simp [h]
theorem merge_new : ∀ {ps : List (Key × D)} {ks : List Key} {ds : List D}, ks.length = ds.length → (ks ++ ps.map (·.1)).Nodup → mergeD ks ds ps = (ks ++ ps.map (·.1), ds ++ ps.map (·.2))
  | [], ks, ds, _, _ => by simp [mergeD]
  | (k, d) :: ps, ks, ds, hl, nd => by
    have nk : k ∉ ks := fun q => by
      have := (List.nodup_append.mp nd).2.2 _ q k (by simp)
      exact this rfl
    unfold mergeD
    rw [putKK_new nk, putKV_new nk hl, merge_new (by simp [hl]) (by simpa using nd)]
    simp
end
end Pl
namespace Pl
open PySem PySem.Spec L2 Mi
section
variable {α : Type} {Q : D → Store → Prop} {X : Exc → Store → Prop} {P : Post} {ρ : Mi.Env} {μ μ0 : Store} {n : Nat} {G : Mi.Env → Store → Prop} {ds : List D} {i j : Int}
theorem drop_min {α : Type} {l : List α} {a : Nat} : l.drop (min a l.length) = l.drop a := by
  by_cases h : a ≤ l.length
  · rw [Nat.min_eq_left h]
  · rw [Nat.min_eq_right (by omega), List.drop_of_length_le (Nat.le_refl _), List.drop_of_length_le (by omega)]
theorem cut_hi (h : 0 ≤ i) : cutD ds none (some i) = ds.take i.toNat := by
  have n0 : ¬ i < 0 := by omega
  unfold cutD HT.sIx
  simp only [n0, if_false, List.drop_zero, Nat.sub_zero]
  rw [List.take_eq_take_iff]; omega
theorem cut_lo (h : 0 ≤ i) : cutD ds (some i) none = ds.drop i.toNat := by
  have n0 : ¬ i < 0 := by omega
  unfold cutD HT.sIx
  simp only [n0, if_false]
  rw [drop_min, List.take_of_length_le (by rw [List.length_drop]; omega)]
theorem cut_all : cutD ds none none = ds := by
  unfold cutD HT.sIx
  simp
theorem f_slL {b : Bool} {x : D} {lo hi : Option Int} (hx : seqL μ x = some ds) : @Rp _ (fSl b x lo hi μ) Q X = @Rp _ (newL b (cutD ds lo hi) μ) Q X := by
  have e : fSl b x lo hi μ = newL b (cutD ds lo hi) μ := by
    unfold fSl
    split
    · cases hx
    · cases hx
    · rw [hx]
  rw [e]
@[simp] theorem f_slLst {b : Bool} {lo hi : Option Int} : @Rp _ (fSl b (.lst ds) lo hi μ) Q X = @Rp _ (newL b (cutD ds lo hi) μ) Q X := f_slL rfl
@[simp] theorem f_slTup {b : Bool} {lo hi : Option Int} : @Rp _ (fSl b (.tup ds) lo hi μ) Q X = Q (.tup (cutD ds lo hi)) μ := rfl
theorem merge_nil {ps : List (Key × D)} (nd : (ps.map (·.1)).Nodup) : mergeD [] [] ps = (ps.map (·.1), ps.map (·.2)) := by
  have := merge_new (ks := []) (ds := []) (ps := ps) rfl (by simpa using nd)
  simpa using this
@[simp] theorem rp_disp1 {z : Str} {a : ME} : @Rp _ (mDisp false [((mC (.str z)), a)] ρ μ) Q X = @Rp _ (a ρ μ) (fun d μ => Q (.dct [.inr z] [d]) μ) X := by
  simp only [mDisp, mPairs, rp_bind, rp_c, rp_ok]
  congr 1
  funext d μ
  have e : pairsK [(D.str z, d)] = some [(Sum.inr z, d)] := rfl
  rw [e]
  dsimp only
  rw [merge_nil (by simp)]
  rfl
theorem rp_dispE {a b : ME} : @Rp _ (mDisp false [(a, b)] ρ μ) Q X = @Rp _ (a ρ μ) (fun x μ => @Rp _ (b ρ μ) (fun y μ => match keyOf x with
  | some k => Q (.dct [k] [y]) μ
  | none => False) X) X := by
  simp only [mDisp, mPairs, rp_bind, rp_ok]
  congr 1
  funext x μ
  congr 1
  funext y μ
  unfold pairsK
  cases keyOf x with
  | none => rfl
  | some k =>
    have e : pairsK [] = some [] := rfl
    rw [e]
    dsimp only
    rw [merge_nil (by simp)]
    rfl
theorem f_mulL {b : Bool} {k : Nat} (h : μ[k]? = some (some (.lst ds))) : @Rp _ (fMul b (.own k) (.int i) μ) Q X = ((-(2 ^ 63) ≤ i ∧ i < 2 ^ 63 ∧ ds.length * i.toNat ≤ sizeLine) ∧ @Rp _ (newL b (List.replicate i.toNat ds).flatten μ) Q X) := by
  have e : fMul b (.own k) (.int i) μ = if -(2 ^ 63) ≤ i ∧ i < 2 ^ 63 ∧ ds.length * i.toNat ≤ sizeLine then newL b (List.replicate i.toNat ds).flatten μ else .bad := by
    unfold fMul
    dsimp only
    rw [ownL_own h]
  rw [e]
  by_cases hl : -(2 ^ 63) ≤ i ∧ i < 2 ^ 63 ∧ ds.length * i.toNat ≤ sizeLine <;> simp [hl]
theorem rangeD_eq {n : Nat} : rangeD 0 n = (List.range n).map fun i => D.int (i : Nat) := by
  unfold rangeD
  refine List.map_congr_left fun k _ => ?_
  rw [Int.zero_add]
end
end Pl
namespace Pl
open PySem PySem.Spec L2 Mi
section
variable {α : Type} {Q : D → Store → Prop} {X : Exc → Store → Prop} {P : Post} {ρ : Mi.Env} {μ μ0 : Store} {n : Nat}
@[simp] theorem rp_lam {m : (Store → Res D) → Store → Res D} {el : ME} : @Rp _ (mLam m el ρ μ) Q X = @Rp _ (m (fun μ' => el ρ μ') μ) Q X := rfl
@[simp] theorem rp_lamC {w : Store → Res D} : @Rp _ (mLamC w ρ μ) Q X = @Rp _ (w μ) Q X := rfl
@[simp] theorem rp_rg1 {t b : Bool} {a : ME} : @Rp _ (mRg1 t b a ρ μ) Q X = @Rp _ (a ρ μ) (fun x μ => match x with
  | .int j => @Rp _ (fRg t b 0 j μ) Q X
  | _ => False) X := by
  unfold mRg1
  rw [rp_bind]; congr 1; funext x μ
  cases x <;> rfl
@[simp] theorem rp_rg2 {t b : Bool} {a a' : ME} : @Rp _ (mRg2 t b a a' ρ μ) Q X = @Rp _ (a ρ μ) (fun x μ => @Rp _ (a' ρ μ) (fun y μ => match x, y with
  | .int i, .int j => @Rp _ (fRg t b i j μ) Q X
  | _, _ => False) X) X := by
  unfold mRg2
  rw [rp_bind]; congr 1; funext x μ
  rw [rp_bind]; congr 1; funext y μ
  cases x <;> cases y <;> rfl
@[simp] theorem rp_makeK {z : Bool} {C : String} {m : List D → Store → Res D} {i k : Nat} {a b : MA} : @Rp _ (mMakeK z C m i k a b ρ μ) Q X = @Rp _ (a ρ μ) (fun xs μ => @Rp _ (b ρ μ) (fun ys μ => (xs.length = i ∧ ys.length = k) ∧ @Rp _ (mkObj z C m (xs ++ ys) μ) Q X) X) X := by
  unfold mMakeK
  rw [rp_bind]; congr 1; funext xs μ
  rw [rp_bind]; congr 1; funext ys μ
  by_cases h : xs.length = i ∧ ys.length = k
  · rw [if_pos h]; exact propext ⟨fun z => ⟨h, z⟩, fun z => z.2⟩
  · rw [if_neg h]; exact propext ⟨False.elim, fun z => h z.1⟩
@[simp] theorem f_intI {i : Int} : @Rp _ (fInt [.int i] μ) Q X = Q (.int i) μ := rfl
@[simp] theorem f_intB {k : Bool} : @Rp _ (fInt [.bl k] μ) Q X = Q (.int (if k = true then 1 else 0)) μ := rfl
theorem intsD_map : ∀ {ns : List Int}, intsD (ns.map D.int) = some ns
  | [] => rfl
  | s :: ss => by show (intsD (ss.map D.int)).map (s :: ·) = _; rw [intsD_map]; rfl
@[simp] theorem rp_callO {C : String} {m : List D → Store → Res D} {o : ME} {a : MA} : @Rp _ (mCallO C m o a ρ μ) Q X = @Rp _ (o ρ μ) (fun x μ => match x with
  | .obj C' ks ds => C' = C ∧ @Rp _ (a ρ μ) (fun as μ => @Rp _ (m (.obj C' ks ds :: as) μ) Q X) X
  | _ => False) X := by
  unfold mCallO
  rw [rp_bind]; congr 1; funext x μ
  cases x with
  | obj C' ks ds =>
    dsimp only
    by_cases h : C' = C
    · rw [if_pos h, rp_bind]; exact propext ⟨fun z => ⟨h, z⟩, fun z => z.2⟩
    · rw [if_neg h]; exact propext ⟨False.elim, fun z => h z.1⟩
  | _ => rfl
theorem rp_noX {r : Res D} : @Rp _ (noX r) Q X = @Rp _ r Q (fun _ _ => False) := by
  cases r <;> rfl
@[simp] theorem rp_propN {C : String} {m : List D → Store → Res D} {o : ME} : @Rp _ (mPropN C m o ρ μ) Q X = @Rp _ (o ρ μ) (fun x μ => match objOf μ x with
  | some (C', _, _) => C' = C ∧ @Rp _ (m [x] μ) Q (fun _ _ => False)
  | none => False) X := by
  unfold mPropN
  rw [rp_prop]; congr 1; funext x μ
  cases objOf μ x with
  | none => rfl
  | some p =>
    obtain ⟨C', ks, ds⟩ := p
    dsimp only
    rw [rp_noX]
@[simp] theorem rs_par3 {i j k : Nat} {a : MA} : @RpS (mPar3 i j k a n ρ μ) P = @Rp _ (a ρ μ) (fun ds μ => match ds with
  | [x, y, z] => P.N (((ρ.set i (some x)).set j (some y)).set k (some z)) μ
  | _ => False) P.X := by
  unfold mPar3
  rw [rs_st]; congr 1; funext ds μ
  match ds with
  | [] | [_] | [_, _] | [_, _, _] | _ :: _ :: _ :: _ :: _ => rfl
end
end Pl
namespace Pl
open PySem PySem.Spec L2 Mi
section
variable {Q : D → Store → Prop} {X : Exc → Store → Prop} {μ : Store}
theorem app_at {x : Option Cell} : (μ ++ [x])[μ.length]? = some x := by simp
end
end Pl
namespace Pl
open PySem PySem.Spec L2 Mi
section
variable {α : Type} {Q : D → Store → Prop} {X : Exc → Store → Prop} {P : Post} {ρ : Mi.Env} {μ μ0 μ1 : Store} {n : Nat} {L : List D → Store → Prop}
theorem lct_go {g : D → Mi.Env → Option Mi.Env} {t : MT} {el : ME} {w : List Nat} {f : α → D} (p : α → Bool) (h : α → D) : ∀ (l : List α) (acc : List D), acc.length + l.length ≤ sizeLine →
    (∀ a ∈ l, ∃ ρ2, g (f a) ρ = some ρ2 ∧ t ρ2 μ = .ok (p a) μ ∧ (p a = true → el ρ2 μ = .ok (h a) μ)) → lcA w μ g t el ρ (l.map f) acc μ = .ok (acc ++ (l.filter p).map h) μ
  | [], acc, _, _ => by
    rw [List.map_nil]; unfold lcA
    rw [if_pos watch_rfl]; simp
  | a :: l, acc, hz, st => by
    obtain ⟨ρ2, h1, h2, h3⟩ := st a List.mem_cons_self
    simp only [List.length_cons] at hz
    rw [List.map_cons]; unfold lcA
    rw [if_pos watch_rfl, h1]
    dsimp only
    rw [h2]
    cases hp : p a with
    | false =>
      dsimp only
      rw [lct_go p h l acc (by omega) (fun b hb => st b (List.mem_cons_of_mem _ hb))]
      simp [hp]
    | true =>
      dsimp only
      rw [h3 hp]
      dsimp only
      rw [if_pos (by omega), lct_go p h l (acc ++ [h a]) (by simp; omega) (fun b hb => st b (List.mem_cons_of_mem _ hb))]
      simp [hp]
theorem rp_lct {g : D → Mi.Env → Option Mi.Env} {t : MT} {el : ME} {w : List Nat} {f : α → D} {l : List α} (p : α → Bool) (h : α → D) (hz : l.length ≤ sizeLine)
    (st : ∀ a ∈ l, ∃ ρ2, g (f a) ρ = some ρ2 ∧ t ρ2 μ = .ok (p a) μ ∧ (p a = true → el ρ2 μ = .ok (h a) μ)) (k : L ((l.filter p).map h) μ) : @Rp _ (lcA w μ g t el ρ (l.map f) [] μ) L X := by
  rw [lct_go p h l [] (by simpa using hz) st]; exact k
theorem rp_lcm' {g : D → Mi.Env → Option Mi.Env} {el : ME} {w : List Nat} {f : α → D} {l : List α} (h : α → D) (hz : l.length ≤ sizeLine)
    (st : ∀ a ∈ l, ∃ ρ2, g (f a) ρ = some ρ2 ∧ el ρ2 μ = .ok (h a) μ) (k : L (l.map h) μ) : @Rp _ (lcA w μ g mYes el ρ (l.map f) [] μ) L X := by
  refine rp_lct (fun _ => true) h hz (fun a ha => ?_) (by rw [List.filter_eq_self.mpr fun _ _ => rfl]; exact k)
  obtain ⟨ρ2, h1, h2⟩ := st a ha
  exact ⟨ρ2, h1, rfl, fun _ => h2⟩
theorem for_cell {γ : Type} {g : MG} {body : MS} {l : List α} (up : γ → Mi.Env) (c : List α → Cell) (f : α → D) (z0 : γ) (h0 : ρ = up z0) (hμ : μ = μ0 ++ [some (c [])])
    (step : ∀ z pre a post, l = pre ++ a :: post → @Rp _ (g (f a) (up z) (μ0 ++ [some (c pre)])) (fun ρ μ => @RpS (body n ρ μ) ⟨fun ρ μ => (∃ z, ρ = up z) ∧ μ = μ0 ++ [some (c (pre ++ [a]))], P.R, P.N, fun ρ μ => (∃ z, ρ = up z) ∧ μ = μ0 ++ [some (c (pre ++ [a]))], P.X⟩) P.X)
    (fin : ∀ z, P.N (up z) (μ0 ++ [some (c l)])) : @RpS (forS [] μ1 g body n (l.map f) ρ μ) P := by
  subst h0 hμ
  refine for_map f (fun pre ρ μ => (∃ z, ρ = up z) ∧ μ = μ0 ++ [some (c pre)]) ⟨⟨z0, rfl⟩, rfl⟩ (fun _ _ _ _ _ z => by cases z) ?_ ?_
  · rintro pre a post ρ μ e ⟨⟨z, rfl⟩, rfl⟩
    exact step z pre a post e
  · rintro ρ μ ⟨⟨z, rfl⟩, rfl⟩
    exact fin z
@[simp] theorem rp_din {neg : Bool} {i o : ME} : @Rp _ (mDIn neg i o ρ μ) Q X = @Rp _ (i ρ μ) (fun y μ => @Rp _ (o ρ μ) (fun x μ => match dctOf μ x, keyOf y with
  | some (ks, ds), some k => Q (.bl (if neg = true then !(lookK k ks ds).isSome else (lookK k ks ds).isSome)) μ
  | _, _ => False) X) X := by
  unfold mDIn
  rw [rp_bind]; congr 1; funext y μ
  rw [rp_bind]; congr 1; funext x μ
  cases dctOf μ x with
  | none => rfl
  | some p => cases keyOf y <;> rfl
theorem f_inSS {neg : Bool} {z : Str} {ss : List Str} : @Rp _ (fIn neg (.str z) (.lst (ss.map D.str)) μ) Q X = Q (.bl (if neg = true then !decide (z ∈ ss) else decide (z ∈ ss))) μ := by
  rw [f_inL rfl rfl strs_flat, inF_strs]
@[simp] theorem tyM_app {l : List D} : tyM (μ ++ [some (.lst l)]) (.own μ.length) = some "list" := tyM_ownL app_at
@[simp] theorem seqL_app {l : List D} : seqL (μ ++ [some (.lst l)]) (.own μ.length) = some l := seqL_own app_at
theorem law_frame {N k : Nat} {body : MS} {m : List D → Store → Res D} (hm : m = mFn N 1 (mSeq (mFor (miEnum (mCons (mSl false (mOrT (mVar 0) (mLst false (mCons (mC (.int 5)) mNil))) moNone (moSome (mC (.int k)))) mNil)) (mgTup 2 (mgCons (mgName 1) (mgCons (mgName 2) mgNil))) body) (mRet (mC (.bl true)))))
    (hk : 0 < k) (hN : 3 ≤ N)
    (step : ∀ (ρ : Mi.Env) (μ : Store) (t : Nat) (x : Int), t < k → ρ.length = N → ρ[1]? = some (some (.int t)) → ρ[2]? = some (some (.int x)) → @RpS (body 0 ρ μ) ⟨fun ρ _ => ρ.length = N, fun d _ => d = .bl true, fun ρ _ => ρ.length = N, fun ρ _ => ρ.length = N, fun _ _ => False⟩) :
    ∀ ns : List Int, ns.length ≤ 63 → ∃ μ, m [.lst (ns.map D.int)] [] = .ok (.bl true) μ := fun ns hns => by
  have run : @Rp _ (m [.lst (ns.map D.int)] []) (fun d _ => d = .bl true) fun _ _ => False := by
    rw [hm, rp_fn]
    refine ⟨rfl, ?_⟩
    have hl : (startD N [.lst (ns.map D.int)]).length = N := by simp [startD]; omega
    have h0 : (startD N [.lst (ns.map D.int)])[0]? = some (some (.lst (ns.map D.int))) := rfl
    generalize startD N [.lst (ns.map D.int)] = ρ at hl h0
    have go : ∀ xs : List Int, xs.length ≤ k → @RpS (forS [] ([] : Store) (mgTup 2 (mgCons (mgName 1) (mgCons (mgName 2) mgNil))) body 0 (enumD (xs.map D.int)) ρ []) ⟨fun ρ μ => True, fun d _ => d = .bl true, fun _ _ => False, fun _ _ => False, fun _ _ => False⟩ := by
      intro xs hx
      refine enum_inv (fun pre ρ μ' => ρ.length = N) hl (fun _ _ _ _ => Pl.watch_nil) ?_ (fun _ _ _ => trivial)
      intro pre d post ρ μ1 e hρ
      have pl : pre.length < k := by
        have := congrArg List.length e
        rw [List.length_map, List.length_append, List.length_cons] at this
        omega
      obtain ⟨x, hx, rfl⟩ : ∃ x, x ∈ xs ∧ D.int x = d := List.mem_map.mp (by rw [e]; simp)
      simp only [rg_tup, rg_cons, rg_name, rg_nil, List.length_cons, List.length_nil, true_and]
      refine rs_mono (step _ μ1 pre.length x pl (by simp [hρ]) ?_ ?_) (fun _ _ h => h) (fun _ _ h => h) (fun _ _ _ => trivial) (fun _ _ h => h) (fun _ _ h => h)
      · rw [List.getElem?_set_ne (by decide), List.getElem?_set_self (by omega)]
      · rw [List.getElem?_set_self (by simp; omega)]
    have cl : ∀ ds, (D.lst ds).cell = [] := fun _ => rfl
    have z : 0 < sizeLine := by decide
    simp only [rs_seq, rs_for, ri_enum, rp_cons, rp_nil, rp_sl, rp_orT, rp_moN, rp_moS, rp_var, rp_c, rp_lst, rp_newL, h0, List.length_cons, List.length_nil, Bool.false_eq_true, if_false]
    have fin : ∀ xs : List Int, xs.length ≤ k → @RpS (forS [] ([] : Store) (mgTup 2 (mgCons (mgName 1) (mgCons (mgName 2) mgNil))) body 0 (enumD (xs.map D.int)) ρ []) ⟨fun ρ μ => @RpS (mRet (mC (.bl true)) 0 ρ μ) ⟨fun _ μ => D.non = .bl true, fun d _ => d = .bl true, fun _ _ => False, fun _ _ => False, fun _ _ => False⟩, fun d _ => d = .bl true, fun _ _ => False, fun _ _ => False, fun _ _ => False⟩ := fun xs hx =>
      rs_mono (go xs hx) (fun _ _ _ => by simp) (fun _ _ h => h) (fun _ _ h => h) (fun _ _ h => h) (fun _ _ h => h)
    cases ns with
    | nil =>
      have t : truD ([] : Store) (.lst (([] : List Int).map D.int)) = some false := rfl
      rw [t]
      dsimp only
      refine ⟨by omega, ?_⟩
      rw [f_slLst]
      simp only [rp_newL, Bool.false_eq_true, if_false, seqL_lst, cl, cut_hi (Int.natCast_nonneg k), Int.toNat_natCast]
      refine rs_mono ((fin [5] (by simp only [List.length_cons, List.length_nil]; omega)) |> fun h => ?_) (fun _ _ h => h) (fun _ _ h => h) (fun _ _ h => h) (fun _ _ h => h) (fun _ _ h => h)
      rw [List.take_of_length_le (by simp only [List.length_map, List.length_cons, List.length_nil]; omega)]
      exact h
    | cons n ns =>
      have t : truD ([] : Store) (.lst ((n :: ns).map D.int)) = some true := rfl
      rw [t]
      dsimp only
      rw [f_slLst]
      simp only [rp_newL, Bool.false_eq_true, if_false, seqL_lst, cl, cut_hi (Int.natCast_nonneg k), Int.toNat_natCast]
      rw [← List.map_take]
      exact fin _ (by rw [List.length_take]; exact Nat.min_le_left _ _)
  obtain ⟨d, μ, e, rfl⟩ := rp_get run
  exact ⟨μ, e⟩
@[simp] theorem sz_1 : (1 ≤ sizeLine) = True := eq_true (by decide)
@[simp] theorem sz_2 : (2 ≤ sizeLine) = True := eq_true (by decide)
@[simp] theorem sz_3 : (3 ≤ sizeLine) = True := eq_true (by decide)
@[simp] theorem sz_4 : (4 ≤ sizeLine) = True := eq_true (by decide)
@[simp] theorem sz_5 : (5 ≤ sizeLine) = True := eq_true (by decide)
@[simp] theorem sz_6 : (6 ≤ sizeLine) = True := eq_true (by decide)
@[simp] theorem sz_7 : (7 ≤ sizeLine) = True := eq_true (by decide)
@[simp] theorem sz_8 : (8 ≤ sizeLine) = True := eq_true (by decide)
@[simp] theorem sz_9 : (9 ≤ sizeLine) = True := eq_true (by decide)
@[simp] theorem sz_10 : (10 ≤ sizeLine) = True := eq_true (by decide)
@[simp] theorem sz_11 : (11 ≤ sizeLine) = True := eq_true (by decide)
@[simp] theorem sz_12 : (12 ≤ sizeLine) = True := eq_true (by decide)
@[simp] theorem sz_13 : (13 ≤ sizeLine) = True := eq_true (by decide)
@[simp] theorem sz_14 : (14 ≤ sizeLine) = True := eq_true (by decide)
@[simp] theorem sz_15 : (15 ≤ sizeLine) = True := eq_true (by decide)
@[simp] theorem sz_16 : (16 ≤ sizeLine) = True := eq_true (by decide)
@[simp] theorem sz_17 : (17 ≤ sizeLine) = True := eq_true (by decide)
@[simp] theorem sz_18 : (18 ≤ sizeLine) = True := eq_true (by decide)
@[simp] theorem sz_19 : (19 ≤ sizeLine) = True := eq_true (by decide)
@[simp] theorem sz_20 : (20 ≤ sizeLine) = True := eq_true (by decide)
@[simp] theorem nn_non  : isNonD  .non = true := rfl
@[simp] theorem nn_int {i : Int} : isNonD (.int i) = false := rfl
@[simp] theorem nn_str {z : Str} : isNonD (.str z) = false := rfl
@[simp] theorem nn_bl {z : Bool} : isNonD (.bl z) = false := rfl
@[simp] theorem nn_lst {z : List D} : isNonD (.lst z) = false := rfl
@[simp] theorem nn_tup {z : List D} : isNonD (.tup z) = false := rfl
@[simp] theorem nn_dct {k : List Key} {z : List D} : isNonD (.dct k z) = false := rfl
@[simp] theorem nn_obj {C : String} {k : List Str} {z : List D} : isNonD (.obj C k z) = false := rfl
@[simp] theorem nn_exc {C : String} {k : List Str} {z : List D} : isNonD (.exc C k z) = false := rfl
@[simp] theorem nn_own {k : Nat} : isNonD (.own k) = false := rfl
@[simp] theorem f_lenT {xs : List D} : @Rp _ (fLen [.tup xs] μ) Q X = Q (.int xs.length) μ := rfl
@[simp] theorem cell_lst {ds : List D} : (D.lst ds).cell = [] := rfl
@[simp] theorem cell_tup {ds : List D} : (D.tup ds).cell = [] := rfl
theorem map_inj {α β : Type} {f : α → β} (hf : ∀ x y, f x = f y → x = y) : ∀ {a b : List α}, a.map f = b.map f → a = b
  | [], [], _ => rfl
  | [], _ :: _, h => by simp at h
  | _ :: _, [], h => by simp at h
  | x :: a, y :: b, h => by
    simp only [List.map_cons, List.cons.injEq] at h
    rw [hf _ _ h.1, map_inj hf h.2]
theorem ofS_inj {a b : String} (h : Str.ofString a = Str.ofString b) : a = b := by
  rw [Str.ofString_eq_toList, Str.ofString_eq_toList] at h
  have h1 : a.toList.map Char.toNat = b.toList.map Char.toNat := by
    have := congrArg (fun s : Str => s.cps.toList) h
    simpa using this
  have h2 : a.toList = b.toList := map_inj (fun x y e => Char.toNat_inj.mp e) h1
  exact String.toList_inj.mp h2
@[simp] theorem ofS_eq {a b : String} : (Str.ofString a = Str.ofString b) = (a = b) := propext ⟨ofS_inj, fun e => by rw [e]⟩
@[simp] theorem ofS_beq {a b : String} : (Str.ofString a == Str.ofString b) = decide (a = b) := by
  rw [Bool.eq_iff_iff]; simp
@[simp] theorem f_eqNilL {neg : Bool} {xs : List D} : @Rp _ (fEq neg (.lst xs) (.lst []) μ) Q X = Q (.bl (if neg = true then !xs.isEmpty else xs.isEmpty)) μ := f_eqNil rfl
theorem rs_go {a b : MS} (h : ∀ N : Mi.Env → Store → Prop, (∀ ρ μ, @RpS (b n ρ μ) P → N ρ μ) → @RpS (a n ρ μ) ⟨N, P.R, P.B, P.C, P.X⟩) : @RpS (mSeq a b n ρ μ) P := by
  rw [rs_seq]; exact h _ (fun _ _ h => h)
theorem rp_fnI {N P' : Nat} {body : MS} {ds : List D} (hl : ds.length = P') (h : @RpS (body μ.length (startD N ds) μ) ⟨fun _ μ => Q .non μ, Q, fun _ _ => False, fun _ _ => False, X⟩) : @Rp _ (mFn N P' body ds μ) Q X := by
  rw [rp_fn]; exact ⟨hl, h⟩
@[simp] theorem atI_3 {α : Type} {x y z w : α} {xs : List α} : atI (x :: y :: z :: w :: xs) 3 = some w := by
  unfold atI ixN
  rw [if_pos (by decide), if_pos (by simp only [List.length_cons]; omega)]; rfl
@[simp] theorem atI_4 {α : Type} {x y z w v : α} {xs : List α} : atI (x :: y :: z :: w :: v :: xs) 4 = some v := by
  unfold atI ixN
  rw [if_pos (by decide), if_pos (by simp only [List.length_cons]; omega)]; rfl
@[simp] theorem cut_hiN {ds : List D} {k : Nat} : cutD ds none (some (k : Int)) = ds.take k := by rw [cut_hi (Int.natCast_nonneg _), Int.toNat_natCast]
@[simp] theorem cut_loN {ds : List D} {k : Nat} : cutD ds (some (k : Int)) none = ds.drop k := by rw [cut_lo (Int.natCast_nonneg _), Int.toNat_natCast]
@[simp] theorem cut_allN {ds : List D} : cutD ds none none = ds := cut_all
theorem enumF_zip {f : α → D} : ∀ {l : List α} {k : Nat}, enumF k (l.map f) = (l.zipIdx k).map fun p => D.tup [.int (p.2 : Nat), f p.1]
  | [], _ => rfl
  | a :: l, k => by rw [List.zipIdx_cons, List.map_cons, List.map_cons, enumF, enumF_zip]
theorem enumD_zip {f : α → D} {l : List α} : enumD (l.map f) = l.zipIdx.map fun p => D.tup [.int (p.2 : Nat), f p.1] := by rw [enumD_eq, enumF_zip]
@[simp] theorem atI_natN {xs : List D} {k : Nat} : atI xs (k : Int) = xs[k]? := by
  unfold atI ixN
  by_cases h : k < xs.length
  · rw [if_pos (Int.natCast_nonneg _), if_pos (by omega)]; simp
  · rw [if_pos (Int.natCast_nonneg _), if_neg (by omega), List.getElem?_eq_none (by omega)]; rfl
@[simp] theorem ownK_app {ks : List Key} {ds : List D} : ownK (μ ++ [some (.dct ks ds)]) (.own μ.length) = some (μ.length, ks, ds) := ownK_own app_at
@[simp] theorem f_tupleT {xs : List D} : @Rp _ (fTuple [.tup xs] μ) Q X = Q (.tup xs) μ := rfl
@[simp] theorem f_tupleL {xs : List D} : @Rp _ (fTuple [.lst xs] μ) Q X = Q (.tup xs) μ := rfl
@[simp] theorem f_tupleD {ks : List Key} {xs : List D} : @Rp _ (fTuple [.dct ks xs] μ) Q X = Q (.tup (ks.map keyDD)) μ := rfl
@[simp] theorem tyM_lstD {xs : List D} : tyM μ (.lst xs) = some "list" := rfl
@[simp] theorem tyM_strD {z : Str} : tyM μ (.str z) = some "str" := rfl
@[simp] theorem f_listT {b : Bool} {xs : List D} : @Rp _ (fList b [.tup xs] μ) Q X = @Rp _ (newL b xs μ) Q X := rfl
@[simp] theorem f_listL {b : Bool} {xs : List D} : @Rp _ (fList b [.lst xs] μ) Q X = @Rp _ (newL b xs μ) Q X := rfl
@[simp] theorem f_ltII {i j : Int} : @Rp _ (fLt (.int i) (.int j) μ) Q X = Q (.bl (decide (i < j))) μ := f_ltI
@[simp] theorem atI_neg1 {xs : List D} : atI xs (-1) = xs.getLast? := by
  unfold atI ixN
  rw [if_neg (by decide)]
  cases h : xs.length with
  | zero =>
    have : xs = [] := List.length_eq_zero_iff.mp h
    subst this; rfl
  | succ n =>
    rw [if_pos (by omega), List.getLast?_eq_getElem?, h]
    show xs[((n + 1 : Nat) + (-1) : Int).toNat]? = _
    congr 1
    omega
@[simp] theorem f_inTS3 {neg : Bool} {w a b c : Str} : @Rp _ (fIn neg (.str w) (.tup [.str a, .str b, .str c]) μ) Q X = Q (.bl (if neg = true then !(a == w || (b == w || c == w)) else (a == w || (b == w || c == w)))) μ := by
  rw [f_inT (fun _ _ => trivial) rfl rfl]
  simp
@[simp] theorem ownO_app {C : String} {ks : List Str} {ds : List D} : ownO (μ ++ [some (.obj C ks ds)]) (.own μ.length) = some (μ.length, C, ks, ds) := ownO_own app_at
@[simp] theorem objOf_app {C : String} {ks : List Str} {ds : List D} : objOf (μ ++ [some (.obj C ks ds)]) (.own μ.length) = some (C, ks, ds) := objOf_own app_at
@[simp] theorem f_inTI2 {neg : Bool} {w a b : Int} : @Rp _ (fIn neg (.int w) (.tup [.int a, .int b]) μ) Q X = Q (.bl (if neg = true then !(a == w || b == w) else (a == w || b == w))) μ := by
  rw [f_inT (fun _ _ => trivial) rfl rfl]
  simp
end
end Pl
namespace Pl
open PySem PySem.Spec L2 Mi
section
variable {α : Type} {Q : D → Store → Prop} {X : Exc → Store → Prop} {P : Post} {ρ : Mi.Env} {μ μ0 μ1 : Store} {n : Nat}
@[simp] theorem f_addTT {b : Bool} {xs ys : List D} : @Rp _ (fAdd b (.tup xs) (.tup ys) μ) Q X = (xs.length + ys.length ≤ sizeLine ∧ Q (.tup (xs ++ ys)) μ) := by
  unfold fAdd
  by_cases h : xs.length + ys.length ≤ sizeLine <;> simp [h]
@[simp] theorem rs_raiseF {C : String} {f : Str} {a : MA} : @RpS (mRaiseF C f a n ρ μ) P = @Rp _ (a ρ μ) (fun ds μ => match ds with
  | [d] => P.X ⟨C, [f], [d]⟩ μ
  | _ => False) P.X := by
  unfold mRaiseF
  rw [rs_st]; congr 1; funext ds μ
  match ds with
  | [] | [_] | _ :: _ :: _ => rfl
theorem Fr.keep {s f : Nat} {μ μ' : Store} {x : Option Cell} (h : Fr s μ μ') (e : μ[f]? = some x) (ne : f ≠ s) : μ'[f]? = some x := (h.at_ f (List.getElem?_eq_some_iff.mp e).1 ne).trans e
end
end Pl
namespace Pl
open PySem PySem.Spec L2 Mi
section
variable {α : Type} {Q : D → Store → Prop} {X : Exc → Store → Prop} {P : Post} {ρ : Mi.Env} {n : Nat} {μ : Store}
@[simp] theorem rp_dget2 {o i z : ME} : @Rp _ (mDGet2 o i z ρ μ) Q X = @Rp _ (o ρ μ) (fun x μ => (dctOf μ x).isSome = true ∧ @Rp _ (i ρ μ) (fun y μ => @Rp _ (z ρ μ) (fun u μ => match dctOf μ x, keyOf y with
    | some (ks, ds), some k => Q ((lookK k ks ds).getD u) μ
    | _, _ => False) X) X) X := by
  unfold mDGet2
  simp only [rp_bind]
  congr 1; funext x μ
  cases e : dctOf μ x with
  | none => simp
  | some kd =>
    simp only [rp_bind, Option.isSome_some, true_and]
    congr 1; funext y μ; congr 1; funext u μ
    rcases dctOf μ x with _ | ⟨ks, ds⟩ <;> rcases keyOf y with _ | k <;> simp
@[simp] theorem rp_callK {m k : Nat} {ix : List Nat} {f : List D → Store → Res D} {a b : MA} : @Rp _ (mCallK m k ix f a b ρ μ) Q X = @Rp _ (a ρ μ) (fun xs μ => @Rp _ (b ρ μ) (fun ys μ => (xs.length = m ∧ ys.length = k) ∧ @Rp _ (f (ix.filterMap ((xs ++ ys)[·]?)) μ) Q X) X) X := by
  unfold mCallK
  simp only [rp_bind]
  congr 1; funext xs μ; congr 1; funext ys μ
  split
  · rename_i h; simp only [h, true_and, and_self]
  · rename_i h; simp only [h, false_and, rp_bad]
@[simp] theorem f_count {is : List Int} {k : Int} : @Rp _ (fCountI (.lst (is.map .int)) [.int k] μ) Q X = Q (.int (is.count k : Nat)) μ := by
  have : (seqL μ (.lst (is.map D.int))).bind intsD = some is := by
    show intsD (is.map D.int) = some is
    induction is with
    | nil => rfl
    | cons i is ih => rw [List.map_cons, intsD, ih]; rfl
  unfold fCountI
  rw [this]; rfl
end
end Pl
namespace Pl
open PySem PySem.Spec L2 Mi
noncomputable def b_are_names : MS := (mSeq (mIfS (mOr (mNot (mB (mUn (fIsS (.ty "tuple")) (mVar 0)))) (mNot (mB (mCb (fAll false) (mCons (mLc false (miAny (mVar 0)) (lgName 1) mYes (mCall m_is_name (mCons (mVar 1) mNil)) [1]) mNil))))) (mRet (mC (.bl false))) mNext)
  (mRet (mCb (fAll false) (mCons (mLc false (miZip (mVar 0) (mSl false (mVar 0) (moSome (mC (.int 1))) moNone)) (lgTup2 2 3) mYes (mOp fLt (mVar 2) (mVar 3)) [2, 3]) mNil))))
noncomputable def m_are_names : List D → Store → Res D := mFn 4 1 b_are_names
noncomputable def b_is_row : MS := (mSeq (mIfS (mB (mOp (fIsN false) (mVar 0) (mC .non))) (mRet (mC (.bl true))) mNext)
  (mSeq (mIfS (mOr (mNot (mB (mUn (fIsS (.ty "tuple")) (mVar 0)))) (mOr (mB (mOp (fEq true) (mCb fLen (mCons (mVar 0) mNil)) (mC (.int 3)))) (mNot (mB (mUn (fIsS (.ty "bool")) (mOp fIx (mVar 0) (mC (.int 2)))))))) (mRet (mC (.bl false))) mNext)
  (mSeq (mAsg (mVar 0) (mgTup 3 (mgCons (mgName 1) (mgCons (mgName 2) (mgCons (mgName 3) mgNil)))))
  (mSeq (mIfS (mOr (mNot (mB (mCall m_are_names (mCons (mVar 1) mNil)))) (mNot (mB (mCall m_are_names (mCons (mVar 2) mNil))))) (mRet (mC (.bl false))) mNext)
  (mRet (mCb (fAll false) (mCons (mLc false (miAny (mVar 1)) (lgName 4) mYes (mOp (fEq true) (mOp (fIn false) (mVar 4) (mVar 2)) (mVar 3)) [4]) mNil)))))))
noncomputable def m_is_row : List D → Store → Res D := mFn 5 1 b_is_row
mutual
def gq (k : Nat) : D → Bool
  | .non => true
  | .bl _ => true
  | .int _ => true
  | .str z => decide (z.length ≤ k) && z.cps.toList.all fun c => decide (c < 128)
  | .lst ds => decide (ds.length ≤ k) && gqs k ds
  | .tup ds => decide (ds.length ≤ k) && gqs k ds
  | .dct ks ds => ks.isEmpty && ds.isEmpty
  | _ => false
def gqs (k : Nat) : List D → Bool
  | [] => true
  | d :: ds => gq k d && gqs k ds
end
theorem gqs_iff {k : Nat} : ∀ {ds : List D}, gqs k ds = true ↔ ∀ d ∈ ds, gq k d = true
  | [] => by simp [gqs]
  | d :: ds => by
    show (gq k d && gqs k ds) = true ↔ _
    rw [Bool.and_eq_true, gqs_iff (ds := ds)]
    simp
section
variable {Q : D → Store → Prop} {X : Exc → Store → Prop} {P : Post} {ρ : Mi.Env} {μ : Store} {d : D} {ds es : List D} {k : Nat}
mutual
theorem gq_mono {k j : Nat} (h : k ≤ j) : ∀ {d : D}, gq k d = true → gq j d = true
  | .non, _ => rfl
  | .bl _, _ => rfl
  | .int _, _ => rfl
  | .str z, e => by
    unfold gq at e ⊢
    rw [Bool.and_eq_true, decide_eq_true_eq] at e ⊢
    exact ⟨Nat.le_trans e.1 h, e.2⟩
  | .lst ds, e => by
    unfold gq at e ⊢
    rw [Bool.and_eq_true, decide_eq_true_eq] at e ⊢
    exact ⟨Nat.le_trans e.1 h, gqs_mono h e.2⟩
  | .tup ds, e => by
    unfold gq at e ⊢
    rw [Bool.and_eq_true, decide_eq_true_eq] at e ⊢
    exact ⟨Nat.le_trans e.1 h, gqs_mono h e.2⟩
  | .dct ks ds, e => e
theorem gqs_mono {k j : Nat} (h : k ≤ j) : ∀ {ds : List D}, gqs k ds = true → gqs j ds = true
  | [], _ => rfl
  | d :: ds, e => by
    unfold gqs at e ⊢
    rw [Bool.and_eq_true] at e ⊢
    exact ⟨gq_mono h e.1, gqs_mono h e.2⟩
end
theorem gq_dat (h : gq k d = true) : dat d = true := by cases d <;> first | rfl | cases h
theorem gq_str {z : Str} : gq k (.str z) = true ↔ z.length ≤ k ∧ ∀ c ∈ z.cps.toList, c < 128 := by
  unfold gq
  rw [Bool.and_eq_true, decide_eq_true_eq, List.all_eq_true]
  simp
theorem gq_tup : gq k (.tup ds) = true ↔ ds.length ≤ k ∧ ∀ d ∈ ds, gq k d = true := by
  show (decide (ds.length ≤ k) && gqs k ds) = true ↔ _
  rw [Bool.and_eq_true, decide_eq_true_eq, gqs_iff]
def isTupD : D → Bool
  | .tup _ => true
  | _ => false
theorem is_tup (h : dat d = true) : fIsS (.ty "tuple") d μ = .ok (.bl (isTupD d)) μ := by cases d <;> first | rfl | cases h
theorem gq_fit (hk : k ≤ 1000) (h : gq k d = true) : fitS d := by
  cases d with
  | str z =>
    have h1 := (gq_str.mp h).1
    have : 1000 ≤ sizeLine := by decide
    show z.length ≤ sizeLine
    omega
  | _ => trivial
def ltS (a b : Str) : Bool := decide (a.cps.toList < b.cps.toList)
@[simp] theorem f_ltS {a b : Str} : @Rp _ (fLt (.str a) (.str b) μ) Q X = Q (.bl (ltS a b)) μ := by
  have e : fLt (.str a) (.str b) μ = .ok (.bl (ltS a b)) μ := by
    unfold fLt
    rw [show D.view μ (.str a) = some (.str a) from rfl, show D.view μ (.str b) = some (.str b) from rfl]
    dsimp only
    rw [if_pos (by refine ⟨rfl, rfl, ?_, ?_, ?_⟩; simp only [PySem.W.alike]; exact (fun z => by cases z); exact Nat.zero_le _)]
    rw [PySem.W.dataLt_str]; rfl
  rw [e]; rfl
def ascS : List Str → Bool
  | [] => true
  | a :: r => (match r with | [] => true | b :: _ => ltS a b) && ascS r
def areS (ss : List Str) : Bool := ss.all Cs.isNameS && ascS ss
def areNames : D → Bool
  | .tup ds => match strsD ds with
    | some ss => areS ss
    | none => false
  | _ => false
theorem names_strs : ∀ {ds : List D}, ds.all isName = true → ∃ ss : List Str, ds = ss.map D.str ∧ ss.all Cs.isNameS = true
  | [], _ => ⟨[], rfl, rfl⟩
  | d :: ds, h => by
    rw [List.all_cons, Bool.and_eq_true] at h
    obtain ⟨ss, rfl, h2⟩ := names_strs h.2
    cases d with
    | str z => exact ⟨z :: ss, rfl, by rw [List.all_cons, Bool.and_eq_true]; exact ⟨h.1, h2⟩⟩
    | _ => cases h.1
theorem all_isName {ss : List Str} : (ss.map D.str).all isName = ss.all Cs.isNameS := by
  rw [List.all_map]; rfl
theorem strs_names {ss : List Str} : areNames (.tup (ss.map D.str)) = areS ss := by
  show (match strsD (ss.map D.str) with | some ss => areS ss | none => false) = _
  rw [strsD_map]
theorem zipA {α : Type} {f : α → D} : ∀ {l : List α} , zipD (l.map f) ((l.map f).drop 1) = (l.zip (l.drop 1)).map fun p => D.tup [f p.1, f p.2] := fun {l} => by
  unfold zipD
  rw [← List.map_drop, List.zip_map, List.map_map]
  rfl
theorem asc_zip : ∀ {ss : List Str}, ((ss.zip (ss.drop 1)).all fun p => ltS p.1 p.2) = ascS ss
  | [] => rfl
  | [a] => rfl
  | a :: b :: r => by
    show (((a, b) :: ((b :: r).zip r)).all fun p => ltS p.1 p.2) = _
    rw [List.all_cons]
    show (ltS a b && (((b :: r).zip ((b :: r).drop 1)).all fun p => ltS p.1 p.2)) = _
    rw [asc_zip]
    rfl
@[simp] theorem rp_revA {b : Bool} {a : ME} : @Rp _ (mRevA b a ρ μ) Q' X = @Rp _ (a ρ μ) (fun x μ => match x with
  | .tup ds => Q' (.tup ds.reverse) μ
  | x => match seqL μ x with
    | some ds => @Rp _ (newL b ds.reverse μ) Q' X
    | none => False) X := by
  unfold mRevA; rw [rp_bind]; congr 1; funext x μ; cases x <;> first | rfl | (simp only []; cases seqL μ _ <;> rfl)
@[simp] theorem rp_zip {a b : ME} {L : Src → Store → Prop} : @Rp _ (miZip a b ρ μ) L X = @Rp _ (a ρ μ) (fun x μ => @Rp _ (b ρ μ) (fun y μ => match zipS μ x y with
  | some s => L s μ
  | none => False) X) X := by
  unfold miZip
  simp only [rp_bind]
  congr 1; funext x μ; congr 1; funext y μ
  cases zipS μ x y <;> rfl
@[simp] theorem zipS_tup : zipS μ (.tup ds) (.tup es) = some ⟨zipD ds es, []⟩ := rfl
@[simp] theorem zipS_lst : zipS μ (.lst ds) (.lst es) = some ⟨zipD ds es, []⟩ := rfl
theorem gq_len (h : gq k (.tup ds) = true) : ds.length ≤ k := (gq_tup.mp h).1
theorem names_no (h : ds.all isName = false) : areNames (.tup ds) = false := by
  show (match strsD ds with | some ss => areS ss | none => false) = false
  cases e : strsD ds with
  | none => rfl
  | some ss =>
    have : ∀ {ds : List D} {ss : List Str}, strsD ds = some ss → ds = ss.map D.str := by
      intro ds
      induction ds with
      | nil => intro ss e; cases Option.some.inj e; rfl
      | cons d ds ih =>
        intro ss e
        cases d with
        | str z =>
          unfold strsD at e
          cases q : strsD ds with
          | none => rw [q] at e; cases e
          | some s2 =>
            rw [q] at e
            cases Option.some.inj e
            rw [ih q]; rfl
        | _ => cases e
    have e2 := this e
    subst e2
    rw [all_isName] at h
    show (ss.all Cs.isNameS && ascS ss) = false
    rw [h]; rfl
theorem are_names_eq (hk : k ≤ 1000) (h : gq k d = true) : m_are_names [d] μ = .ok (.bl (areNames d)) μ := ok_of (by
  have hd := gq_dat h
  have s6 : 1000 ≤ sizeLine := by decide
  simp [m_are_names, b_are_names, startD, is_tup hd]
  cases d with
  | tup ds =>
    obtain ⟨h1, h2⟩ := gq_tup.mp h
    simp only [isTupD, Bool.not_true, Bool.false_eq_true, if_false, any_tup]
    refine rp_lcm (fun d => .bl (isName d)) (by omega) (fun d hm => ⟨_, rfl, ok_of (by simp [wipeD, name_eq (gq_dat (h2 d hm)) (gq_fit hk (h2 d hm))])⟩) ?_
    rw [show (ds.map fun d => D.bl (isName d)) = (ds.map isName).map D.bl by rw [List.map_map]; rfl, f_all, List.all_map]
    by_cases ha : (ds.all isName) = true
    · have ha' : (ds.all (id ∘ isName)) = true := ha
      simp only [ha', Bool.not_true, Bool.false_eq_true, if_false, if_true, zipS_tup, f_slTup]
      obtain ⟨ss, rfl, h3⟩ := names_strs ha
      rw [strs_names, cut_lo (by decide)]
      rw [show Int.toNat 1 = 1 from rfl]
      rw [zipA]
      refine rp_lct (fun _ => true) (fun p => .bl (ltS p.1 p.2)) (by rw [List.length_zip]; rw [List.length_map] at h1; omega) (fun p hp => ⟨_, rfl, rfl, fun _ => ok_of (by simp [wipeD])⟩) ?_
      rw [List.filter_eq_self.mpr fun _ _ => rfl, show ((ss.zip (ss.drop 1)).map fun p => D.bl (ltS p.1 p.2)) = ((ss.zip (ss.drop 1)).map fun p => ltS p.1 p.2).map D.bl by rw [List.map_map]; rfl, f_all, List.all_map]
      refine ⟨?_, rfl⟩
      show D.bl ((ss.zip (ss.drop 1)).all fun p => ltS p.1 p.2) = _
      rw [asc_zip, areS, h3, Bool.true_and]
    · have ha' : (ds.all (id ∘ isName)) = false := by simpa using ha
      simp only [ha', Bool.not_false, if_true]
      exact ⟨by rw [names_no (by simpa using ha)], trivial⟩
  | _ => simp [isTupD, areNames])
theorem areNames_tup (h : areNames d = true) : ∃ ss : List Str, d = .tup (ss.map D.str) ∧ areS ss = true := by
  cases d with
  | tup ds =>
    cases q : ds.all isName with
    | false => rw [names_no q] at h; cases h
    | true =>
      obtain ⟨ss, rfl, _⟩ := names_strs q
      exact ⟨ss, rfl, by rw [← strs_names]; exact h⟩
  | _ => cases h
def namesD : D → List Str
  | .tup ds => (strsD ds).getD []
  | _ => []
@[simp] theorem namesD_tup {ss : List Str} : namesD (.tup (ss.map D.str)) = ss := by simp [namesD, strsD_map]
def rowOkS (a b : List Str) (o : Bool) : Bool := a.all fun n => decide (n ∈ b) != o
def isRow : D → Bool
  | .non => true
  | .tup [a, b, .bl o] => areNames a && (areNames b && rowOkS (namesD a) (namesD b) o)
  | _ => false
theorem f_inTSs {neg : Bool} {z : Str} {ss : List Str} : @Rp _ (fIn neg (.str z) (.tup (ss.map D.str)) μ) Q X = Q (.bl (if neg = true then !decide (z ∈ ss) else decide (z ∈ ss))) μ := by
  rw [f_inT (fun _ _ => trivial) rfl strs_flat, inF_strs]
theorem is_row_eq (hk : k ≤ 1000) (h : gq k d = true) : m_is_row [d] μ = .ok (.bl (isRow d)) μ := ok_of (by
  have hd := gq_dat h
  have s6 : 1000 ≤ sizeLine := by decide
  simp [m_is_row, b_is_row, startD, is_tup hd]
  cases d with
  | tup ds =>
    obtain ⟨h1, h2⟩ := gq_tup.mp h
    simp only [isTupD, isNonD, Bool.not_true, Bool.false_eq_true, if_false, f_lenTup, f_eqI]
    by_cases h3 : ds.length = 3
    · match ds, h3 with
      | [a, b, c], _ =>
        have ga := h2 a (by simp)
        have gb := h2 b (by simp)
        have gc := h2 c (by simp)
        have ec := is_bl (μ := μ) (gq_dat gc)
        cases c with
        | bl o =>
          simp [isBlD, are_names_eq hk ga, are_names_eq hk gb, isRow, ec]
          by_cases ea : areNames a = true
          · by_cases eb : areNames b = true
            · obtain ⟨as, rfl, _⟩ := areNames_tup ea
              obtain ⟨bs, rfl, _⟩ := areNames_tup eb
              have la := gq_len ga
              rw [List.length_map] at la
              simp [ea, eb, any_tup]
              refine rp_lct (fun _ => true) (fun n => .bl (decide (n ∈ bs) != o)) (by omega) (fun n hn => ⟨_, rfl, rfl, fun _ => ok_of (by simp [wipeD, f_inTSs]; cases o <;> by_cases q : n ∈ bs <;> simp [q])⟩) ?_
              rw [List.filter_eq_self.mpr fun _ _ => rfl, show (as.map fun n => D.bl (decide (n ∈ bs) != o)) = (as.map fun n => decide (n ∈ bs) != o).map D.bl by rw [List.map_map]; rfl, f_all, List.all_map]
              exact ⟨rfl, rfl⟩
            · simp [ea, eb]
          · simp [ea]
        | _ => simp [isBlD, isRow, ec]
    · have h3' : ¬ ((ds.length : Int) = 3) := by omega
      have e : isRow (.tup ds) = false := by
        match ds, h3 with
        | [], _ => rfl
        | [a], _ => rfl
        | [a, b], _ => rfl
        | [a, b, c], h => exact absurd rfl h
        | a :: b :: c :: d :: r, _ => cases c <;> rfl
      simp [h3', e]
  | _ => simp [isTupD, isRow, isNonD])
end
end Pl
namespace Pl
open PySem PySem.Spec L2 Mi
mutual
theorem pd_pdW {f : Nat → Option PyData} : ∀ {d : D} {p : PyData}, d.pd = some p → d.pdW f = some p
  | .non, _, e => e
  | .bl _, _, e => e
  | .int _, _, e => e
  | .str _, _, e => e
  | .lst ds, p, e => by
    unfold D.pd at e
    unfold D.pdW
    cases q : pds ds with
    | none => rw [q] at e; cases e
    | some ps => rw [q] at e; rw [pds_pdsW q]; exact e
  | .tup ds, p, e => by
    unfold D.pd at e
    unfold D.pdW
    cases q : pds ds with
    | none => rw [q] at e; cases e
    | some ps => rw [q] at e; rw [pds_pdsW q]; exact e
  | .dct ks ds, p, e => by
    unfold D.pd at e
    unfold D.pdW
    cases q : pds ds with
    | none => rw [q] at e; cases e
    | some ps => rw [q] at e; rw [pds_pdsW q]; exact e
  | .ty _, _, e => by cases e
  | .obj _ _ _, _, e => by cases e
  | .exc _ _ _, _, e => by cases e
  | .cls _, _, e => by cases e
  | .own _, _, e => by cases e
theorem pds_pdsW {f : Nat → Option PyData} : ∀ {ds : List D} {ps : List PyData}, pds ds = some ps → pdsW f ds = some ps
  | [], _, e => e
  | d :: ds, ps, e => by
    unfold pds at e
    unfold pdsW
    split at e
    · rename_i p q h1 h2
      rw [pd_pdW h1, pds_pdsW h2]
      exact e
    · cases e
end
theorem pds_len : ∀ {ds : List D} {ps : List PyData}, pds ds = some ps → ps.length = ds.length
  | [], _, e => by cases Option.some.inj e; rfl
  | d :: ds, ps, e => by
    unfold pds at e
    split at e
    · rename_i p q h1 h2
      cases Option.some.inj e
      simp [pds_len h2]
    · cases e
theorem eqvAll_len : ∀ {ps qs : List PyData}, ps.length ≠ qs.length → PyData.eqvAll ps qs = false
  | [], [], h => absurd rfl h
  | [], _ :: _, _ => rfl
  | _ :: _, [], _ => rfl
  | p :: ps, q :: qs, h => by
    rw [PyData.eqvAll, eqvAll_len (by simpa using h), Bool.and_false]
section
variable {Q : D → Store → Prop} {X : Exc → Store → Prop} {μ : Store} {x y : D} {p q : PyData}
theorem eqView_pd {neg : Bool} (hx : x.pd = some p) (hy : y.pd = some q) (sp : SeqAt.shaped p = true) (sq : SeqAt.shaped q = true) : eqView neg x y μ = .ok (.bl (if neg = true then !PyData.eqv p q else PyData.eqv p q)) μ := by
  unfold eqView D.view
  rw [pd_pdW hx, pd_pdW hy]
  dsimp only
  rw [if_pos ⟨sp, sq⟩]
theorem f_eqPd {neg : Bool} (hx : x.pd = some p) (hy : y.pd = some q) (sp : SeqAt.shaped p = true) (sq : SeqAt.shaped q = true) : @Rp _ (fEq neg x y μ) Q X = Q (.bl (if neg = true then !PyData.eqv p q else PyData.eqv p q)) μ := by
  have e : fEq neg x y μ = .ok (.bl (if neg = true then !PyData.eqv p q else PyData.eqv p q)) μ := by
    have key := eqView_pd (neg := neg) (μ := μ) hx hy sp sq
    unfold fEq
    split
    · rename_i xs ys e1 e2
      split
      · exact key
      · rename_i hn
        cases x with
        | lst ds0 =>
          cases y with
          | lst es0 =>
            obtain rfl : ds0 = xs := Option.some.inj e1
            obtain rfl : es0 = ys := Option.some.inj e2
            unfold D.pd at hx hy
            cases q1 : pds ds0 with
            | none => rw [q1] at hx; cases hx
            | some ps =>
              cases q2 : pds es0 with
              | none => rw [q2] at hy; cases hy
              | some qs =>
                rw [q1] at hx
                rw [q2] at hy
                cases Option.some.inj hx
                cases Option.some.inj hy
                rw [PyData.eqv, eqvAll_len (by rw [pds_len q1, pds_len q2]; exact hn)]
                cases neg <;> rfl
          | own _ => cases hy
          | _ => cases e2
        | own _ => cases hx
        | _ => cases e1
    · unfold eqOne
      split
      · cases Option.some.inj hx
        cases Option.some.inj hy
        simp only [PyData.eqv]
      · exact key
  rw [e]; rfl
end
theorem pds_map {α : Type} {f : α → D} {g : α → PyData} (h : ∀ a, (f a).pd = some (g a)) : ∀ l : List α, pds (l.map f) = some (l.map g)
  | [] => rfl
  | a :: l => by
    show (match (f a).pd, pds (l.map f) with | some p, some ps => some (p :: ps) | _, _ => none) = _
    rw [h a, pds_map h l]; rfl
theorem eqvAll_map {α : Type} [BEq α] {g : α → PyData} (h : ∀ a b, PyData.eqv (g a) (g b) = (a == b)) : ∀ l m : List α, PyData.eqvAll (l.map g) (m.map g) = (l == m)
  | [], [] => rfl
  | [], _ :: _ => rfl
  | _ :: _, [] => rfl
  | a :: l, b :: m => by
    show (PyData.eqv (g a) (g b) && PyData.eqvAll (l.map g) (m.map g)) = _
    rw [h, eqvAll_map h l m]; rfl
theorem lay_map {α : Type} {g : α → PyData} : ∀ {l : List α}, (∀ a ∈ l, (g a).canLay0 = true) → PyData.canLayAll0 (l.map g) = true
  | [], _ => rfl
  | a :: l, h => by
    show ((g a).canLay0 && PyData.canLayAll0 (l.map g)) = true
    rw [h a List.mem_cons_self, lay_map fun b hb => h b (List.mem_cons_of_mem _ hb)]; rfl
theorem dep_map {α : Type} {g : α → PyData} {n : Nat} : ∀ {l : List α}, (∀ a ∈ l, (g a).depth ≤ n) → PyData.depthAll (l.map g) ≤ n
  | [], _ => Nat.zero_le _
  | a :: l, h => by
    show max (g a).depth (PyData.depthAll (l.map g)) ≤ n
    exact Nat.max_le.mpr ⟨h a List.mem_cons_self, dep_map fun b hb => h b (List.mem_cons_of_mem _ hb)⟩
def strLow (z : Str) : Prop := ∀ c ∈ z.cps.toList, c < 128
theorem strLow_ok {z : Str} (h : strLow z) : PyData.strOk z = true := by
  unfold PyData.strOk
  rw [← Array.all_toList, List.all_eq_true]
  intro c hc
  have := h c hc
  simp only [decide_eq_true_eq]
  omega
theorem name_low {z : Str} (h : Cs.isNameS z = true) : strLow z := fun c hc => by
  unfold Cs.isNameS at h
  simp only [Bool.and_eq_true] at h
  have h2 := h.2
  unfold Cs.isWord at h2
  have := (List.all_eq_true.mp h2) c hc
  simp only [Bool.and_eq_true, decide_eq_true_eq] at this
  omega
abbrev SRow := Option (List Str × List Str × Bool)
def rowD : SRow → D
  | none => .non
  | some (a, b, o) => .tup [.tup (a.map .str), .tup (b.map .str), .bl o]
def rowP : SRow → PyData
  | none => .none
  | some (a, b, o) => .tuple [.tuple (a.map .str), .tuple (b.map .str), .bool o]
def rowV : SRow → Bool
  | none => true
  | some (a, b, o) => areS a && (areS b && rowOkS a b o)
theorem strs_pd (a : List Str) : pds (a.map D.str) = some (a.map PyData.str) := pds_map (fun _ => rfl) a
theorem tup_pd {ds : List D} {ps : List PyData} (h : pds ds = some ps) : (D.tup ds).pd = some (.tuple ps) := by
  unfold D.pd; rw [h]; rfl
theorem row_pd : ∀ r : SRow, (rowD r).pd = some (rowP r)
  | none => rfl
  | some (a, b, o) => by
    refine tup_pd ?_
    show (match (D.tup (a.map .str)).pd, pds [D.tup (b.map .str), .bl o] with | some p, some ps => some (p :: ps) | _, _ => none) = _
    rw [tup_pd (strs_pd a)]
    show (match some (PyData.tuple (a.map .str)), (match (D.tup (b.map .str)).pd, pds [D.bl o] with | some p, some ps => some (p :: ps) | _, _ => none) with | some p, some ps => some (p :: ps) | _, _ => none) = _
    rw [tup_pd (strs_pd b)]
    rfl
theorem strs_eqv (a b : List Str) : PyData.eqv (.tuple (a.map .str)) (.tuple (b.map .str)) = (a == b) := by
  rw [PyData.eqv]
  exact eqvAll_map (fun x y => by rw [PyData.eqv]) a b
theorem row_eqv : ∀ r s : SRow, PyData.eqv (rowP r) (rowP s) = (r == s)
  | none, none => by simp only [rowP, PyData.eqv]; rfl
  | none, some (a, b, o) => by simp only [rowP, PyData.eqv]; rfl
  | some (a, b, o), none => by simp only [rowP, PyData.eqv]; rfl
  | some (a, b, o), some (c, d, p) => by
    simp only [rowP]
    rw [PyData.eqv, PyData.eqvAll, PyData.eqvAll, PyData.eqvAll, PyData.eqvAll, strs_eqv, strs_eqv, PyData.eqv, Bool.and_true]
    rfl
theorem areS_low {a : List Str} (h : areS a = true) : ∀ z ∈ a, strLow z := fun z hz => by
  unfold areS at h
  rw [Bool.and_eq_true, List.all_eq_true] at h
  exact name_low (h.1 z hz)
theorem strs_lay {a : List Str} (h : ∀ z ∈ a, strLow z) : (PyData.tuple (a.map .str)).canLay0 = true := by
  rw [PyData.canLay0]
  exact lay_map fun z hz => by rw [PyData.canLay0]; exact strLow_ok (h z hz)
theorem strs_dep {a : List Str} : (PyData.tuple (a.map .str)).depth ≤ 1 := by
  rw [PyData.depth]
  have := dep_map (g := PyData.str) (n := 0) (l := a) fun z _ => by rw [PyData.depth]; exact Nat.le_refl _
  omega
theorem row_lay {r : SRow} (h : rowV r = true) : (rowP r).canLay0 = true := by
  cases r with
  | none => rfl
  | some x =>
    obtain ⟨a, b, o⟩ := x
    have h' : (areS a && (areS b && rowOkS a b o)) = true := h
    simp only [Bool.and_eq_true] at h'
    simp only [rowP]
    rw [PyData.canLay0, PyData.canLayAll0, PyData.canLayAll0, PyData.canLayAll0, PyData.canLayAll0, strs_lay (areS_low h'.1), strs_lay (areS_low h'.2.1)]
    rfl
theorem row_dep (r : SRow) : (rowP r).depth ≤ 2 := by
  cases r with
  | none => simp only [rowP, PyData.depth]; omega
  | some x =>
    obtain ⟨a, b, o⟩ := x
    have h1 := strs_dep (a := a)
    have h2 := strs_dep (a := b)
    simp only [rowP]
    rw [PyData.depth, PyData.depthAll, PyData.depthAll, PyData.depthAll, PyData.depthAll]
    have h3 : (PyData.bool o).depth = 0 := by rw [PyData.depth]
    omega
theorem shaped_of {p : PyData} (h : p.canLay0 = true) (d : p.depth ≤ 64) : SeqAt.shaped p = true := by
  unfold SeqAt.shaped
  rw [h, decide_eq_true d]; rfl
theorem row_shaped {r : SRow} (h : rowV r = true) : SeqAt.shaped (rowP r) = true := shaped_of (row_lay h) (Nat.le_trans (row_dep r) (by decide))
section
variable {Q : D → Store → Prop} {X : Exc → Store → Prop} {μ : Store}
theorem f_eqRow {neg : Bool} {r s : SRow} (hr : rowV r = true) (hs : rowV s = true) : @Rp _ (fEq neg (rowD r) (rowD s) μ) Q X = Q (.bl (if neg = true then !(r == s) else r == s)) μ := by
  rw [f_eqPd (row_pd r) (row_pd s) (row_shaped hr) (row_shaped hs), row_eqv]
theorem isRow_row {r : SRow} : isRow (rowD r) = rowV r := by
  cases r with
  | none => rfl
  | some x =>
    obtain ⟨a, b, o⟩ := x
    show (areNames (.tup (a.map .str)) && (areNames (.tup (b.map .str)) && rowOkS (namesD (.tup (a.map .str))) (namesD (.tup (b.map .str))) o)) = _
    rw [strs_names, strs_names, namesD_tup, namesD_tup]; rfl
theorem isRow_of {d : D} (h : isRow d = true) : ∃ r, d = rowD r ∧ rowV r = true := by
  unfold isRow at h
  split at h
  · exact ⟨none, rfl, rfl⟩
  · rename_i a b o
    simp only [Bool.and_eq_true] at h
    obtain ⟨as, rfl, ha⟩ := areNames_tup h.1
    obtain ⟨bs, rfl, hb⟩ := areNames_tup h.2.1
    rw [namesD_tup, namesD_tup] at h
    exact ⟨some (as, bs, o), rfl, by show (areS as && (areS bs && rowOkS as bs o)) = true; rw [ha, hb, h.2.2]; rfl⟩
  · cases h
end
end Pl
namespace Pl
open PySem PySem.Spec L2 Mi
noncomputable def b_Staircase_dinitd : MS := (mSeq (mIfS (mOr (mNot (mB (mUn (fIsL [(.ty "list"), (.ty "tuple")]) (mVar 1)))) (mB (mOp (fEq false) (mCb fLen (mCons (mVar 1) mNil)) (mC (.int 0))))) (mRaiseF "BadRow" "index" (mCons (mC (.int 0)) mNil)) mNext)
  (mSeq (mFor (miEnum (mCons (mVar 1) mNil)) (mgTup 2 (mgCons (mgName 2) (mgCons (mgName 3) mgNil))) (mIfS (mNot (mB (mCall m_is_row (mCons (mVar 3) mNil)))) (mRaiseF "BadRow" "index" (mCons (mVar 2) mNil)) mNext))
  (mSeq (mSet 4 (mCb (fList true) (mCons (mVar 1) mNil)))
  (mSeq (mWhile (mAnd (mB (mOp (fI2 fun i j => .bl (decide (j < i))) (mCb fLen (mCons (mVar 4) mNil)) (mC (.int 1)))) (mB (mOp (fEq false) (mOp fIx (mVar 4) (mUn fNeg (mC (.int 1)))) (mOp fIx (mVar 4) (mUn fNeg (mC (.int 2))))))) (mDrop (mBm "list" fPop0 (mVar 4) mNil)))
  (mPutF ["Staircase"] "own_rows" (mVar 0) (mCb fTuple (mCons (mVar 4) mNil)))))))
noncomputable def m_Staircase_dinitd : List D → Store → Res D := mFn 5 2 b_Staircase_dinitd
def shortG : List SRow → List SRow
  | a :: b :: r => if a == b then shortG (b :: r) else a :: b :: r
  | l => l
theorem shortG_same {a b : SRow} {r : List SRow} (h : a = b) : shortG (a :: b :: r) = shortG (b :: r) := by
  conv => lhs; unfold shortG
  rw [if_pos (by rw [h]; exact beq_self_eq_true _)]
theorem shortG_stop {a b : SRow} {r : List SRow} (h : a ≠ b) : shortG (a :: b :: r) = a :: b :: r := by
  conv => lhs; unfold shortG
  rw [if_neg (by simpa using h)]
def shortR (rs : List SRow) : List SRow := (shortG rs.reverse).reverse
def stD (rs : List SRow) : D := .obj "Staircase" ["own_rows"] [.tup (rs.map rowD)]
theorem shortG_mem : ∀ {l : List SRow} {r : SRow}, r ∈ shortG l → r ∈ l
  | [], _, h => h
  | [a], _, h => h
  | a :: b :: l, r, h => by
    unfold shortG at h
    split at h
    · exact List.mem_cons_of_mem _ (shortG_mem h)
    · exact h
theorem shortR_mem {rs : List SRow} {r : SRow} (h : r ∈ shortR rs) : r ∈ rs := by
  unfold shortR at h
  exact List.mem_reverse.mp (shortG_mem (List.mem_reverse.mp h))
theorem shortG_ne : ∀ {l : List SRow}, l ≠ [] → shortG l ≠ []
  | [], h => absurd rfl h
  | [a], _ => fun z => by cases z
  | a :: b :: l, _ => by
    unfold shortG
    split
    · exact shortG_ne fun z => by cases z
    · exact fun z => by cases z
theorem shortR_ne {rs : List SRow} (h : rs ≠ []) : shortR rs ≠ [] := fun z => shortG_ne (l := rs.reverse) (fun e => h (by simpa using e)) (by simpa [shortR] using z)
section
variable {Q : D → Store → Prop} {X : Exc → Store → Prop} {P : Post} {ρ : Mi.Env} {μ μ0 : Store} {n k : Nat} {x : D} {ds : List D}
theorem atI_m1 {xs : List D} {y : D} : atI (xs ++ [y]) (-1) = some y := by rw [atI_neg1]; simp
theorem atI_m2 {xs : List D} {y z : D} : atI (xs ++ [y, z]) (-2) = some y := by
  unfold atI ixN
  rw [if_neg (by decide), if_pos (by simp only [List.length_append, List.length_cons, List.length_nil]; omega)]
  show (xs ++ [y, z])[_]? = _
  have : ((-2 : Int) + ((xs ++ [y, z]).length : Int)).toNat = xs.length := by simp only [List.length_append, List.length_cons, List.length_nil]; omega
  rw [this]
  simp
theorem f_pop0 {j : Nat} {y : D} (h : μ[j]? = some (some (.lst (ds ++ [y])))) : @Rp _ (fPop0 (.own j) [] μ) Q X = Q y (μ.set j (some (.lst ds))) := by
  unfold fPop0
  rw [ownL_own h]
  simp
structure SeqIn (x : D) (ds : List D) (w : List Nat) (μ : Store) : Prop where
  isl : ∀ t, fIsL [.ty "list", .ty "tuple"] x (μ ++ t) = .ok (.bl true) (μ ++ t)
  len : ∀ t, fLen [x] (μ ++ t) = .ok (.int ds.length) (μ ++ t)
  en : ∀ t, (seqL (μ ++ t) x = some ds ∧ w = x.cell) ∨ (seqL (μ ++ t) x = none ∧ seqT x = some ds ∧ w = [])
  lt : ∀ j ∈ w, j < μ.length
theorem SeqIn.lst : SeqIn (.lst ds) ds [] μ := ⟨fun _ => rfl, fun _ => rfl, fun _ => .inl ⟨rfl, rfl⟩, fun _ h => by cases h⟩
theorem SeqIn.tup : SeqIn (.tup ds) ds [] μ := ⟨fun _ => rfl, fun _ => rfl, fun _ => .inr ⟨rfl, rfl, rfl⟩, fun _ h => by cases h⟩
theorem SeqIn.own {j : Nat} (h : μ[j]? = some (some (.lst ds))) : SeqIn (.own j) ds [j] μ := by
  have lt := (List.getElem?_eq_some_iff.mp h).1
  have e : ∀ t, (μ ++ t)[j]? = some (some (.lst ds)) := fun t => by rw [List.getElem?_append_left lt]; exact h
  refine ⟨fun t => ?_, fun t => ?_, fun t => .inl ⟨seqL_own (e t), rfl⟩, fun i hi => by rw [List.mem_singleton.mp hi]; exact lt⟩
  · have q : tnD (μ ++ t) (.own j) = some (.b "list") := by unfold tnD; simp [e t, tnC]
    unfold fIsL kindOk
    rw [q]; rfl
  · exact ok_of (by rw [f_lenL (seqL_own (e t))]; exact ⟨rfl, rfl⟩)
theorem SeqIn.fl {w : List Nat} (h : SeqIn x ds w μ) (t : Store) {b : Bool} : @Rp _ (fList b [x] (μ ++ t)) Q X = @Rp _ (newL b ds (μ ++ t)) Q X := by
  rcases h.en t with ⟨e, _⟩ | ⟨e1, e2, _⟩
  · exact f_list e
  · unfold fList; simp [e1, e2]
theorem SeqIn.ri {w : List Nat} (h : SeqIn x ds w μ) (t : Store) {S : Src → Store → Prop} {a : MA} (ha : @Rp _ (a ρ (μ ++ t)) (fun xs μ' => xs = [x] ∧ μ' = μ ++ t) X) (k : S ⟨enumD ds, w⟩ (μ ++ t)) : @Rp _ (miEnum a ρ (μ ++ t)) S X := by
  rw [ri_enum]
  refine rp_mono ha (fun xs μ' q => ?_) fun _ _ h => h
  obtain ⟨rfl, rfl⟩ := q
  dsimp only
  rcases h.en t with ⟨e, rfl⟩ | ⟨e1, e2, rfl⟩
  · rw [e]; exact k
  · rw [e1, e2]; exact k
def badAt (ds : List D) : Option Nat := ds.findIdx? fun d => !isRow d
theorem badAt_split {pre post : List D} {d : D} (h : ∀ e ∈ pre, isRow e = true) (hd : isRow d = false) : badAt (pre ++ d :: post) = some pre.length := by
  unfold badAt
  rw [List.findIdx?_append, List.findIdx?_eq_none_iff.mpr fun e he => by rw [h e he]; rfl]
  simp [List.findIdx?_cons, hd]
theorem badAt_none {ds : List D} (h : ∀ e ∈ ds, isRow e = true) : badAt ds = none := by
  unfold badAt
  rw [List.findIdx?_eq_none_iff]
  intro e he
  rw [h e he]; rfl
theorem rows_of : ∀ {ds : List D}, (∀ e ∈ ds, isRow e = true) → ∃ rs : List SRow, ds = rs.map rowD ∧ ∀ r ∈ rs, rowV r = true
  | [], _ => ⟨[], rfl, fun _ h => by cases h⟩
  | d :: ds, h => by
    obtain ⟨r, rfl, hr⟩ := isRow_of (h d List.mem_cons_self)
    obtain ⟨rs, rfl, hs⟩ := rows_of (ds := ds) fun e he => h e (List.mem_cons_of_mem _ he)
    exact ⟨r :: rs, rfl, fun s hs' => by
      rcases List.mem_cons.mp hs' with rfl | z
      · exact hr
      · exact hs s z⟩
theorem stair_rp {w : List Nat} (hk : k ≤ 1000) (hz : ds.length ≤ 1000) (hs : SeqIn x ds w μ) (hg : ∀ d ∈ ds, gq k d = true) (h0 : ds ≠ [])
    (hbad : ∀ i t, badAt ds = some i → X ⟨"BadRow", ["index"], [.int (i : Nat)]⟩ (μ ++ t))
    (hok : ∀ rs t, ds = rs.map rowD → (∀ r ∈ rs, rowV r = true) → Q (stD (shortR rs)) (μ ++ t)) : @Rp _ (mkObj true "Staircase" m_Staircase_dinitd [x] μ) Q X := by
  have z6 : 1000 ≤ sizeLine := by decide
  have hn : 0 < ds.length := List.length_pos_iff.mpr h0
  refine rp_mkObj (rp_fnI rfl ?_)
  simp only [b_Staircase_dinitd, startD]
  have ne : ¬ ((ds.length : Int) = 0) := by omega
  refine rs_go fun N hN => ?_
  simp [hs.isl, hs.len, h0]
  refine hN _ _ ?_
  refine rs_go fun N hN => ?_
  rw [rs_for]
  refine hs.ri _ (by simp) ?_
  refine enum_inv (fun pre ρ μ1 => (∃ a b, ρ = [some (.own μ.length), some x, a, b, none]) ∧ μ1 = μ ++ [some (.obj "Staircase" [] [])] ∧ ∀ d ∈ pre, isRow d = true) ⟨⟨none, none, rfl⟩, rfl, fun _ h => by cases h⟩ (fun pre ρ μ1 h => by rw [h.2.1]; exact watch_rfl) ?_ ?_
  · rintro pre d post ρ μ1 e ⟨⟨a, b, rfl⟩, rfl, hp⟩
    have gd := hg d (by rw [e]; simp)
    simp [is_row_eq hk gd]
    cases hd : isRow d with
    | true =>
      simp
      exact fun d' hd' => by
        rcases hd' with z | rfl
        · exact hp d' z
        · exact hd
    | false =>
      simp
      have := hbad pre.length [some (.obj "Staircase" [] [])] (by rw [e]; exact badAt_split hp hd)
      exact this
  · rintro ρ μ1 ⟨⟨a, b, rfl⟩, rfl, hp⟩
    refine hN _ _ ?_
    obtain ⟨rs, ers, hv⟩ := rows_of hp
    refine rs_go fun N hN => ?_
    simp [hs.fl]
    refine hN _ _ ?_
    refine rs_go fun N hN => ?_
    refine while_inv (fun m ρ μ1 => ∃ rl : List SRow, m = rl.length ∧ rl ≠ [] ∧ (∀ r ∈ rl, rowV r = true) ∧ shortG rl = shortG rs.reverse ∧ ρ = [some (.own μ.length), some x, a, b, some (.own (μ.length + 1))] ∧ μ1 = μ ++ [some (.obj "Staircase" [] []), some (.lst (rl.reverse.map rowD))]) rs.length ⟨rs.reverse, by simp, by
      intro z
      have : rs = [] := by simpa using z
      rw [ers, this] at h0
      exact h0 rfl, fun r hr => hv r (List.mem_reverse.mp hr), rfl, rfl, by simp [ers]⟩ ?_
    rintro m ρ μ1 ⟨rl, rfl, hne, hrv, hsh, rfl, rfl⟩
    obtain ⟨L, hL⟩ : ∃ L, rl.reverse.map rowD = L := ⟨_, rfl⟩
    have lenL : L.length = rl.length := by rw [← hL]; simp
    rw [hL]
    have at1 : (μ ++ [some (.obj "Staircase" [] []), some (.lst L)])[μ.length + 1]? = some (some (.lst L)) := by simp
    have at0 : (μ ++ [some (.obj "Staircase" [] []), some (.lst L)])[μ.length]? = some (some (.obj "Staircase" [] [])) := by simp
    have lenE : ∀ Q X, @Rp _ (fLen [.own (μ.length + 1)] (μ ++ [some (.obj "Staircase" [] []), some (.lst L)])) Q X = Q (.int L.length) (μ ++ [some (.obj "Staircase" [] []), some (.lst L)]) := fun Q X => f_lenL (seqL_own at1)
    have fin : shortG rl = rl → N [some (.own μ.length), some x, a, b, some (.own (μ.length + 1))] (μ ++ [some (.obj "Staircase" [] []), some (.lst L)]) := fun e => by
      refine hN _ _ ?_
      have et : fTuple [.own (μ.length + 1)] (μ ++ [some (.obj "Staircase" [] []), some (.lst L)]) = .ok (.tup L) (μ ++ [some (.obj "Staircase" [] []), some (.lst L)]) := by
        unfold fTuple
        simp [seqL_own at1]
      simp [et, ownO_own at0]
      have key := hok rs [none, some (.lst L)] ers hv
      rw [← e, hsh] at hL
      refine ⟨_, rfl, ?_⟩
      rw [← hL] at key ⊢
      exact key
    cases rl with
    | nil => exact absurd rfl hne
    | cons r1 rl =>
      cases rl with
      | nil =>
        have l1 : ¬ (1 : Int) < L.length := by rw [lenL]; simp
        simp [lenE, l1]
        exact fin rfl
      | cons r2 rl =>
        have e1 : L = (rl.reverse.map rowD) ++ [rowD r2, rowD r1] := by rw [← hL]; simp
        have e2 : L = ((r2 :: rl).reverse.map rowD) ++ [rowD r1] := by rw [← hL]; simp
        have v1 := hrv r1 (by simp)
        have v2 := hrv r2 (by simp)
        have l1 : (1 : Int) < L.length := by rw [lenL]; simp only [List.length_cons]; omega
        have i1 : ∀ Q X, @Rp _ (fIx (.own (μ.length + 1)) (.int (-1)) (μ ++ [some (.obj "Staircase" [] []), some (.lst L)])) Q X = Q (rowD r1) (μ ++ [some (.obj "Staircase" [] []), some (.lst L)]) := fun Q X => by
          rw [f_ixL (seqL_own at1), show atI L (-1) = some (rowD r1) by rw [e2]; exact atI_m1]
        have i2 : ∀ Q X, @Rp _ (fIx (.own (μ.length + 1)) (.int (-2)) (μ ++ [some (.obj "Staircase" [] []), some (.lst L)])) Q X = Q (rowD r2) (μ ++ [some (.obj "Staircase" [] []), some (.lst L)]) := fun Q X => by
          rw [f_ixL (seqL_own at1), show atI L (-2) = some (rowD r2) by rw [e1]; exact atI_m2]
        simp [lenE, l1, i1, i2, f_eqRow v1 v2]
        by_cases er : r1 = r2
        · rw [if_pos er]
          refine ⟨tyM_ownL at1, ?_⟩
          rw [f_pop0 (ds := (r2 :: rl).reverse.map rowD) (y := rowD r1) (by rw [← e2]; exact at1)]
          refine ⟨r2 :: rl, by simp, by simp, fun r hr => hrv r (List.mem_cons_of_mem _ hr), ?_, ?_⟩
          · rw [← hsh, shortG_same er]
          · simp
        · rw [if_neg er]
          exact fin (shortG_stop er)
end
end Pl
namespace Pl
open PySem PySem.Spec L2 Mi
noncomputable def b_Staircase_row : MS := (mRet (mOp fIx (mFld ["Staircase"] "own_rows" (mVar 0)) (mCb fMin2 (mCons (mVar 1) (mCons (mOp (fI2 fun i j => .int (i - j)) (mCb fLen (mCons (mFld ["Staircase"] "own_rows" (mVar 0)) mNil)) (mC (.int 1))) mNil)))))
noncomputable def m_Staircase_row : List D → Store → Res D := mFn 2 2 b_Staircase_row
def rowAt (rs : List SRow) (c : Nat) : SRow := rs.getD (min c (rs.length - 1)) none
def acc : SRow → List Str → Bool
  | none, _ => false
  | some (a, b, o), ns => (a.all fun n => decide (n ∈ ns)) && ns.all fun n => decide (n ∈ b) != o
theorem rowAt_mem {rs : List SRow} {c : Nat} (h : rs ≠ []) : rowAt rs c ∈ rs := by
  unfold rowAt
  have : 0 < rs.length := List.length_pos_iff.mpr h
  rw [List.getD_eq_getElem?_getD, List.getElem?_eq_getElem (by omega)]
  exact List.getElem_mem _
section
variable {Q : D → Store → Prop} {X : Exc → Store → Prop} {P : Post} {ρ : Mi.Env} {μ μ0 : Store} {n k : Nat} {x d : D} {ds : List D} {rs ss : List SRow} {r : SRow} {ns : List Str}
@[simp] theorem look_own {d : D} : lookF (Str.ofString "own_rows") [Str.ofString "own_rows"] [d] = some d := by unfold lookF; rw [if_pos rfl]
theorem f_minI {i j : Int} : @Rp _ (fMin2 [.int i, .int j] μ) Q X = Q (.int (if j < i then j else i)) μ := rfl
theorem at_row {c : Nat} (h : rs ≠ []) : atI (rs.map rowD) (if (rs.length : Int) - 1 < (c : Int) then (rs.length : Int) - 1 else (c : Int)) = some (rowD (rowAt rs c)) := by
  have hp : 0 < rs.length := List.length_pos_iff.mpr h
  have e : (if (rs.length : Int) - 1 < (c : Int) then (rs.length : Int) - 1 else (c : Int)) = ((min c (rs.length - 1) : Nat) : Int) := by
    split <;> omega
  rw [e, atI_natN, List.getElem?_map]
  unfold rowAt
  rw [List.getD_eq_getElem?_getD, List.getElem?_eq_getElem (by omega)]
  rfl
theorem row_m {c : Nat} (h : rs ≠ []) : m_Staircase_row [stD rs, .int c] μ = .ok (rowD (rowAt rs c)) μ := ok_of (by
  simp [m_Staircase_row, b_Staircase_row, startD, stD, f_minI]
  rw [at_row h])
theorem isNon_row : isNonD (rowD r) = decide (r = none) := by
  cases r with
  | none => rfl
  | some x => rfl
end
end Pl
namespace Pl
open PySem PySem.Spec L2 Mi
theorem ltS_iff {a b : Str} : ltS a b = true ↔ a.cps.toList < b.cps.toList := by unfold ltS; rw [decide_eq_true_eq]
theorem ltS_irr {a : Str} : ltS a a = false := by
  unfold ltS
  exact decide_eq_false (List.lt_irrefl _)
theorem ltS_trans {a b c : Str} (h : ltS a b = true) (k : ltS b c = true) : ltS a c = true := by
  rw [ltS_iff] at *
  exact List.lt_trans h k
theorem asc_pw : ∀ {ss : List Str}, ascS ss = true ↔ ss.Pairwise fun a b => ltS a b = true
  | [] => by simp [ascS]
  | [a] => by simp [ascS]
  | a :: b :: r => by
    have ih := asc_pw (ss := b :: r)
    show (ltS a b && ascS (b :: r)) = true ↔ _
    rw [Bool.and_eq_true, ih, List.pairwise_cons (a := a)]
    constructor
    · rintro ⟨h1, h2⟩
      refine ⟨fun c hc => ?_, h2⟩
      rcases List.mem_cons.mp hc with rfl | hc
      · exact h1
      · exact ltS_trans h1 ((List.pairwise_cons.mp h2).1 c hc)
    · rintro ⟨h1, h2⟩
      exact ⟨h1 b List.mem_cons_self, h2⟩
theorem asc_nodup {ss : List Str} (h : ascS ss = true) : ss.Nodup := (asc_pw.mp h).imp fun {a b} h e => by
  rw [e, ltS_irr] at h; cases h
theorem sort_asc {ss : List Str} (h : ss.Nodup) : ascS (sortS ss) = true := by
  have p := sortS_of ss
  have nd : (sortS ss).Nodup := p.1.nodup_iff.mpr h
  have sp := Cs.sorted_pw p.2
  refine asc_pw.mpr ?_
  refine (List.Pairwise.and sp nd).imp fun {a b} h => ?_
  rw [ltS_iff]
  obtain ⟨h1, h2⟩ := h
  have h3 : a.cps.toList ≤ b.cps.toList := h1
  rcases List.le_iff_lt_or_eq.mp h3 with z | z
  · exact z
  · exact absurd (by cases a; cases b; simp only [Str.mk.injEq]; exact Array.toList_inj.mp z) h2
theorem asc_filter {ss : List Str} {p : Str → Bool} (h : ascS ss = true) : ascS (ss.filter p) = true := asc_pw.mpr ((asc_pw.mp h).filter p)
theorem areS_filter {ss : List Str} {p : Str → Bool} (h : areS ss = true) : areS (ss.filter p) = true := by
  unfold areS at h ⊢
  rw [Bool.and_eq_true, List.all_eq_true] at h ⊢
  exact ⟨fun x hx => h.1 x ((List.mem_filter.mp hx).1), asc_filter h.2⟩
theorem areS_sort {ss : List Str} (hn : ss.Nodup) (h : ∀ z ∈ ss, Cs.isNameS z = true) : areS (sortS ss) = true := by
  unfold areS
  rw [Bool.and_eq_true, List.all_eq_true]
  exact ⟨fun x hx => h x (sortS_perm.mem_iff.mp hx), sort_asc hn⟩
theorem areS_sortdd {ss : List Str} (h : ∀ z ∈ ss, Cs.isNameS z = true) : areS (sortS (SetT.ddS ss)) = true := areS_sort (SetT.ddS_nodup ss) fun z hz => h z (SetT.ddS_in.mp hz)
section
variable {Q : D → Store → Prop} {X : Exc → Store → Prop} {P : Post} {ρ : Mi.Env} {μ μ0 : Store} {n k : Nat} {x d : D} {ds : List D} {rs ss : List SRow} {r : SRow} {ns : List Str}
@[simp] theorem rp_sortSet {b : Bool} {a : ME} : @Rp _ (mSortSet b a ρ μ) Q X = @Rp _ (a ρ μ) (fun x μ => match (seqA μ x).bind strsD with
  | some ss => (ss.length < 64 ∨ ((SetT.ddS ss).length < 64 ∧ ss.length ≤ 1000)) ∧ @Rp _ (newL b ((sortS (SetT.ddS ss)).map .str) μ) Q X
  | none => False) X := by
  unfold mSortSet; rw [rp_bind]; congr 1; funext x μ
  cases (seqA μ x).bind strsD with
  | none => rfl
  | some ss => dsimp only; by_cases h : ss.length < 64 ∨ ((SetT.ddS ss).length < 64 ∧ ss.length ≤ 1000) <;> simp [h]
@[simp] theorem seqA_tup : seqA μ (.tup ds) = some ds := rfl
@[simp] theorem seqA_lst : seqA μ (.lst ds) = some ds := rfl
theorem tstrs_shaped {a : List Str} (h : ∀ z ∈ a, strLow z) : SeqAt.shaped (.tuple (a.map .str)) = true := shaped_of (strs_lay h) (Nat.le_trans strs_dep (by decide))
theorem f_eqTStrs {neg : Bool} {a b : List Str} (ha : ∀ z ∈ a, strLow z) (hb : ∀ z ∈ b, strLow z) : @Rp _ (fEq neg (.tup (a.map .str)) (.tup (b.map .str)) μ) Q X = Q (.bl (if neg = true then !(a == b) else a == b)) μ := by
  rw [f_eqPd (tup_pd (strs_pd a)) (tup_pd (strs_pd b)) (tstrs_shaped ha) (tstrs_shaped hb), strs_eqv]
end
end Pl
namespace Pl
open PySem PySem.Spec L2 Mi
section
variable {Q : D → Store → Prop} {X : Exc → Store → Prop} {P : Post} {ρ : Mi.Env} {μ μ0 : Store} {n k c s : Nat} {x d : D} {ds : List D} {L : List D → Store → Prop}
theorem lc_sub {α : Type} {g : D → Mi.Env → Option Mi.Env} {t : MT} {el : ME} {f : α → D} {l : List α} (q : α → Bool) (hs : St μ s c) (hz : l.length ≤ sizeLine)
    (step : ∀ a ∈ l, ∀ μ' c', St μ' s c' → Fr s μ μ' → c' < c + l.length → ∃ ρ2, g (f a) ρ = some ρ2 ∧ @Rp _ (t ρ2 μ') (fun k μ2 => St μ2 s (c' + 1) ∧ Fr s μ' μ2 ∧ (k = true → q a = true ∧ el ρ2 μ2 = .ok (f a) μ2)) (fun _ _ => False))
    (fin : ∀ (m : List α) μ', m.Sublist l → (∀ a ∈ m, q a = true) → St μ' s (c + l.length) → Fr s μ μ' → L (m.map f) μ') : @Rp _ (lcA [] μ0 g t el ρ (l.map f) [] μ) L X := by
  refine lc_inv (fun pre acc μ' => ∃ p m : List α, pre = p.map f ∧ p <+: l ∧ acc = m.map f ∧ m.Sublist p ∧ (∀ a ∈ m, q a = true) ∧ St μ' s (c + p.length) ∧ Fr s μ μ') (by rw [List.length_map]; exact hz) ⟨[], [], rfl, List.nil_prefix, rfl, .slnil, fun _ h => (by cases h), by simpa using hs, .refl⟩ (fun _ _ _ _ => Pl.watch_nil) ?_ ?_ ?_
  · rintro pre acc μ' ⟨p, m, rfl, -, rfl, h, -⟩
    rw [List.length_map, List.length_map]
    exact h.length_le
  · rintro pre d post acc μ' e ⟨p, m, rfl, ⟨r, rfl⟩, rfl, hm, hq, st, fr⟩
    rw [List.map_append] at e
    have e2 := List.append_cancel_left e
    cases r with
    | nil => cases e2
    | cons a r =>
      rw [List.map_cons] at e2
      injection e2 with e3 e4
      subst e3
      obtain ⟨ρ2, h1, h2⟩ := step a (by simp) μ' _ st fr (by rw [List.length_append, List.length_cons]; omega)
      refine ⟨ρ2, h1, rp_mono h2 (fun k μ2 ⟨st2, fr2, hk⟩ => ?_) fun _ _ z => z⟩
      have e5 : (p ++ [a]).length = p.length + 1 := by simp
      have e6 : p.map f ++ [f a] = (p ++ [a]).map f := by simp
      have e7 : (p ++ [a]) <+: p ++ a :: r := ⟨r, by simp⟩
      cases k with
      | true =>
        rw [if_pos rfl, (hk rfl).2, rp_ok]
        exact ⟨p ++ [a], m ++ [a], e6, e7, by simp, hm.append (.refl _), fun b hb => by
          rcases List.mem_append.mp hb with hb | hb
          · exact hq b hb
          · rw [List.mem_singleton.mp hb]; exact (hk rfl).1, by rw [e5]; exact st2, fr.trans fr2⟩
      | false =>
        rw [if_neg (by decide)]
        exact ⟨p ++ [a], m, e6, e7, rfl, hm.trans (List.sublist_append_left _ _), hq, by rw [e5]; exact st2, fr.trans fr2⟩
  · rintro acc μ' ⟨p, m, e, ⟨r, rfl⟩, rfl, hm, hq, st, fr⟩
    rw [List.map_append] at e
    have : r.map f = [] := List.append_right_eq_self.mp e
    have : r = [] := List.map_eq_nil_iff.mp this
    subst this
    rw [List.append_nil] at fin
    exact fin m μ' hm hq st fr
theorem lc_made {g : D → Mi.Env → Option Mi.Env} {el : ME} {α : Type} {f : α → D} {I : α → Prop} {m w : Nat} (hs : St μ s c) (hz : m ≤ sizeLine)
    (step : ∀ (i : Nat) μ' c', i < m → St μ' s c' → Fr s μ μ' → c' + w ≤ c + m * w → ∃ ρ2, g (.int i) ρ = some ρ2 ∧ @Rp _ (el ρ2 μ') (fun d μ2 => ∃ a, d = f a ∧ I a ∧ St μ2 s (c' + w) ∧ Fr s μ' μ2) (fun _ _ => False))
    (fin : ∀ (l : List α) μ', l.length = m → (∀ a ∈ l, I a) → St μ' s (c + m * w) → Fr s μ μ' → L (l.map f) μ') : @Rp _ (lcA [] μ0 g mYes el ρ (rangeD 0 m) [] μ) L X := by
  have lr : (rangeD 0 m).length = m := by simp [rangeD]
  refine lc_inv (fun pre acc μ' => ∃ l : List α, acc = l.map f ∧ l.length = pre.length ∧ (∀ a ∈ l, I a) ∧ St μ' s (c + pre.length * w) ∧ Fr s μ μ') (by rw [lr]; exact hz) ⟨[], rfl, rfl, fun _ h => (by cases h), by simpa using hs, .refl⟩ (fun _ _ _ _ => Pl.watch_nil) ?_ ?_ ?_
  · rintro pre acc μ' ⟨l, rfl, h, -⟩
    rw [List.length_map, h]; exact Nat.le_refl _
  · rintro pre d post acc μ' e ⟨l, rfl, hl, hI, st, fr⟩
    have hp : pre.length < m := by
      have := congrArg List.length e
      rw [lr] at this
      simp only [List.length_append, List.length_cons] at this
      omega
    have ed : d = .int (pre.length : Nat) := by
      have h1 : (rangeD 0 (m : Nat))[pre.length]? = some d := by rw [e]; simp
      rw [rangeD_eq, List.getElem?_map, List.getElem?_range hp] at h1
      exact (Option.some.inj h1).symm
    subst ed
    have hw : pre.length * w + w ≤ m * w := by
      have := Nat.mul_le_mul_right w (show pre.length + 1 ≤ m by omega)
      rw [Nat.add_mul, Nat.one_mul] at this
      exact this
    obtain ⟨ρ2, h1, h2⟩ := step pre.length μ' _ hp st fr (by omega)
    refine ⟨ρ2, h1, ?_⟩
    simp only [rp_yes, if_true]
    refine rp_mono h2 (fun d μ2 ⟨a, e1, ha, st2, fr2⟩ => ⟨l ++ [a], by rw [e1]; simp, by simp [hl], fun b hb => ?_, ?_, fr.trans fr2⟩) fun _ _ z => z
    · rcases List.mem_append.mp hb with hb | hb
      · exact hI b hb
      · rw [List.mem_singleton.mp hb]; exact ha
    · have : c + (pre ++ [D.int (pre.length : Nat)]).length * w = c + pre.length * w + w := by
        rw [List.length_append, List.length_cons, List.length_nil, Nat.zero_add, Nat.add_mul, Nat.one_mul, Nat.add_assoc]
      rw [this]; exact st2
  · rintro acc μ' ⟨l, rfl, hl, hI, st, fr⟩
    rw [lr] at hl st
    exact fin l μ' hl hI st fr
theorem nodup_len {α : Type} [DecidableEq α] : ∀ {a b : List α}, a.Nodup → (∀ z ∈ a, z ∈ b) → a.length ≤ b.length
  | [], _, _, _ => Nat.zero_le _
  | x :: a, b, hn, h => by
    have hx : x ∈ b := h x (List.mem_cons_self ..)
    obtain ⟨h1, h2⟩ := List.nodup_cons.mp hn
    have := nodup_len (a := a) (b := b.erase x) h2 fun z hz => (List.mem_erase_of_ne (by rintro rfl; exact h1 hz)).mpr (h z (List.mem_cons_of_mem _ hz))
    rw [List.length_erase_of_mem hx] at this
    have : 0 < b.length := List.length_pos_of_mem hx
    rw [List.length_cons]
    omega
theorem areS_iff {ss : List Str} : areS ss = true ↔ (∀ z ∈ ss, Cs.isNameS z = true) ∧ ascS ss = true := by
  unfold areS
  rw [Bool.and_eq_true, List.all_eq_true]
theorem areS_sub {m l : List Str} (h : areS l = true) (hs : m.Sublist l) : areS m = true := by
  obtain ⟨h1, h2⟩ := areS_iff.mp h
  exact areS_iff.mpr ⟨fun z hz => h1 z (hs.subset hz), asc_pw.mpr ((asc_pw.mp h2).sublist hs)⟩
def rowG (ns : List Str) (r : SRow) : Prop := rowV r = true ∧ ∀ a b o, r = some (a, b, o) → (∀ z ∈ a, z ∈ ns) ∧ ∀ z ∈ b, z ∈ ns
theorem rowG_none {ns : List Str} : rowG ns none := ⟨rfl, fun _ _ _ h => by cases h⟩
theorem rowG_len {ns : List Str} {r : SRow} (h : rowG ns r) {a b : List Str} {o : Bool} (e : r = some (a, b, o)) : a.length ≤ ns.length ∧ b.length ≤ ns.length := by
  obtain ⟨h1, h2⟩ := h
  subst e
  have h3 := h2 _ _ _ rfl
  unfold rowV at h1
  simp only [Bool.and_eq_true] at h1
  exact ⟨nodup_len (asc_nodup (areS_iff.mp h1.1).2) h3.1, nodup_len (asc_nodup (areS_iff.mp h1.2.1).2) h3.2⟩
end
end Pl
namespace Pl
open PySem PySem.Spec L2 Mi
theorem strs_inj : ∀ {a b : List Str}, a.map D.str = b.map D.str → a = b
  | [], [], _ => rfl
  | [], _ :: _, h => by cases h
  | _ :: _, [], h => by cases h
  | x :: a, y :: b, h => by
    injection h with h1 h2
    injection h1 with h3
    rw [h3, strs_inj h2]
theorem rowD_inj {r s : SRow} (h : rowD r = rowD s) : r = s := by
  cases r with
  | none =>
    cases s with
    | none => rfl
    | some y => cases h
  | some x =>
    obtain ⟨a, b, o⟩ := x
    cases s with
    | none => cases h
    | some y =>
      obtain ⟨a', b', o'⟩ := y
      unfold rowD at h
      injection h with h
      injection h with h1 h
      injection h with h2 h
      injection h with h3 h
      injection h1 with h1
      injection h2 with h2
      injection h3 with h3
      rw [strs_inj h1, strs_inj h2, h3]
theorem rows_inj : ∀ {rs ss : List SRow}, rs.map rowD = ss.map rowD → rs = ss
  | [], [], _ => rfl
  | [], _ :: _, h => by cases h
  | _ :: _, [], h => by cases h
  | x :: a, y :: b, h => by
    injection h with h1 h2
    rw [rowD_inj h1, rows_inj h2]
theorem name_len {z : Str} (h : Cs.isNameS z = true) : z.length ≤ 6 := by
  unfold Cs.isNameS at h
  simp only [Bool.and_eq_true, decide_eq_true_eq] at h
  exact h.1.2
theorem name_gq {z : Str} {k : Nat} (h : Cs.isNameS z = true) (hk : 6 ≤ k) : gq k (.str z) = true := gq_str.mpr ⟨Nat.le_trans (name_len h) hk, name_low h⟩
theorem names_gq {ss : List Str} {k : Nat} (h : ∀ z ∈ ss, Cs.isNameS z = true) (hk : 6 ≤ k) (hl : ss.length ≤ k) : gq k (.tup (ss.map .str)) = true :=
  gq_tup.mpr ⟨by rw [List.length_map]; exact hl, fun d hd => by
    obtain ⟨z, hz, rfl⟩ := List.mem_map.mp hd
    exact name_gq (h z hz) hk⟩
theorem rowV_parts {a b : List Str} {o : Bool} (h : rowV (some (a, b, o)) = true) : areS a = true ∧ areS b = true ∧ rowOkS a b o = true := by
  have h' : (areS a && (areS b && rowOkS a b o)) = true := h
  rw [Bool.and_eq_true, Bool.and_eq_true] at h'
  exact h'
theorem row_gq {r : SRow} {k : Nat} (h : rowV r = true) (hk : 6 ≤ k) (hl : ∀ a b o, r = some (a, b, o) → a.length ≤ k ∧ b.length ≤ k) : gq k (rowD r) = true := by
  cases r with
  | none => rfl
  | some x =>
    obtain ⟨a, b, o⟩ := x
    obtain ⟨h1, h2, _⟩ := rowV_parts h
    obtain ⟨l1, l2⟩ := hl _ _ _ rfl
    refine gq_tup.mpr ⟨by simp only [List.length_cons, List.length_nil]; omega, fun d hd => ?_⟩
    simp only [List.mem_cons, List.not_mem_nil, or_false] at hd
    rcases hd with rfl | rfl | rfl
    · exact names_gq (areS_iff.mp h1).1 hk l1
    · exact names_gq (areS_iff.mp h2).1 hk l2
    · rfl
section
variable {Q : D → Store → Prop} {X : Exc → Store → Prop} {P : Post} {ρ : Mi.Env} {μ μ0 : Store} {n k c s : Nat} {x d : D} {ds : List D} {rs ss : List SRow} {r : SRow} {ns : List Str}
theorem stair_ok {w : List Nat} {m : List D → Store → Res D} (hm : m = m_Staircase_dinitd) (hz : rs.length ≤ 1000) (hs : SeqIn x (rs.map rowD) w μ) (hv : ∀ r ∈ rs, rowV r = true) (hl : ∀ r ∈ rs, ∀ a b o, r = some (a, b, o) → a.length ≤ 1000 ∧ b.length ≤ 1000) (h0 : rs ≠ [])
    (hok : ∀ t, Q (stD (shortR rs)) (μ ++ t)) : @Rp _ (mkObj true "Staircase" m [x] μ) Q X := by
  rw [hm]
  refine stair_rp (k := 1000) (by omega) (by rw [List.length_map]; exact hz) hs (fun d hd => ?_) (by simpa using h0) (fun i t e => ?_) fun rs' t e hv' => ?_
  · obtain ⟨r, hr, rfl⟩ := List.mem_map.mp hd
    exact row_gq (hv r hr) (by omega) (hl r hr)
  · rw [badAt_none fun d hd => ?_] at e
    · cases e
    · obtain ⟨r, hr, rfl⟩ := List.mem_map.mp hd
      rw [isRow_row]; exact hv r hr
  · rw [← rows_inj e]; exact hok t
theorem rowG_all (h : ∀ r ∈ rs, rowG ns r) {j : Nat} (hj : ns.length ≤ j) : ∀ r ∈ rs, ∀ a b o, r = some (a, b, o) → a.length ≤ j ∧ b.length ≤ j := fun r hr a b o e => by
  obtain ⟨l1, l2⟩ := rowG_len (h r hr) e
  omega
end
end Pl
namespace Pl
open PySem PySem.Spec L2 Mi
end Pl
namespace Pl
open PySem PySem.Spec L2 Mi
section
variable {Q : D → Store → Prop} {X : Exc → Store → Prop} {P : Post} {ρ : Mi.Env} {n : Nat} {μ : Store}
@[simp] theorem rp_dictZip {b : Bool} {a : MA} : @Rp _ (mDictZip b a ρ μ) Q X = @Rp _ (a ρ μ) (fun ds μ => @Rp _ (fDictZ b ds μ) Q X) X := by
  unfold mDictZip; rw [rp_bind]
end
end Pl
namespace Pl
open PySem PySem.Spec L2 Mi
section
variable {Q : D → Store → Prop} {X : Exc → Store → Prop} {P : Post} {ρ : Mi.Env} {μ μ' μ'' : Store} {s c n : Nat}
end
end Pl
namespace Pl
open PySem PySem.Spec L2 Mi
section
variable {α : Type} {Q : D → Store → Prop} {X : Exc → Store → Prop} {P : Post} {ρ : Mi.Env} {μ μ0 : Store} {n : Nat} {G : Mi.Env → Store → Prop} {L : List D → Store → Prop}
@[simp] theorem rp_lc2 {b : Bool} {i : MI} {g : D → Mi.Env → Option Mi.Env} {t : MT} {i1 : MI} {g1 : D → Mi.Env → Option Mi.Env} {t1 : MT} {el : ME} {vs vs1 : List Nat} : @Rp _ (mLc2 b i g t i1 g1 t1 el vs vs1 ρ μ) Q X = @Rp _ (i ρ μ) (fun s μ => @Rp _ (lcB s.w μ g t i1 g1 t1 el vs1 (wipeD ρ vs) s.items [] μ) (fun xs μ => @Rp _ (newL b xs μ) Q X) X) X := by
  unfold mLc2; simp only [rp_bind]
theorem lcB_go {g : D → Mi.Env → Option Mi.Env} {t : MT} {i1 : MI} {g1 : D → Mi.Env → Option Mi.Env} {t1 : MT} {el : ME} {vs1 w : List Nat} {f : α → D} (h : α → List D) : ∀ (l : List α) (acc : List D), acc.length + (l.flatMap h).length ≤ sizeLine →
    (∀ a ∈ l, ∃ ρ2 s1, g (f a) ρ = some ρ2 ∧ t ρ2 μ = .ok true μ ∧ i1 ρ2 μ = .ok s1 μ ∧ ∀ acc, acc.length + (h a).length ≤ sizeLine → lcA s1.w μ g1 t1 el (wipeD ρ2 vs1) s1.items acc μ = .ok (acc ++ h a) μ) →
    lcB w μ g t i1 g1 t1 el vs1 ρ (l.map f) acc μ = .ok (acc ++ l.flatMap h) μ
  | [], acc, _, _ => by
    rw [List.map_nil]; unfold lcB
    rw [if_pos watch_rfl]; simp
  | a :: l, acc, hz, st => by
    obtain ⟨ρ2, s1, h1, h2, h3, h4⟩ := st a List.mem_cons_self
    simp only [List.flatMap_cons, List.length_append] at hz
    rw [List.map_cons]; unfold lcB
    rw [if_pos watch_rfl, h1]
    dsimp only
    rw [h2]
    dsimp only
    rw [h3]
    dsimp only
    rw [h4 acc (by omega)]
    dsimp only
    rw [lcB_go h l (acc ++ h a) (by simp only [List.length_append]; omega) (fun b hb => st b (List.mem_cons_of_mem _ hb))]
    simp [List.flatMap_cons]
theorem rp_lcB {g : D → Mi.Env → Option Mi.Env} {t : MT} {i1 : MI} {g1 : D → Mi.Env → Option Mi.Env} {t1 : MT} {el : ME} {vs1 w : List Nat} {f : α → D} {l : List α} (h : α → List D) (hz : (l.flatMap h).length ≤ sizeLine)
    (st : ∀ a ∈ l, ∃ ρ2 s1, g (f a) ρ = some ρ2 ∧ t ρ2 μ = .ok true μ ∧ i1 ρ2 μ = .ok s1 μ ∧ ∀ acc, acc.length + (h a).length ≤ sizeLine → lcA s1.w μ g1 t1 el (wipeD ρ2 vs1) s1.items acc μ = .ok (acc ++ h a) μ) (k : L (l.flatMap h) μ) : @Rp _ (lcB w μ g t i1 g1 t1 el vs1 ρ (l.map f) [] μ) L X := by
  rw [lcB_go h l [] (by simpa using hz) st]; exact k
@[simp] theorem rg_attr {cs : List String} {f : Str} {o : ME} {z : D} : @Rp _ (mgAttr cs f o z ρ μ) G X = @Rp _ (o ρ μ) (fun x μ => match ownO μ x with
  | some (k, C, ks, ds) => (cs.contains C = true ∧ ks.length < 1000) ∧ G ρ (μ.set k (some (.obj C (putFK f ks) (putFV f z ks ds))))
  | none => False) X := by
  unfold mgAttr
  rw [rp_bind]; congr 1; funext x μ
  cases ownO μ x with
  | none => rfl
  | some p =>
    obtain ⟨k, C, ks, ds⟩ := p
    dsimp only
    by_cases h : cs.contains C = true ∧ ks.length < 1000
    · rw [if_pos h]; simp only [rp_ok, h, true_and, and_self]
    · rw [if_neg h]; exact propext ⟨False.elim, fun z => h z.1⟩
@[simp] theorem f_isB {neg i j : Bool} : @Rp _ (fIsB neg (.bl i) (.bl j) μ) Q X = Q (.bl (if neg = true then !decide (i = j) else decide (i = j))) μ := rfl
theorem rp_sortSetI {b : Bool} {a : ME} (l : List Int) (hl : l.length < 64) (h : @Rp _ (a ρ μ) (fun x μ' => x = .lst (l.map D.int) ∧ @Rp _ (newL b ((sortI (ddI l)).map .int) μ') Q X) X) : @Rp _ (mSortSetI b a ρ μ) Q X := by
  unfold mSortSetI
  rw [rp_bind]
  refine rp_mono h (fun x μ' hx => ?_) fun _ _ k => k
  obtain ⟨rfl, hx⟩ := hx
  rw [show seqA μ' (.lst (l.map D.int)) = some (l.map D.int) from rfl]
  simp only [Option.bind_some, intsD_map]
  rw [if_pos hl]
  exact hx
theorem f_anyM {l : List α} {p : α → Bool} : @Rp _ (fAll true [.lst (l.map fun a => D.bl (p a))] μ) Q X = Q (.bl (l.any p)) μ := by
  rw [show l.map (fun a => D.bl (p a)) = (l.map p).map D.bl by simp, f_any, List.any_map]; rfl
theorem f_allM {l : List α} {p : α → Bool} : @Rp _ (fAll false [.lst (l.map fun a => D.bl (p a))] μ) Q X = Q (.bl (l.all p)) μ := by
  rw [show l.map (fun a => D.bl (p a)) = (l.map p).map D.bl by simp, f_all, List.all_map]; rfl
end
end Pl
namespace K09
open PySem PySem.Spec L2 Mi
end K09
namespace K09
open PySem PySem.Spec L2 Mi Pl
structure Row where
  t : Str
  k : Str
  d : Option Int
  bars : List Str
def isPl (r : Row) : Bool := ("place" : Str) == r.k || ("either" : Str) == r.k
def isKe (r : Row) : Bool := ("either" : Str) == r.k || ("named" : Str) == r.k
def plT (rows : List Row) : List Str := (rows.filter isPl).map (·.t)
def keT (rows : List Row) : List Str := (rows.filter isKe).map (·.t)
section
variable {Q : D → Store → Prop} {X : Exc → Store → Prop} {μ : Store} {rows : List Row}
def isReq (r : Row) : Bool := r.d.isNone && !(("rest" : Str) == r.k || ("others" : Str) == r.k)
end
end K09
namespace K09
open PySem PySem.Spec L2 Mi Pl
section
variable {Q : D → Store → Prop} {X : Exc → Store → Prop} {μ : Store} {rows : List Row}
def isOt (r : Row) : Bool := ("others" : Str) == r.k
def isRe (r : Row) : Bool := ("rest" : Str) == r.k
end
end K09
namespace K09
open PySem PySem.Spec L2 Mi Pl
section
variable {Q : D → Store → Prop} {X : Exc → Store → Prop} {μ : Store} {rows : List Row} {gs : List Int} {ks : List Str} {vs : List Int}
def otB (rows : List Row) : Option (List Str) := ((rows.filter isOt).map (·.bars)).head?
def ob1 (rows : List Row) (gs : List Int) (z : Str) : List D :=
  if z ∈ keT rows then (if z ∈ (plT rows).take gs.length then [.tup [.str "twice", .str z]] else [])
  else (match otB rows with
    | none => [.tup [.str "unknown", .str z]]
    | some bs => if z ∈ bs then [.tup [.str "unknown", .str z]] else [])
def ob2 (rows : List Row) (gs : List Int) : List D := if (plT rows).length < gs.length ∧ rows.any isRe = false then [.tup [.str "many", .int (plT rows).length, .int gs.length]] else []
def lackB (rows : List Row) (gs : List Int) (ks : List Str) (r : Row) : Bool := isReq r && decide (r.t ∉ (plT rows).take gs.length) && !(decide (r.t ∈ keT rows) && decide (r.t ∈ ks))
def lackD (r : Row) : D := .tup [.str "lacks", .str r.t]
noncomputable def obs (rows : List Row) (gs : List Int) (ks : List Str) : List D := (sortS ks).flatMap (ob1 rows gs) ++ ob2 rows gs ++ ((rows.filter (lackB rows gs ks)).map lackD)
end
end K09
namespace K09
open PySem PySem.Spec L2 Mi Pl
section
variable {Q : D → Store → Prop} {X : Exc → Store → Prop} {μ : Store} {rows : List Row} {gs : List Int} {ks : List Str} {vs : List Int}
end
end K09
namespace K09
open PySem PySem.Spec L2 Mi Pl
section
variable {Q : D → Store → Prop} {X : Exc → Store → Prop} {μ : Store} {rows : List Row} {gs : List Int} {ks : List Str} {vs : List Int}
end
end K09
namespace K09
open PySem PySem.Spec L2 Mi Pl
section
variable {Q : D → Store → Prop} {X : Exc → Store → Prop} {μ : Store} {rows : List Row} {gs : List Int} {ks : List Str} {vs : List Int}
end
end K09
namespace K09
open PySem PySem.Spec L2 Mi Pl
section
variable {Q : D → Store → Prop} {X : Exc → Store → Prop} {μ : Store} {rows : List Row} {gs : List Int} {ks : List Str} {vs : List Int}
end
end K09
namespace K09
open PySem PySem.Spec L2 Mi Pl
section
variable {Q : D → Store → Prop} {X : Exc → Store → Prop} {μ : Store} {rows : List Row} {gs : List Int} {ks : List Str} {vs : List Int}
end
end K09
namespace K09
open PySem PySem.Spec L2 Mi Pl
section
variable {Q : D → Store → Prop} {X : Exc → Store → Prop} {μ : Store} {rows : List Row} {gs : List Int} {ks : List Str} {vs : List Int}
end
end K09
namespace Pl.Bg
open PySem PySem.Spec L2 Mi Pl
def keyGd : Key → Bool
  | .inr z => decide (z.length ≤ 20) && PyData.strOk z
  | .inl _ => false
mutual
def gd : D → Bool
  | .non => true
  | .bl _ => true
  | .int i => decide (i.natAbs < 1000000)
  | .str z => keyGd (.inr z)
  | .lst ds => gds ds
  | .tup ds => gds ds
  | .dct ks ds => decide (ks.length = ds.length) && decide (ks.length ≤ 1000) && decide ks.Nodup && ks.all keyGd && gds ds
  | _ => false
def gds : List D → Bool
  | [] => true
  | d :: ds => gd d && gds ds
end
mutual
def wt : D → Nat
  | .lst ds => wts ds
  | .tup ds => wts ds
  | .dct _ ds => wts ds + 22 * ds.length
  | _ => 20
def wts : List D → Nat
  | [] => 0
  | d :: ds => wt d + 1 + wts ds
end
mutual
def nest : D → Nat
  | .lst ds => nests ds + 1
  | .tup ds => nests ds + 1
  | .dct _ ds => nests ds + 1
  | _ => 0
def nests : List D → Nat
  | [] => 0
  | d :: ds => max (nest d) (nests ds)
end
structure Shows (d : D) (p : PyData) : Prop where
  s : p.showable = true
  l : PyData.leavesShort 60 p = true
  w : p.weight ≤ wt d
  n : p.depth ≤ nest d
inductive ShA : List D → List PyData → Prop
  | nil : ShA [] []
  | cons {d : D} {p : PyData} {ds : List D} {ps : List PyData} : Shows d p → ShA ds ps → ShA (d :: ds) (p :: ps)
theorem ShA.all : ∀ {ds : List D} {ps : List PyData}, ShA ds ps → PyData.showableAll ps = true ∧ PyData.leavesShortAll 60 ps = true ∧ PyData.weightAll ps ≤ wts ds ∧ PyData.depthAll ps ≤ nests ds
  | _, _, .nil => by simp [PyData.showableAll, PyData.leavesShortAll, PyData.weightAll, PyData.depthAll]
  | _, _, .cons h t => by
    obtain ⟨a, b, c, e⟩ := t.all
    have hw := h.w
    have hn := h.n
    refine ⟨by simp only [PyData.showableAll, h.s, a, Bool.and_self], by simp only [PyData.leavesShortAll, h.l, b, Bool.and_self], ?_, ?_⟩
    · simp only [PyData.weightAll, wts]; omega
    · simp only [PyData.depthAll, nests]; omega
theorem shows_key {k : Key} (h : keyGd k = true) : (Cs.keyD k).showable = true ∧ PyData.leavesShort 60 (Cs.keyD k) = true ∧ (Cs.keyD k).weight ≤ 20 ∧ (Cs.keyD k).depth = 0 := by
  cases k with
  | inl i => cases h
  | inr z =>
    unfold keyGd at h
    rw [Bool.and_eq_true, decide_eq_true_eq] at h
    refine ⟨rfl, ?_, h.1, rfl⟩
    rw [Cs.keyD, PyData.leavesShort, List.all_eq_true]
    intro c hc
    have q := h.2
    unfold PyData.strOk at q
    rw [Array.all_eq_true'] at q
    have q2 := q c (by simpa using hc)
    exact decide_eq_true (Nat.lt_trans (of_decide_eq_true q2) (by decide))
theorem ShA.kv : ∀ {ks : List Key} {ds : List D} {ps : List PyData}, ks.length = ds.length → ks.all keyGd = true → ShA ds ps →
    PyData.showableKv (Cs.dctD ks ps) = true ∧ PyData.leavesShortKv 60 (Cs.dctD ks ps) = true ∧ PyData.weightKv (Cs.dctD ks ps) ≤ wts ds + 22 * ds.length ∧ PyData.depthKv (Cs.dctD ks ps) ≤ nests ds
  | [], ds, ps, hl, _, _ => by
    refine ⟨by simp [Cs.dctD, PyData.showableKv], by simp [Cs.dctD, PyData.leavesShortKv], by simp [Cs.dctD, PyData.weightKv], by simp [Cs.dctD, PyData.depthKv]⟩
  | k :: ks, [], ps, hl, _, _ => by simp at hl
  | k :: ks, d :: ds, _, hl, hk, .cons (p := p) (ps := ps) h t => by
    rw [List.all_cons, Bool.and_eq_true] at hk
    obtain ⟨a, b, c, e⟩ := ShA.kv (by simpa using hl) hk.2 t
    obtain ⟨a2, b2, c2, e2⟩ := shows_key hk.1
    have hw := h.w
    have hn := h.n
    have ed : Cs.dctD (k :: ks) (p :: ps) = (Cs.keyD k, p) :: Cs.dctD ks ps := rfl
    rw [ed]
    refine ⟨by simp only [PyData.showableKv, h.s, a, a2, Bool.and_self], by simp only [PyData.leavesShortKv, h.l, b, b2, Bool.and_self], ?_, ?_⟩
    · simp only [PyData.weightKv, wts, List.length_cons]; omega
    · simp only [PyData.depthKv, nests, e2]; omega
theorem shows_int {i : Int} (h : i.natAbs < 1000000) : Shows (.int i) (.int i) := by
  have hl : i.natAbs.log2 < 20 := by
    by_cases c : i.natAbs = 0
    · rw [c]; decide
    · exact (Nat.log2_lt c).mpr (Nat.lt_of_lt_of_le h (by decide))
  refine ⟨by simp only [PyData.showable]; exact decide_eq_true (by omega), ?_, ?_, by rw [PyData.depth]; exact Nat.zero_le _⟩
  · simp only [PyData.leavesShort]
    exact decide_eq_true (Nat.le_trans (PyData.shown_int_le (Nat.lt_trans h (by decide))) (by decide))
  · simp only [PyData.weight, wt]
    split <;> omega
mutual
theorem gd_shows : ∀ {d : D}, gd d = true → ∃ p, (∀ f, d.pdW f = some p) ∧ Shows d p
  | .non, _ => ⟨.none, fun _ => rfl, rfl, rfl, Nat.zero_le _, Nat.le_refl _⟩
  | .bl b, _ => ⟨.bool b, fun _ => rfl, rfl, rfl, Nat.zero_le _, Nat.le_refl _⟩
  | .int i, h => ⟨.int i, fun _ => rfl, shows_int (by unfold gd at h; exact of_decide_eq_true h)⟩
  | .str z, h => by
    unfold gd at h
    obtain ⟨a, b, c, e⟩ := shows_key h
    exact ⟨.str z, fun _ => rfl, a, b, c, Nat.le_of_eq e⟩
  | .lst ds, h => by
    unfold gd at h
    obtain ⟨ps, e, k⟩ := gds_shows h
    obtain ⟨a, b, c, n⟩ := k.all
    refine ⟨.list ps, fun f => by unfold D.pdW; rw [e f]; rfl, by simpa [PyData.showable] using a, by simpa [PyData.leavesShort] using b, by simpa [PyData.weight, wt] using c, by simpa [PyData.depth, nest] using n⟩
  | .tup ds, h => by
    unfold gd at h
    obtain ⟨ps, e, k⟩ := gds_shows h
    obtain ⟨a, b, c, n⟩ := k.all
    refine ⟨.tuple ps, fun f => by unfold D.pdW; rw [e f]; rfl, by simpa [PyData.showable] using a, by simpa [PyData.leavesShort] using b, by simpa [PyData.weight, wt] using c, by simpa [PyData.depth, nest] using n⟩
  | .dct ks ds, h => by
    unfold gd at h
    simp only [Bool.and_eq_true, decide_eq_true_eq] at h
    obtain ⟨ps, e, k⟩ := gds_shows h.2
    obtain ⟨a, b, c, n⟩ := k.kv h.1.1.1.1 h.1.2
    refine ⟨.dict (Cs.dctD ks ps), fun f => by unfold D.pdW; rw [e f]; rfl, by simpa [PyData.showable] using a, by simpa [PyData.leavesShort] using b, by simpa [PyData.weight, wt] using c, by simpa [PyData.depth, nest] using n⟩
theorem gds_shows : ∀ {ds : List D}, gds ds = true → ∃ ps, (∀ f, pdsW f ds = some ps) ∧ ShA ds ps
  | [], _ => ⟨[], fun _ => rfl, .nil⟩
  | d :: ds, h => by
    unfold gds at h
    rw [Bool.and_eq_true] at h
    obtain ⟨p, e1, h1⟩ := gd_shows h.1
    obtain ⟨ps, e2, h2⟩ := gds_shows h.2
    exact ⟨p :: ps, fun f => by unfold pdsW; rw [e1 f, e2 f], .cons h1 h2⟩
end
section
variable {Q : D → Store → Prop} {X : Exc → Store → Prop} {μ : Store} {d : D}
end
end Pl.Bg
namespace K09
open PySem PySem.Spec L2 Mi Pl
section
variable {Q : D → Store → Prop} {X : Exc → Store → Prop} {P : Post} {ρ : Mi.Env} {n : Nat} {μ μ' : Store} {rows : List Row} {gs : List Int} {ks : List Str} {vs : List Int}
end
end K09
namespace K09
open PySem PySem.Spec L2 Mi Pl
section
variable {Q : D → Store → Prop} {X : Exc → Store → Prop} {P : Post} {ρ : Mi.Env} {n : Nat} {μ μ' : Store} {rows : List Row} {gs : List Int} {ks : List Str} {vs : List Int}
structure Sh (d : D) (w m : Nat) : Prop where
  g : Bg.gd d = true
  w : Bg.wt d ≤ w
  n : Bg.nest d ≤ m
theorem Sh.le {d : D} {a b c e : Nat} (h : Sh d a b) (k : a ≤ c) (l : b ≤ e) : Sh d c e := ⟨h.g, Nat.le_trans h.w k, Nat.le_trans h.n l⟩
end
end K09
namespace K09
open PySem PySem.Spec L2 Mi Pl
section
variable {Q : D → Store → Prop} {X : Exc → Store → Prop} {P : Post} {ρ : Mi.Env} {n : Nat} {μ μ' : Store} {rows : List Row} {gs : List Int} {ks : List Str} {vs : List Int}
end
end K09
namespace K09
open PySem PySem.Spec L2 Mi Pl
section
variable {Q : D → Store → Prop} {X : Exc → Store → Prop} {P : Post} {ρ : Mi.Env} {n s c : Nat} {μ μ' : Store} {rows : List Row} {pool : List Str}
end
end K09
namespace K09
open PySem PySem.Spec L2 Mi Pl
section
variable {Q : D → Store → Prop} {X : Exc → Store → Prop} {P : Post} {ρ : Mi.Env} {n s c f : Nat} {μ μ' μ0 : Store} {rows : List Row} {pool titles : List Str}
structure Mid (μ0 : Store) (s f c : Nat) (ds : List D) (μ : Store) : Prop where
  st : St μ s c
  fr : Fr s μ0 μ
  at_ : μ[f]? = some (some (.lst ds))
  new : μ0.length ≤ f
  ne : f ≠ s
theorem Mid.le {ds : List D} {d : Nat} (h : Mid μ0 s f c ds μ) (l : c ≤ d) : Mid μ0 s f d ds μ := ⟨h.st.le l, h.fr, h.at_, h.new, h.ne⟩
theorem Mid.more {ds : List D} {x : Option Cell} (h : Mid μ0 s f c ds μ) : Mid μ0 s f c ds (μ ++ [x]) := ⟨h.st.new, h.fr.trans .new, by rw [List.getElem?_append_left (List.getElem?_eq_some_iff.mp h.at_).1]; exact h.at_, h.new, h.ne⟩
theorem Mid.put {ds es : List D} (h : Mid μ0 s f c ds μ) : Mid μ0 s f c es (μ.set f (some (.lst es))) := ⟨h.st.put h.ne, h.fr.put h.new, List.getElem?_set_self (List.getElem?_eq_some_iff.mp h.at_).1, h.new, h.ne⟩
end
end K09
namespace K09
open PySem PySem.Spec L2 Mi Pl
section
variable {Q : D → Store → Prop} {X : Exc → Store → Prop} {P : Post} {ρ : Mi.Env} {n s c f : Nat} {μ μ' μ0 : Store} {rows : List Row} {pool titles : List Str}
end
end K09
namespace K15
open PySem PySem.Spec L2 Mi
end K15
namespace K09
open PySem PySem.Spec L2 Mi Pl
section
variable {Q : D → Store → Prop} {X : Exc → Store → Prop} {μ : Store} {rows : List Row} {gs : List Int} {ks : List Str} {vs : List Int}
end
end K09
namespace K15
end K15
namespace Sg
open PySem PySem.Spec L2 Mi Pl
open K09 (plT keT isPl isKe isRe isOt isReq)
section
variable {Q : D → Store → Prop} {X : Exc → Store → Prop} {P : Post} {μ μ0 : Store} {n c : Nat} {rows : List K09.Row} {r : K09.Row} {ss need lim : List Str} {o : Bool}
end
end Sg
namespace Sg
open PySem PySem.Spec L2 Mi Pl
open K09 (plT keT isPl isKe isRe isOt isReq)
section
variable {n c : Nat} {rows pre post : List K09.Row} {r q : K09.Row} {S : List Str} {z : Str}
end
end Sg
namespace Sg
open PySem PySem.Spec L2 Mi Pl
open K09 (plT keT isPl isKe isRe isOt isReq)
section
variable {Q : D → Store → Prop} {X : Exc → Store → Prop} {P : Post} {μ μ0 : Store} {n c : Nat} {rows : List K09.Row} {r : K09.Row} {S ss need lim : List Str} {o : Bool}
end
end Sg
namespace Sg
open PySem PySem.Spec L2 Mi Pl
section
variable {Q : D → Store → Prop} {X : Exc → Store → Prop} {P : Post} {μ μ0 : Store} {n c : Nat} {one other : SRow} {need lim : List Str} {o : Bool}
def short (k : Nat) (r : SRow) : Prop := ∀ a b o, r = some (a, b, o) → a.length ≤ k ∧ b.length ≤ k
end
end Sg
namespace Sg
open PySem PySem.Spec L2 Mi Pl
section
variable {Q : D → Store → Prop} {X : Exc → Store → Prop} {P : Post} {μ μ0 : Store} {n c : Nat} {rs ss : List SRow}
structure RsOk (rs : List SRow) : Prop where
  ne : rs ≠ []
  len : rs.length ≤ 500
  v : ∀ r ∈ rs, Pl.rowV r = true
  s : ∀ r ∈ rs, short 31 r
end
end Sg
namespace Sg
open PySem PySem.Spec L2 Mi Pl
section
variable {c : Nat} {rs ss : List SRow} {r s : SRow} {S need lim : List Str} {o : Bool}
end
end Sg
namespace Sg
open PySem PySem.Spec L2 Mi Pl
section
variable {c : Nat} {rs ss : List SRow} {r s : SRow} {S T ns a b : List Str} {o : Bool} {z zz : Str}
end
end Sg
namespace Sg
open PySem PySem.Spec L2 Mi Pl
section
variable {Q : D → Store → Prop} {X : Exc → Store → Prop} {P : Post} {ρ : Mi.Env} {μ μ0 : Store} {n c j : Nat} {A : List (List Str)} {ns : List Str} {zz : Str}
@[simp] theorem rp_sortLen {b : Bool} {a : ME} : @Rp _ (mSortLen b a ρ μ) Q X = @Rp _ (a ρ μ) (fun x μ => match (seqL μ x).bind tupsW with
  | some tss => @Rp _ (newL b ((tss.mergeSort leLen).map fun t => .tup (t.map .str)) μ) Q X
  | none => False) X := by
  unfold mSortLen
  rw [rp_bind]; congr 1; funext x μ
  cases (seqL μ x).bind tupsW <;> rfl
end
end Sg
namespace Sg
open PySem PySem.Spec L2 Mi Pl
open K09 (plT keT isPl isKe isRe isOt isReq)
section
variable {Q : D → Store → Prop} {X : Exc → Store → Prop} {P : Post} {μ μ0 : Store} {n c s j : Nat} {rows : List K09.Row} {ns need lim : List Str} {o : Bool} {rs ss : List SRow} {r : SRow}
structure Side (ns : List Str) (rs : List SRow) : Prop where
  ne : rs ≠ []
  len : rs.length ≤ 30
  g : ∀ r ∈ rs, rowG ns r
theorem Side.ok (h : Side ns rs) (hn : ns.length ≤ 12) : RsOk rs := ⟨h.ne, by have := h.len; omega, fun r hr => (h.g r hr).1, fun r hr a b o e => by
  obtain ⟨l1, l2⟩ := rowG_len (h.g r hr) e
  omega⟩
theorem Side.at (h : Side ns rs) : rowG ns (rowAt rs c) := h.g _ (rowAt_mem h.ne)
end
end Sg
namespace Sg
open PySem PySem.Spec L2 Mi Pl
noncomputable def b_Lrandom_row : MS := (mSeq (mIfS (mB (mOp (fEq false) (mCall Pl.m_draw (mCons (mVar 0) (mCons (mC (.int 5)) mNil))) (mC (.int 0)))) (mRet (mC .non)) mNext)
  (mSeq (mSet 2 (mLc false (miAny (mCb (fSorted false) (mCons (mVar 1) mNil))) (lgName 3) (mB (mOp (fEq false) (mCall Pl.m_draw (mCons (mVar 0) (mCons (mC (.int 4)) mNil))) (mC (.int 0)))) (mVar 3) [3]))
  (mSeq (mSet 4 (mLc false (miAny (mCb (fSorted false) (mCons (mVar 1) mNil))) (lgName 3) (mAnd (mB (mOp (fIn true) (mVar 3) (mVar 2))) (mB (mOp (fEq false) (mCall Pl.m_draw (mCons (mVar 0) (mCons (mC (.int 2)) mNil))) (mC (.int 0))))) (mVar 3) [3]))
  (mSeq (mIfS (mB (mOp (fEq false) (mCall Pl.m_draw (mCons (mVar 0) (mCons (mC (.int 3)) mNil))) (mC (.int 0)))) (mRet (mTup (mCons (mCb fTuple (mCons (mVar 2) mNil)) (mCons (mCb fTuple (mCons (mVar 4) mNil)) (mCons (mC (.bl true)) mNil))))) mNext)
  (mRet (mTup (mCons (mCb fTuple (mCons (mVar 2) mNil)) (mCons (mCb fTuple (mCons (mCb (fSorted false) (mCons (mOp (fAdd false) (mVar 2) (mVar 4)) mNil)) mNil)) (mCons (mC (.bl false)) mNil)))))))))
noncomputable def m_Lrandom_row : List D → Store → Res D := mFn 5 2 b_Lrandom_row
noncomputable def b_Lrandom_rows : MS := (mSeq (mIfS (mB (mOp (fEq false) (mCall Pl.m_draw (mCons (mVar 0) (mCons (mC (.int 2)) mNil))) (mC (.int 0)))) (mRet (mLc false (miRng1 (mCons (mOp (fAdd false) (mC (.int 1)) (mCall Pl.m_draw (mCons (mVar 0) (mCons (mVar 2) mNil)))) mNil)) (lgName 3) mYes (mCall m_Lrandom_row (mCons (mVar 0) (mCons (mVar 1) mNil))) [3])) mNext)
  (mSeq (mSet 4 (mLc true (miRng1 (mCons (mOp (fAdd false) (mC (.int 1)) (mCall Pl.m_draw (mCons (mVar 0) (mCons (mC (.int 2)) mNil)))) mNil)) (lgName 3) mYes (mCall m_Lrandom_row (mCons (mVar 0) (mCons (mVar 1) mNil))) [3]))
  (mSeq (mWhile (mAnd (mB (mOp fLt (mCb fLen (mCons (mVar 4) mNil)) (mVar 2))) (mB (mOp (fI2 fun i j => .bl (decide (j < i))) (mCall Pl.m_draw (mCons (mVar 0) (mCons (mC (.int 5)) mNil))) (mC (.int 0))))) (mSeq (mSet 5 (mOp fIx (mVar 4) (mUn fNeg (mC (.int 1)))))
  (mSeq (mSet 6 (mIf (mB (mOp (fIsN true) (mVar 5) (mC .non))) (mLc false (miAny (mVar 1)) (lgName 7) (mB (mOp (fEq true) (mOp (fIn false) (mVar 7) (mOp fIx (mVar 5) (mC (.int 1)))) (mOp fIx (mVar 5) (mC (.int 2))))) (mVar 7) [7]) (mLst false mNil)))
  (mSeq (mIfS (mAnd (mB (mOp (fEq true) (mVar 6) (mLst false mNil))) (mB (mOp (fI2 fun i j => .bl (decide (j < i))) (mCall Pl.m_draw (mCons (mVar 0) (mCons (mC (.int 3)) mNil))) (mC (.int 0))))) (mSeq (mSet 7 (mCall Pl.m_pick (mCons (mVar 0) (mCons (mVar 6) mNil))))
  (mSeq (mSet 8 (mCb fTuple (mCons (mLc false (miAny (mOp fIx (mVar 5) (mC (.int 0)))) (lgName 9) (mB (mOp (fEq true) (mVar 9) (mVar 7))) (mVar 9) [9]) mNil)))
  (mIfS (mB (mOp fIx (mVar 5) (mC (.int 2)))) (mSet 5 (mTup (mCons (mVar 8) (mCons (mCb fTuple (mCons (mSortSet false (mOp (fAdd false) (mOp fIx (mVar 5) (mC (.int 1))) (mTup (mCons (mVar 7) mNil)))) mNil)) (mCons (mC (.bl true)) mNil))))) (mSet 5 (mTup (mCons (mVar 8) (mCons (mCb fTuple (mCons (mLc false (miAny (mOp fIx (mVar 5) (mC (.int 1)))) (lgName 9) (mB (mOp (fEq true) (mVar 9) (mVar 7))) (mVar 9) [9]) mNil)) (mCons (mC (.bl false)) mNil)))))))) mNext)
  (mDrop (mBm "list" fAppend (mVar 4) (mCons (mVar 5) mNil)))))))
  (mRet (mOp (fAdd false) (mVar 4) (mOp (fMul false) (mLst true (mCons (mC .non) mNil)) (mCall Pl.m_draw (mCons (mVar 0) (mCons (mC (.int 2)) mNil)))))))))
noncomputable def m_Lrandom_rows : List D → Store → Res D := mFn 10 3 b_Lrandom_rows
noncomputable def b_Lpool : MS := (mSeq (mSet 2 (mLst false (mCons (mC (.str "a")) (mCons (mC (.str "b")) (mCons (mC (.str "c")) (mCons (mC (.str "d")) (mCons (mC (.str "aa")) (mCons (mC (.str "ab")) (mCons (mC (.str "def")) (mCons (mC (.str "call")) (mCons (mC (.str "site")) (mCons (mC (.str "rest")) (mCons (mC (.str "more")) (mCons (mC (.str "self")) (mCons (mC (.str "zzzzzz")) mNil)))))))))))))))
  (mRet (mSl false (mCall Pl.m_shuffled (mCons (mVar 0) (mCons (mVar 2) mNil))) moNone (moSome (mVar 1)))))
noncomputable def m_Lpool : List D → Store → Res D := mFn 3 2 b_Lpool
section
variable {Q : D → Store → Prop} {X : Exc → Store → Prop} {P : Post} {ρ : Mi.Env} {μ μ0 : Store} {n k c s m : Nat} {x d : D} {ds : List D} {rs ss : List SRow} {r : SRow} {ns : List Str}
def unS : D → Str
  | .str z => z
  | _ => ""
theorem perm_strs {ys : List D} {l : List Str} (h : ys.Perm (l.map D.str)) : ∃ ws : List Str, ys = ws.map D.str ∧ ws.Perm l := by
  refine ⟨ys.map unS, ?_, ?_⟩
  · rw [List.map_map]
    symm
    have : ∀ y ∈ ys, (D.str ∘ unS) y = y := fun y hy => by
      obtain ⟨z, _, e⟩ := List.mem_map.mp (h.mem_iff.mp hy)
      rw [← e]; rfl
    rw [List.map_congr_left this, List.map_id']
  · have := h.map unS
    rw [List.map_map] at this
    have e : (unS ∘ D.str) = id := rfl
    rw [e, List.map_id] at this
    exact this
def poolW : List Str := ["a", "b", "c", "d", "aa", "ab", "def", "call", "site", "rest", "more", "self", "zzzzzz"]
structure Names (ws : List Str) : Prop where
  len : ws.length ≤ 6
  nd : ws.Nodup
  nm : ∀ z ∈ ws, Cs.isNameS z = true
theorem poolW_ok : poolW.all (fun z => Cs.isNameS z) = true ∧ poolW.Nodup ∧ poolW.length = 13 := by decide +kernel
theorem pool_rp (h : St μ s c) (hc : c + 13 ≤ 1000000) (hm : m ≤ 13) (k : ∀ (ws : List Str) (μ' : Store), ws.length = m → ws.Nodup → (∀ z ∈ ws, z ∈ poolW) → St μ' s (c + 13) → Fr s μ μ' → Q (.lst (ws.map D.str)) μ') : @Rp _ (m_Lpool [.own s, .int m] μ) Q X := by
  have z14 : 13 ≤ sizeLine := by decide
  obtain ⟨p1, p2, p3⟩ := poolW_ok
  simp [m_Lpool, b_Lpool, startD, z14]
  refine shuffled_rp (xs := poolW.map D.str) h (by simp [p3]; omega) rfl fun ys μ' pm st fr => ?_
  obtain ⟨ws, rfl, pw⟩ := perm_strs pm
  have l14 := pw.length_eq
  rw [p3] at l14
  have st' : St μ' s (c + 13) := by simpa [p3] using st
  simp
  rw [← List.map_take]
  exact k _ _ (by rw [List.length_take]; omega) ((pw.nodup_iff.mpr p2).sublist (List.take_sublist _ _)) (fun z hz => pw.mem_iff.mp (List.mem_of_mem_take hz)) st' fr
theorem Names.of {ws : List Str} (h6 : ws.length ≤ 6) (nd : ws.Nodup) (h : ∀ z ∈ ws, z ∈ poolW) : Names ws := ⟨h6, nd, fun z hz => List.all_eq_true.mp poolW_ok.1 z (h z hz)⟩
theorem Names.are {ws : List Str} (h : Names ws) : areS (sortS ws) = true := areS_sort h.nd h.nm
theorem mem_sortS {z : Str} {ws : List Str} : z ∈ sortS ws ↔ z ∈ ws := (sortS_perm (ss := ws)).mem_iff
theorem row_rp (hN : Names ns) (hs : St μ s c) (hc : c + 16 ≤ 1000000) (k : ∀ r μ', rowG ns r → St μ' s (c + 16) → Fr s μ μ' → Q (rowD r) μ') : @Rp _ (m_Lrandom_row [.own s, .lst (ns.map D.str)] μ) Q X := by
  have l5 := hN.len
  have z6 : 1000 ≤ sizeLine := by decide
  have ls : (sortS ns).length ≤ 6 := by rw [(sortS_perm (ss := ns)).length_eq]; exact l5
  have are := hN.are
  refine rp_fnI rfl ?_
  simp only [b_Lrandom_row, startD]
  refine rs_go fun N hN2 => ?_
  simp
  refine draw_rp hs (by omega) (by omega) (by omega) fun j μ1 j0 j1 st1 fr1 => ?_
  by_cases hj : j = 0
  · simp [hj]
    exact k none _ rowG_none (st1.le (by omega)) fr1
  simp [hj]
  refine hN2 _ _ ?_
  refine rs_go fun N hN2 => ?_
  simp
  rw [f_sortL (ss := ns) rfl (by omega)]
  simp
  refine lc_sub (fun _ => true) st1 (by omega) (fun z hz μ' c' st fr hc' => ⟨_, rfl, ?_⟩) fun m1 μ2 hm1 _ st2 fr2 => ?_
  · simp [wipeD]
    exact draw_rp st (by omega) (by omega) (by omega) fun j μ2 j0 j1 st2 fr2 => ⟨st2, fr2, fun _ => by rfl⟩
  replace st2 := st2.le (show _ ≤ c + 7 by omega)
  refine hN2 _ _ ?_
  refine rs_go fun N hN2 => ?_
  simp
  rw [f_sortL (ss := ns) rfl (by omega)]
  simp
  refine lc_sub (fun z => !decide (z ∈ m1)) st2 (by omega) (fun z hz μ' c' st fr hc' => ⟨_, rfl, ?_⟩) fun m2 μ3 hm2 q2 st3 fr3 => ?_
  · simp [wipeD, f_inTSs]
    rw [f_inSS]
    by_cases hm : z ∈ m1
    · simp [hm]
      exact ⟨st.le (by omega), .refl⟩
    · simp [hm]
      exact draw_rp st (by omega) (by omega) (by omega) fun j μ2 j0 j1 st2 fr2 => ⟨st2, fr2, fun _ => by rfl⟩
  replace st3 := st3.le (show _ ≤ c + 13 by omega)
  have a1 := areS_sub are hm1
  have a2 := areS_sub are hm2
  have b1 : ∀ z ∈ m1, z ∈ ns := fun z hz => mem_sortS.mp (hm1.subset hz)
  have b2 : ∀ z ∈ m2, z ∈ ns := fun z hz => mem_sortS.mp (hm2.subset hz)
  have dj : ∀ z ∈ m2, z ∉ m1 := fun z hz => by simpa using q2 z hz
  have l1 : m1.length ≤ 6 := Nat.le_trans hm1.length_le ls
  have l2 : m2.length ≤ 6 := Nat.le_trans hm2.length_le ls
  refine hN2 _ _ ?_
  refine rs_go fun N hN2 => ?_
  simp
  refine draw_rp st3 (by omega) (by omega) (by omega) fun j μ4 j0 j1 st4 fr4 => ?_
  have fr := ((fr1.trans fr2).trans fr3).trans fr4
  by_cases hj : j = 0
  · simp [hj]
    refine k (some (m1, m2, true)) _ ⟨?_, fun a b o e => ?_⟩ (st4.le (by omega)) fr
    · show (areS m1 && (areS m2 && rowOkS m1 m2 true)) = true
      rw [a1, a2, Bool.true_and, Bool.true_and]
      unfold rowOkS
      rw [List.all_eq_true]
      intro z hz
      have : z ∉ m2 := fun h => dj z h hz
      simp [this]
    · cases e; exact ⟨b1, b2⟩
  · simp [hj]
    refine hN2 _ _ ?_
    simp
    rw [← List.map_append, f_sortL (ss := m1 ++ m2) rfl (by simp; omega)]
    simp
    have nd : (m1 ++ m2).Nodup := List.nodup_append.mpr ⟨asc_nodup (areS_iff.mp a1).2, asc_nodup (areS_iff.mp a2).2, fun z hz w hw e => dj w hw (e ▸ hz)⟩
    have a3 : areS (sortS (m1 ++ m2)) = true := areS_sort nd fun z hz => by
      rcases List.mem_append.mp hz with hz | hz
      · exact hN.nm z (b1 z hz)
      · exact hN.nm z (b2 z hz)
    refine ⟨by omega, k (some (m1, sortS (m1 ++ m2), false)) _ ⟨?_, fun a b o e => ?_⟩ (st4.le (by omega)) fr⟩
    · show (areS m1 && (areS (sortS (m1 ++ m2)) && rowOkS m1 (sortS (m1 ++ m2)) false)) = true
      rw [a1, a3, Bool.true_and, Bool.true_and]
      unfold rowOkS
      rw [List.all_eq_true]
      intro z hz
      have : z ∈ sortS (m1 ++ m2) := mem_sortS.mpr (List.mem_append_left _ hz)
      simp [this]
    · cases e
      refine ⟨b1, fun z hz => ?_⟩
      rcases List.mem_append.mp (mem_sortS.mp hz) with hz | hz
      · exact b1 z hz
      · exact b2 z hz
theorem names_ddS {b : List Str} {z : Str} : z ∈ sortS (SetT.ddS b) ↔ z ∈ b := mem_sortS.trans SetT.ddS_in
theorem bend_need {a b b' : List Str} {o : Bool} {z : Str} (g : rowG ns (some (a, b, o))) (h : areS b' = true) (hs : ∀ y ∈ b', y ∈ ns) (k : ∀ y ∈ a, y ≠ z → (decide (y ∈ b') = decide (y ∈ b))) : rowG ns (some (a.filter fun y => !(y == z), b', o)) := by
  obtain ⟨h1, h2⟩ := g
  have gv : (areS a && (areS b && rowOkS a b o)) = true := h1
  rw [Bool.and_eq_true, Bool.and_eq_true] at gv
  obtain ⟨va, vb, vo⟩ := gv
  refine ⟨?_, fun a' b'' o' e => ?_⟩
  · show (areS (a.filter fun y => !(y == z)) && (areS b' && rowOkS (a.filter fun y => !(y == z)) b' o)) = true
    rw [areS_filter va, h, Bool.true_and, Bool.true_and]
    unfold rowOkS at vo ⊢
    rw [List.all_eq_true] at vo ⊢
    intro y hy
    obtain ⟨hy1, hy2⟩ := List.mem_filter.mp hy
    rw [k y hy1 (by simpa using hy2)]
    exact vo y hy1
  · cases e
    exact ⟨fun y hy => (h2 _ _ _ rfl).1 y (List.mem_filter.mp hy).1, hs⟩
theorem bend_open {a b : List Str} {o : Bool} {z : Str} (hn : ∀ y ∈ ns, Cs.isNameS y = true) (g : rowG ns (some (a, b, o))) (hz : z ∈ ns) : rowG ns (some (a.filter fun y => !(y == z), sortS (SetT.ddS (b ++ [z])), o)) := by
  have gb := (g.2 _ _ _ rfl).2
  have m : ∀ y, y ∈ b ++ [z] → y ∈ ns := fun y hy => by
    rcases List.mem_append.mp hy with hy | hy
    · exact gb y hy
    · rw [List.mem_singleton.mp hy]; exact hz
  refine bend_need g (areS_sortdd fun y hy => hn y (m y hy)) (fun y hy => m y (names_ddS.mp hy)) fun y _ hne => ?_
  rw [decide_eq_decide, names_ddS, List.mem_append, List.mem_singleton]
  exact ⟨fun h => h.resolve_right hne, .inl⟩
theorem bend_shut {a b : List Str} {o : Bool} {z : Str} (g : rowG ns (some (a, b, o))) : rowG ns (some (a.filter fun y => !(y == z), b.filter fun y => !(y == z), o)) := by
  have gb := (g.2 _ _ _ rfl).2
  have gv : (areS a && (areS b && rowOkS a b o)) = true := g.1
  rw [Bool.and_eq_true, Bool.and_eq_true] at gv
  refine bend_need g (areS_filter gv.2.1) (fun y hy => gb y (List.mem_filter.mp hy).1) fun y _ hne => ?_
  rw [decide_eq_decide, List.mem_filter]
  exact ⟨fun h => h.1, fun h => ⟨h, by simpa using hne⟩⟩
theorem rnd_made {i : Nat} {h : Nat} (hN : Names ns) (hs : St μ s c) (hi : i = 3) (hh : h ≤ 6) (hc : c + 100 ≤ 1000000) {ρ : Mi.Env} (h0 : ρ[0]? = some (some (.own s))) (h1 : ρ[1]? = some (some (.lst (ns.map D.str)))) {L : List D → Store → Prop}
    (k : ∀ (l : List SRow) μ', l.length = h → (∀ r ∈ l, rowG ns r) → St μ' s (c + h * 16) → Fr s μ μ' → L (l.map rowD) μ') :
    @Rp _ (lcA [] μ0 (lgName i) mYes (mCall m_Lrandom_row (mCons (mVar 0) (mCons (mVar 1) mNil))) ρ (rangeD 0 h) [] μ) L X := by
  subst hi
  have z6 : 1000 ≤ sizeLine := by decide
  refine lc_made (w := 16) (I := rowG ns) hs (by omega) (fun i μ' c' hi st fr hc' => ⟨_, rfl, ?_⟩) k
  have g0 : (ρ.set 3 (some (.int i)))[0]? = some (some (.own s)) := by rw [List.getElem?_set_ne (by decide)]; exact h0
  have g1 : (ρ.set 3 (some (.int i)))[1]? = some (some (.lst (ns.map D.str))) := by rw [List.getElem?_set_ne (by decide)]; exact h1
  simp only [rp_call, rp_cons, rp_nil, rp_var, g0, g1]
  exact row_rp hN st (by omega) fun r μ2 hr st2 fr2 => ⟨r, rfl, hr, st2, fr2⟩
def LoopI (ns : List Str) (s m c j : Nat) (μ : Store) (k : Nat) (ρ : Mi.Env) (μ' : Store) : Prop :=
  ∃ (l : List SRow) (x5 x6 x7 x8 x9 : Option D), ρ = [some (.own s), some (.lst (ns.map .str)), some (.int m), none, some (.own j), x5, x6, x7, x8, x9] ∧ l ≠ [] ∧ l.length + k = 8 ∧ l.length ≤ 6 ∧ (∀ r ∈ l, rowG ns r) ∧ μ'[j]? = some (some (.lst (l.map rowD))) ∧ St μ' s (c + 40 + 3 * l.length) ∧ Fr s μ μ'
theorem rows_rp (hN : Names ns) (hs : St μ s c) (hc : c + 200 ≤ 1000000) (h1 : 1 ≤ m) (h6 : m ≤ 6) (k : ∀ rs μ', rs ≠ [] → rs.length ≤ 8 → (∀ r ∈ rs, rowG ns r) → St μ' s (c + 200) → Fr s μ μ' → Q (.lst (rs.map rowD)) μ') : @Rp _ (m_Lrandom_rows [.own s, .lst (ns.map D.str), .int m] μ) Q X := by
  have z6 : 1000 ≤ sizeLine := by decide
  refine rp_fnI rfl ?_
  simp only [b_Lrandom_rows, startD]
  refine rs_go fun N hN2 => ?_
  simp
  refine draw_rp hs (by omega) (by omega) (by omega) fun j μ1 j0 j1 st1 fr1 => ?_
  by_cases hj : j = 0
  · simp [hj]
    refine draw_rp st1 (by omega) (by omega) (by omega) fun j μ2 j0 j1 st2 fr2 => ?_
    obtain ⟨i, rfl⟩ : ∃ i : Nat, j = i := ⟨j.toNat, by omega⟩
    have e1 : (1 : Int) + (i : Int) = ((1 + i : Nat) : Int) := by omega
    simp [wipeD]
    rw [e1]
    refine ⟨⟨by omega, by omega⟩, ?_⟩
    rw [Int.toNat_natCast]
    refine rnd_made hN st2 rfl (by omega) (by omega) rfl rfl fun l μ3 hl hI st3 fr3 => ?_
    exact k l _ (by rintro rfl; simp only [List.length_nil] at hl; omega) (by omega) hI (st3.le (by omega)) ((fr1.trans fr2).trans fr3)
  simp [hj]
  refine hN2 _ _ ?_
  refine rs_go fun N hN2 => ?_
  simp
  refine draw_rp st1 (by omega) (by omega) (by omega) fun j μ2 j0 j1 st2 fr2 => ?_
  obtain ⟨i, rfl⟩ : ∃ i : Nat, j = i := ⟨j.toNat, by omega⟩
  have e1 : (1 : Int) + (i : Int) = ((1 + i : Nat) : Int) := by omega
  simp [wipeD]
  rw [e1]
  refine ⟨⟨by omega, by omega⟩, ?_⟩
  rw [Int.toNat_natCast]
  refine rnd_made hN st2 rfl (by omega) (by omega) rfl rfl fun l μ3 hl hI st3 fr3 => ?_
  refine hN2 _ _ ?_
  refine rs_go fun N hN2 => ?_
  have lt3 := st3.lt
  have lμ : μ.length ≤ μ3.length := ((fr1.trans fr2).trans fr3).len
  refine while_inv (fun k ρ μ' => LoopI ns s m c μ3.length μ k ρ μ') (8 - l.length) ⟨l, none, none, none, none, none, rfl, by rintro rfl; simp only [List.length_nil] at hl; omega, by omega, by omega, hI, by simp, (st3.new).le (by omega), (((fr1.trans fr2).trans fr3).trans .new)⟩ ?_
  rintro k' ρ μ4 ⟨l, x5, x6, x7, x8, x9, rfl, hne, hk, l6, hI, hat, st4, fr4⟩
  have fin : ∀ (x5 x6 x7 x8 x9 : Option D) (μ5 : Store), μ5[μ3.length]? = some (some (.lst (l.map rowD))) → St μ5 s (c + 41 + 3 * l.length) → Fr s μ μ5 → N [some (.own s), some (.lst (ns.map .str)), some (.int m), none, some (.own μ3.length), x5, x6, x7, x8, x9] μ5 := by
    intro x5 x6 x7 x8 x9 μ5 hat5 st5 fr5
    refine hN2 _ _ ?_
    simp
    have l5 := fr5.len
    have lj : μ3.length < μ5.length := (List.getElem?_eq_some_iff.mp hat5).1
    refine draw_rp (st5.new) (by omega) (by omega) (by omega) fun j μ6 j0 j1 st6 fr6 => ?_
    obtain ⟨i, rfl⟩ : ∃ i : Nat, j = i := ⟨j.toNat, by omega⟩
    have at6 : μ6[μ5.length]? = some (some (.lst [.non])) := (fr6.at_ _ (by simp) (by omega)).trans (by simp)
    have at7 : μ6[μ3.length]? = some (some (.lst (l.map rowD))) := (fr6.at_ _ (by simp; omega) (by omega)).trans (by rw [List.getElem?_append_left lj]; exact hat5)
    rw [f_mulL at6]
    simp
    refine ⟨⟨by omega, by omega⟩, ?_⟩
    rw [f_addL (seqL_own at7) rfl]
    simp
    refine ⟨by omega, ?_⟩
    have e2 : l.map rowD ++ List.replicate i D.non = (l ++ List.replicate i none).map rowD := by
      rw [List.map_append, List.map_replicate]; rfl
    rw [e2]
    refine k _ _ (by simp [hne]) (by rw [List.length_append, List.length_replicate]; omega) (fun r hr => ?_) (st6.le (by omega)) ((fr5.trans .new).trans fr6)
    rcases List.mem_append.mp hr with hr | hr
    · exact hI r hr
    · rw [(List.mem_replicate.mp hr).2]; exact rowG_none
  simp
  rw [f_lenL (seqL_own hat)]
  simp
  by_cases hm : l.length < m
  · simp [hm]
    refine draw_rp st4 (by omega) (by omega) (by omega) fun j μ5 j0 j1 st5 fr5 => ?_
    have lj : μ3.length < μ4.length := (List.getElem?_eq_some_iff.mp hat).1
    have hat5 := (fr5.at_ _ lj (by omega)).trans hat
    by_cases hj : 0 < j
    · simp [hj]
      obtain ⟨k2, rfl⟩ : ∃ k2, k' = k2 + 1 := ⟨k' - 1, by omega⟩
      refine ⟨k2, rfl, ?_⟩
      obtain ⟨l', r, rfl⟩ : ∃ l' r, l = l' ++ [r] := ⟨l.dropLast, l.getLast hne, (List.dropLast_concat_getLast hne).symm⟩
      have eL : (l' ++ [r]).map rowD = l'.map rowD ++ [rowD r] := by simp
      rw [f_ixL (seqL_own hat5), eL, atI_m1]
      simp
      have gr := hI r (by simp)
      have app : ∀ (r' : SRow) (x5 x6 x7 x8 x9 : Option D) (μ6 : Store) (X' : Exc → Store → Prop), rowG ns r' → μ6[μ3.length]? = some (some (.lst ((l' ++ [r]).map rowD))) → St μ6 s (c + 40 + 3 * (l' ++ [r]).length + 3) → Fr s μ μ6 →
          tyM μ6 (.own μ3.length) = some "list" ∧ @Rp _ (fAppend (.own μ3.length) [rowD r'] μ6) (fun _ μ' => LoopI ns s m c μ3.length μ k2 [some (D.own s), some (.lst (ns.map .str)), some (.int m), none, some (.own μ3.length), x5, x6, x7, x8, x9] μ') X' := by
        intro r' x5 x6 x7 x8 x9 μ6 X' hr' hat6 st6 fr6
        refine ⟨tyM_ownL hat6, ?_⟩
        have lj6 : μ3.length < μ6.length := (List.getElem?_eq_some_iff.mp hat6).1
        rw [f_append hat6, List.length_map]
        have e4 : (l' ++ [r]).map rowD ++ [rowD r'] = ((l' ++ [r]) ++ [r']).map rowD := by simp
        rw [e4]
        have e5 : ((l' ++ [r]) ++ [r']).length = (l' ++ [r]).length + 1 := by simp
        refine ⟨by omega, (l' ++ [r]) ++ [r'], x5, x6, x7, x8, x9, rfl, by simp, by omega, by omega, fun q hq => ?_, by rw [List.getElem?_set_self lj6], ?_, fr6.put (by omega)⟩
        · rcases List.mem_append.mp hq with hq | hq
          · exact hI q hq
          · rw [List.mem_singleton.mp hq]; exact hr'
        · rw [e5]
          have := st6.put (k := μ3.length) (x := some (.lst (((l' ++ [r]) ++ [r']).map rowD))) (by omega)
          exact this.le (by omega)
      rw [isNon_row]
      cases r with
      | none =>
        simp
        exact app none _ _ _ _ _ μ5 _ gr hat5 (st5.le (by omega)) (fr4.trans fr5)
      | some t =>
        obtain ⟨a, b, o⟩ := t
        obtain ⟨ga, gb⟩ := gr.2 a b o rfl
        have gv : (areS a && (areS b && rowOkS a b o)) = true := gr.1
        rw [Bool.and_eq_true, Bool.and_eq_true] at gv
        obtain ⟨va, vb, vo⟩ := gv
        have la := (rowG_len gr rfl).1
        have lb := (rowG_len gr rfl).2
        have l5 := hN.len
        simp
        refine rp_lct (fun z => (decide (z ∈ b) != o)) (fun z => .str z) (by omega) (fun z hz => ⟨_, rfl, ok_of ?_, fun _ => ok_of (by simp [wipeD])⟩) ?_
        · simp [wipeD, rowD, f_inTSs]
          generalize decide (z ∈ b) = q
          cases q <;> cases o <;> rfl
        by_cases hl0 : ns.filter (fun z => decide (z ∈ b) != o) = []
        · simp [hl0]
          exact app _ _ _ _ _ _ μ5 _ gr hat5 (st5.le (by omega)) (fr4.trans fr5)
        simp only [List.map_eq_nil_iff, hl0, if_false]
        refine draw_rp st5 (by omega) (by omega) (by omega) fun j μ6 j0 j1 st6 fr6 => ?_
        have lj5 := (List.getElem?_eq_some_iff.mp hat5).1
        have hat6 := (fr6.at_ _ lj5 (by omega)).trans hat5
        by_cases hj : 0 < j
        · simp [hj]
          refine pick_rp st6 (by omega) (fun μ' f => rfl) (by rw [List.length_map]; exact List.length_pos_iff.mpr hl0) (by rw [List.length_map]; have := List.length_filter_le (fun z => decide (z ∈ b) != o) ns; omega) fun d' μ7 hm7 st7 fr7 => ?_
          have lj6 := (List.getElem?_eq_some_iff.mp hat6).1
          have hat7 := (fr7.at_ _ lj6 (by omega)).trans hat6
          obtain ⟨z, hz, rfl⟩ := List.mem_map.mp hm7
          obtain ⟨hz1, hz2⟩ := List.mem_filter.mp hz
          have ne1 : ∀ y : Str, @Rp _ (fEq true (.str y) (.str z) μ7) = fun Q X => Q (.bl (!(y == z))) μ7 := fun y => by
            funext Q X; simp
          have z5 : (a.filter fun y => !(y == z)).length ≤ 6 := by have := List.length_filter_le (fun y => !(y == z)) a; omega
          simp only [rowD, f_ixTup, atI_0]
          refine rp_lct (fun y => !(y == z)) (fun y => .str y) (by omega) (fun y hy => ⟨_, rfl, ok_of (by simp [wipeD]), fun _ => ok_of (by simp [wipeD])⟩) ?_
          simp
          cases o with
          | true =>
            simp
            have eB : b.map D.str ++ [D.str z] = (b ++ [z]).map D.str := by simp
            refine ⟨by omega, ?_⟩
            try simp only [Option.bind_some, seqA_tup]
            rw [eB, strsD_map]
            simp
            exact ⟨by omega, app (some (a.filter fun y => !(y == z), sortS (SetT.ddS (b ++ [z])), true)) _ _ _ _ _ μ7 _ (bend_open hN.nm gr hz1) hat7 (st7.le (by omega)) (((fr4.trans fr5).trans fr6).trans fr7)⟩
          | false =>
            simp
            refine rp_lct (fun y => !(y == z)) (fun y => .str y) (by omega) (fun y hy => ⟨_, rfl, ok_of (by simp [wipeD]), fun _ => ok_of (by simp [wipeD])⟩) ?_
            exact app (some (a.filter fun y => !(y == z), b.filter fun y => !(y == z), false)) _ _ _ _ _ μ7 _ (bend_shut gr) hat7 (st7.le (by omega)) (((fr4.trans fr5).trans fr6).trans fr7)
        · simp [hj]
          exact app _ _ _ _ _ _ μ6 _ gr hat6 (st6.le (by omega)) ((fr4.trans fr5).trans fr6)
    · simp [hj]
      exact fin _ _ _ _ _ _ hat5 (st5.le (by omega)) (fr4.trans fr5)
  · simp [hm]
    exact fin _ _ _ _ _ _ hat (st4.le (by omega)) fr4
end
end Sg
namespace K29
open PySem PySem.Spec L2 Mi Pl
theorem e_pool : K29.m_Lpool = Sg.m_Lpool := rfl
theorem e_rr : K29.m_Lrandom_rows = Sg.m_Lrandom_rows := rfl
theorem e_begin : K29.m_Lbegin = Pl.m_begin := rfl
theorem e_draw : K29.m_Ldraw = Pl.m_draw := rfl
theorem e_pick : K29.m_Lpick = Pl.m_pick := rfl
theorem e_init : K29.m_Staircase_dinitd = Pl.m_Staircase_dinitd := rfl
theorem e_row : K29.m_Staircase_row = Pl.m_Staircase_row := rfl
abbrev TR := List Str × List Str × Bool
def optL : Option (List Str) → D
  | none => .non
  | some l => .lst (l.map .str)
def lostOf (w n : List Str) : List Str := w.filter fun z => !decide (z ∈ n)
def lostF : TR → TR → Option (List Str)
  | (a, b, o), (a', b', o') => if o = o' then
      let w := if o = true then b' else b
      let n := if o = true then b else b'
      if (n.all fun z => decide (z ∈ w)) = true then (if (a' == a.filter fun z => !decide (z ∈ lostOf w n)) = true then some (lostOf w n) else none) else none
    else none
section
variable {Q : D → Store → Prop} {X : Exc → Store → Prop} {P : Post} {ρ : Mi.Env} {μ μ0 : Store} {n k c s m : Nat} {x d : D} {ds : List D} {rs ss : List SRow} {r : SRow} {ns : List Str}
theorem lost_m {r l : TR} (hr : rowV (some r) = true) (hl : rowV (some l) = true) (h1 : r.1.length ≤ 1000 ∧ r.2.1.length ≤ 1000) (h2 : l.1.length ≤ 1000 ∧ l.2.1.length ≤ 1000) : m_lost_between [rowD (some r), rowD (some l)] μ = .ok (optL (lostF r l)) μ := ok_of (by
  have z6 : 1000 ≤ sizeLine := by decide
  obtain ⟨a, b, o⟩ := r
  obtain ⟨a', b', o'⟩ := l
  simp only at h1 h2
  have la : ∀ z ∈ a, strLow z := areS_low (rowV_parts hr).1
  have la' : ∀ z ∈ a', strLow z := areS_low (rowV_parts hl).1
  simp [m_lost_between, b_lost_between, startD, rowD]
  by_cases ho : o = o'
  · subst ho
    rw [if_pos rfl]
    cases o with
    | false =>
      simp
      refine rp_lcm' (fun z => .bl (decide (z ∈ b))) (by omega) (fun z hz => ⟨_, rfl, ok_of (by simp [wipeD, f_inTSs])⟩) ?_
      rw [show b'.map (fun z => D.bl (decide (z ∈ b))) = (b'.map fun z => decide (z ∈ b)).map D.bl by simp, f_all, List.all_map]
      simp
      have lw : (lostOf b b').length ≤ 1000 := Nat.le_trans (List.length_filter_le _ _) (by omega)
      by_cases hall : ∀ z ∈ b', z ∈ b
      · rw [if_pos hall]
        refine rp_lct (fun z => !decide (z ∈ b')) D.str (by omega) (fun z hz => ⟨_, rfl, ok_of (by simp [wipeD, f_inTSs]), fun _ => ok_of (by simp [wipeD])⟩) ?_
        rw [show (b.filter fun z => !decide (z ∈ b')) = lostOf b b' from rfl]
        refine rp_lct (fun z => !decide (z ∈ lostOf b b')) D.str (by omega) (fun z hz => ⟨_, rfl, ok_of (by simp [wipeD, f_inSS]), fun _ => ok_of (by simp [wipeD])⟩) ?_
        have hf : ∀ z ∈ a.filter fun z => !decide (z ∈ lostOf b b'), strLow z := fun z hz => la z (List.mem_filter.mp hz).1
        simp only [rp_newL, f_tupleL, f_eqTStrs la' hf, if_false, Bool.false_eq_true]
        have e0 : lostF (a, b, false) (a', b', false) = if (a' == a.filter fun z => !decide (z ∈ lostOf b b')) = true then some (lostOf b b') else none := by
          have hb : (b'.all fun z => decide (z ∈ b)) = true := List.all_eq_true.mpr fun z hz => decide_eq_true (hall z hz)
          exact (show lostF (a, b, false) (a', b', false) = if (b'.all fun z => decide (z ∈ b)) = true then (if (a' == a.filter fun z => !decide (z ∈ lostOf b b')) = true then some (lostOf b b') else none) else none from rfl).trans (if_pos hb)
        rw [e0]
        cases (a' == a.filter fun z => !decide (z ∈ lostOf b b')) <;> simp [optL]
      · rw [if_neg hall]
        simp [lostF, hall, optL]
    | true =>
      simp
      refine rp_lcm' (fun z => .bl (decide (z ∈ b'))) (by omega) (fun z hz => ⟨_, rfl, ok_of (by simp [wipeD, f_inTSs])⟩) ?_
      rw [show b.map (fun z => D.bl (decide (z ∈ b'))) = (b.map fun z => decide (z ∈ b')).map D.bl by simp, f_all, List.all_map]
      simp
      have lw : (lostOf b' b).length ≤ 1000 := Nat.le_trans (List.length_filter_le _ _) (by omega)
      by_cases hall : ∀ z ∈ b, z ∈ b'
      · rw [if_pos hall]
        refine rp_lct (fun z => !decide (z ∈ b)) D.str (by omega) (fun z hz => ⟨_, rfl, ok_of (by simp [wipeD, f_inTSs]), fun _ => ok_of (by simp [wipeD])⟩) ?_
        rw [show (b'.filter fun z => !decide (z ∈ b)) = lostOf b' b from rfl]
        refine rp_lct (fun z => !decide (z ∈ lostOf b' b)) D.str (by omega) (fun z hz => ⟨_, rfl, ok_of (by simp [wipeD, f_inSS]), fun _ => ok_of (by simp [wipeD])⟩) ?_
        have hf : ∀ z ∈ a.filter fun z => !decide (z ∈ lostOf b' b), strLow z := fun z hz => la z (List.mem_filter.mp hz).1
        simp only [rp_newL, f_tupleL, f_eqTStrs la' hf, if_false, Bool.false_eq_true]
        have e0 : lostF (a, b, true) (a', b', true) = if (a' == a.filter fun z => !decide (z ∈ lostOf b' b)) = true then some (lostOf b' b) else none := by
          have hb : (b.all fun z => decide (z ∈ b')) = true := List.all_eq_true.mpr fun z hz => decide_eq_true (hall z hz)
          exact (show lostF (a, b, true) (a', b', true) = if (b.all fun z => decide (z ∈ b')) = true then (if (a' == a.filter fun z => !decide (z ∈ lostOf b' b)) = true then some (lostOf b' b) else none) else none from rfl).trans (if_pos hb)
        rw [e0]
        cases (a' == a.filter fun z => !decide (z ∈ lostOf b' b)) <;> simp [optL]
      · rw [if_neg hall]
        simp [lostF, hall, optL]
  · rw [if_neg ho]
    simp [lostF, ho, optL])
end
end K29
namespace K29
open PySem PySem.Spec L2 Mi Pl
abbrev CR := Nat × TR
def cD (p : CR) : D := .tup [.int (p.1 : Nat), rowD (some p.2)]
def pD (p : Nat × SRow) : D := .tup [.int (p.1 : Nat), rowD p.2]
abbrev Loss := Nat × Nat × Option (List Str) × List Str
def lossD (l : Loss) : D := .tup [.int (l.1 : Nat), .int (l.2.1 : Nat), optL l.2.2.1, .tup (l.2.2.2.map .str)]
def lossOf (p : CR × CR) : Loss := (p.1.1, p.2.1, lostF p.1.2 p.2.2, p.1.2.1)
def lossesF (full : List CR) : List Loss := (full.zip (full.drop 1)).map lossOf
def fitD (full : List CR) (f l : Nat) (bd tn : Bool) (m : Nat) : D := .obj "Fit" ["full", "first", "last", "is_bounded", "is_torn", "losses"] [.lst (full.map cD), .int (f : Nat), .int (l : Nat), .bl bd, .bl tn, .own m]
def fullF (ps : List (Nat × SRow)) : List CR := ps.filterMap fun p => p.2.map fun r => (p.1, r)
@[simp] theorem ne_full_first : (Str.ofString "full" = Str.ofString "first") = False := eq_false (by decide)
@[simp] theorem ne_full_last : (Str.ofString "full" = Str.ofString "last") = False := eq_false (by decide)
@[simp] theorem ne_full_is_bounded : (Str.ofString "full" = Str.ofString "is_bounded") = False := eq_false (by decide)
@[simp] theorem ne_full_is_torn : (Str.ofString "full" = Str.ofString "is_torn") = False := eq_false (by decide)
@[simp] theorem ne_full_losses : (Str.ofString "full" = Str.ofString "losses") = False := eq_false (by decide)
@[simp] theorem ne_first_full : (Str.ofString "first" = Str.ofString "full") = False := eq_false (by decide)
@[simp] theorem ne_first_last : (Str.ofString "first" = Str.ofString "last") = False := eq_false (by decide)
@[simp] theorem ne_first_is_bounded : (Str.ofString "first" = Str.ofString "is_bounded") = False := eq_false (by decide)
@[simp] theorem ne_first_is_torn : (Str.ofString "first" = Str.ofString "is_torn") = False := eq_false (by decide)
@[simp] theorem ne_first_losses : (Str.ofString "first" = Str.ofString "losses") = False := eq_false (by decide)
@[simp] theorem ne_last_full : (Str.ofString "last" = Str.ofString "full") = False := eq_false (by decide)
@[simp] theorem ne_last_first : (Str.ofString "last" = Str.ofString "first") = False := eq_false (by decide)
@[simp] theorem ne_last_is_bounded : (Str.ofString "last" = Str.ofString "is_bounded") = False := eq_false (by decide)
@[simp] theorem ne_last_is_torn : (Str.ofString "last" = Str.ofString "is_torn") = False := eq_false (by decide)
@[simp] theorem ne_last_losses : (Str.ofString "last" = Str.ofString "losses") = False := eq_false (by decide)
@[simp] theorem ne_is_bounded_full : (Str.ofString "is_bounded" = Str.ofString "full") = False := eq_false (by decide)
@[simp] theorem ne_is_bounded_first : (Str.ofString "is_bounded" = Str.ofString "first") = False := eq_false (by decide)
@[simp] theorem ne_is_bounded_last : (Str.ofString "is_bounded" = Str.ofString "last") = False := eq_false (by decide)
@[simp] theorem ne_is_bounded_is_torn : (Str.ofString "is_bounded" = Str.ofString "is_torn") = False := eq_false (by decide)
@[simp] theorem ne_is_bounded_losses : (Str.ofString "is_bounded" = Str.ofString "losses") = False := eq_false (by decide)
@[simp] theorem ne_is_torn_full : (Str.ofString "is_torn" = Str.ofString "full") = False := eq_false (by decide)
@[simp] theorem ne_is_torn_first : (Str.ofString "is_torn" = Str.ofString "first") = False := eq_false (by decide)
@[simp] theorem ne_is_torn_last : (Str.ofString "is_torn" = Str.ofString "last") = False := eq_false (by decide)
@[simp] theorem ne_is_torn_is_bounded : (Str.ofString "is_torn" = Str.ofString "is_bounded") = False := eq_false (by decide)
@[simp] theorem ne_is_torn_losses : (Str.ofString "is_torn" = Str.ofString "losses") = False := eq_false (by decide)
@[simp] theorem ne_losses_full : (Str.ofString "losses" = Str.ofString "full") = False := eq_false (by decide)
@[simp] theorem ne_losses_first : (Str.ofString "losses" = Str.ofString "first") = False := eq_false (by decide)
@[simp] theorem ne_losses_last : (Str.ofString "losses" = Str.ofString "last") = False := eq_false (by decide)
@[simp] theorem ne_losses_is_bounded : (Str.ofString "losses" = Str.ofString "is_bounded") = False := eq_false (by decide)
@[simp] theorem ne_losses_is_torn : (Str.ofString "losses" = Str.ofString "is_torn") = False := eq_false (by decide)
section
variable {Q : D → Store → Prop} {X : Exc → Store → Prop} {P : Post} {ρ : Mi.Env} {μ μ0 : Store} {n k c s m : Nat} {x d : D} {ds : List D} {rs ss : List SRow} {r : SRow} {ns : List Str}
theorem full_map : ∀ {ps : List (Nat × SRow)}, ((ps.filter fun p => !decide (p.2 = none)).map pD) = (fullF ps).map cD
  | [] => rfl
  | (a, none) :: ps => by
    have := full_map (ps := ps)
    simpa [fullF] using this
  | (a, some r) :: ps => by
    have := full_map (ps := ps)
    simp [fullF] at this ⊢
    exact ⟨rfl, this⟩
theorem full_mem {ps : List (Nat × SRow)} {p : CR} (h : p ∈ fullF ps) : (p.1, some p.2) ∈ ps := by
  unfold fullF at h
  rw [List.mem_filterMap] at h
  obtain ⟨q, hq, e⟩ := h
  obtain ⟨a, o⟩ := q
  cases o with
  | none => cases e
  | some r => cases e; exact hq
theorem full_len (ps : List (Nat × SRow)) : (fullF ps).length ≤ ps.length := List.length_filterMap_le _ _
theorem fit_rp {ps : List (Nat × SRow)} (hp : ps.length ≤ 10) (hv : ∀ p ∈ ps, rowV p.2 = true) (hg : ∀ p ∈ ps, ∀ a b o, p.2 = some (a, b, o) → a.length ≤ 1000 ∧ b.length ≤ 1000) (hne : fullF ps ≠ [])
    (k : ∀ f l bd tn, Q (fitD (fullF ps) f l bd tn (μ.length + 1)) (μ ++ [none, some (.lst ((lossesF (fullF ps)).map lossD))])) : @Rp _ (mkObj true "Fit" m_Fit_dinitd [.lst (ps.map pD)] μ) Q X := by
  have z6 : 1000 ≤ sizeLine := by decide
  refine rp_mkObj (rp_fnI rfl ?_)
  simp only [b_Fit_dinitd, startD]
  refine rs_go fun N hN => ?_
  simp
  refine rp_lct (fun p => !decide (p.2 = none)) pD (by omega) (fun p hp => ⟨_, rfl, ok_of (by simp [wipeD, isNon_row]), fun _ => ok_of (by simp [wipeD]; rfl)⟩) ?_
  rw [full_map]
  simp [ownO, putFK, putFV, lookF]
  refine hN _ _ ?_
  obtain ⟨full, hfull⟩ : ∃ full, full = fullF ps := ⟨_, rfl⟩
  have hfl : full.length ≤ 10 := hfull ▸ Nat.le_trans (full_len ps) hp
  have hfm : ∀ p ∈ full, (p.1, some p.2) ∈ ps := fun p h => full_mem (hfull ▸ h)
  rw [← hfull] at k hne ⊢
  refine rs_go fun N hN => ?_
  simp [ownO, putFK, putFV, lookF]
  obtain ⟨p0, h0⟩ : ∃ p, atI (full.map cD) 0 = some (cD p) := by
    obtain ⟨d, h1, h2⟩ := atI_nat (xs := full.map cD) (i := 0) (by omega) (by have := List.length_pos_iff.mpr hne; simp; omega)
    obtain ⟨p, _, rfl⟩ := List.mem_map.mp h2
    exact ⟨p, h1⟩
  obtain ⟨p1, h1⟩ : ∃ p, atI (full.map cD) (-1) = some (cD p) := by
    rw [← List.dropLast_concat_getLast hne, List.map_append]
    exact ⟨_, atI_m1⟩
  have c0 : ∀ μ Q X, @Rp _ (fIx (cD p0) (.int 0) μ) Q X = Q (.int (p0.1 : Nat)) μ := fun μ Q X => by simp [cD]
  have c1 : ∀ μ Q X, @Rp _ (fIx (cD p1) (.int 0) μ) Q X = Q (.int (p1.1 : Nat)) μ := fun μ Q X => by simp [cD]
  simp [h0, h1, c0, c1, ownO, putFK, putFV, lookF]
  refine hN _ _ ?_
  generalize p0.1 = f0
  generalize p1.1 = l0
  refine rs_go fun N hN => ?_
  simp
  refine rp_lct (fun p => decide (p.2 = none)) (fun p => .int (p.1 : Nat)) (by omega) (fun p hp => ⟨_, rfl, ok_of (by simp [wipeD, isNon_row]), fun _ => ok_of (by simp [wipeD])⟩) ?_
  obtain ⟨emp, he⟩ : ∃ emp : List Nat, emp = (ps.filter fun p => decide (p.2 = none)).map (·.1) := ⟨_, rfl⟩
  have hel : emp.length ≤ 10 := by rw [he, List.length_map]; exact Nat.le_trans (List.length_filter_le _ _) hp
  rw [show ((ps.filter fun p => decide (p.2 = none)).map fun p => D.int (p.1 : Nat)) = emp.map (fun n : Nat => D.int n) by rw [he]; simp]
  refine hN _ _ ?_
  refine rs_go fun N hN => ?_
  simp
  refine rp_lcm' (fun n : Nat => .bl (decide (l0 < n))) (by omega) (fun z hz => ⟨_, rfl, ok_of (by simp [wipeD, objOf, lookF])⟩) ?_
  simp [f_anyM, ownO, putFK, putFV, lookF]
  generalize (emp.any _) = bd
  refine hN _ _ ?_
  refine rs_go fun N hN => ?_
  simp
  refine rp_lcm' (fun n : Nat => .bl (decide (f0 < n) && decide (n < l0))) (by omega) (fun z hz => ⟨_, rfl, ok_of (by simp [wipeD, objOf, lookF]; by_cases q : f0 < z <;> simp [q])⟩) ?_
  simp [f_anyM, ownO, putFK, putFV, lookF]
  generalize (emp.any _) = tn
  refine hN _ _ ?_
  refine rs_go fun N hN => ?_
  simp [ownO, putFK, putFV, lookF]
  refine hN _ _ ?_
  simp [objOf, lookF]
  obtain ⟨ob, hob⟩ : ∃ ob, ob = Cell.obj "Fit" [Str.ofString "full", Str.ofString "first", Str.ofString "last", Str.ofString "is_bounded", Str.ofString "is_torn", Str.ofString "losses"] [D.lst (List.map cD full), D.int (f0 : Nat), D.int (l0 : Nat), D.bl bd, D.bl tn, D.own (List.length μ + 1)] := ⟨_, rfl⟩
  rw [← hob]
  rw [cut_lo (i := 1) (by omega), show (1 : Int).toNat = 1 from rfl, zipA]
  refine for_cell (γ := Option D × Option D × Option D × Option D) (μ0 := μ ++ [some ob]) (fun z => [some (.own μ.length), some (.lst (ps.map pD)), z.1, z.2.1, some (.lst (emp.map fun n : Nat => D.int n)), z.2.2.1, z.2.2.2]) (fun pre => .lst ((pre.map lossOf).map lossD)) _ (none, none, none, none) rfl (by simp) (fun z pre a post e => ?_) fun z => ?_
  · have ha : a ∈ full.zip (full.drop 1) := by rw [e]; simp
    have ma := hfm _ (List.of_mem_zip ha).1
    have mb := hfm _ (List.mem_of_mem_drop (List.of_mem_zip ha).2)
    have lz : (full.zip (full.drop 1)).length ≤ 10 := by rw [List.length_zip]; omega
    have lp : pre.length ≤ 10 := by rw [e, List.length_append] at lz; omega
    obtain ⟨L, hL⟩ : ∃ L, L = (pre.map lossOf).map lossD := ⟨_, rfl⟩
    have lL : L.length ≤ 10 := by rw [hL, List.length_map, List.length_map]; exact lp
    have eL : ((pre ++ [a]).map lossOf).map lossD = L ++ [lossD (lossOf a)] := by rw [hL]; simp
    rw [← hL, eL, List.append_assoc]
    have o1 : objOf (μ ++ [some ob, some (Cell.lst L)]) (.own μ.length) = some ("Fit", _, _) := objOf_own (by rw [hob]; simp; exact ⟨rfl, rfl⟩)
    have t1 : (μ ++ [some ob, some (Cell.lst L)])[μ.length + 1]? = some (some (.lst L)) := by simp
    have ty := tyM_ownL t1
    have gl := lost_m (μ := μ ++ [some ob, some (Cell.lst L)]) (hv _ ma) (hv _ mb) (hg _ ma _ _ _ rfl) (hg _ mb _ _ _ rfl)
    have rx : ∀ (r : TR) μ Q X, @Rp _ (fIx (rowD (some r)) (.int 0) μ) Q X = Q (.tup (r.1.map .str)) μ := fun r μ Q X => by
      obtain ⟨x, y, o⟩ := r
      simp [rowD]
    simp only [cD]
    simp [o1, lookF, ty, gl, rx]
    rw [f_append t1]
    refine ⟨by omega, ?_⟩
    simp [lossD, lossOf]
  · show ∃ x, _
    refine ⟨ob, by simp, _, by rw [hob]; rfl, ?_⟩
    have := k f0 l0 bd tn
    have es : (μ ++ [some ob] ++ [some (Cell.lst ((lossesF full).map lossD))]).set μ.length none = μ ++ [none, some (Cell.lst ((lossesF full).map lossD))] := by simp
    change Q _ ((μ ++ [some ob] ++ [some (Cell.lst ((lossesF full).map lossD))]).set μ.length none)
    rw [es]
    exact this
end
end K29
namespace K29
open PySem PySem.Spec L2 Mi Pl
abbrev LS := Nat × Nat × List Str × List Str
def lD (l : LS) : D := .tup [.int (l.1 : Nat), .int (l.2.1 : Nat), .lst (l.2.2.1.map .str), .tup (l.2.2.2.map .str)]
structure LsOk (μ : Store) (m : Nat) (ls : List LS) : Prop where
  at_ : μ[m]? = some (some (.lst (ls.map lD)))
  len : ls.length ≤ 10
  l : ∀ a ∈ ls, a.2.2.1.length ≤ 1000 ∧ a.2.2.2.length ≤ 1000
theorem look_losses {a b c d e f : D} : lookF "losses" [("full" : Str), "first", "last", "is_bounded", "is_torn", "losses"] [a, b, c, d, e, f] = some f := by simp [lookF]
theorem look_first {a b c d e f : D} : lookF "first" [("full" : Str), "first", "last", "is_bounded", "is_torn", "losses"] [a, b, c, d, e, f] = some b := by simp [lookF]
theorem look_last {a b c d e f : D} : lookF "last" [("full" : Str), "first", "last", "is_bounded", "is_torn", "losses"] [a, b, c, d, e, f] = some c := by simp [lookF]
theorem look_bounded {a b c d e f : D} : lookF "is_bounded" [("full" : Str), "first", "last", "is_bounded", "is_torn", "losses"] [a, b, c, d, e, f] = some d := by simp [lookF]
theorem look_torn {a b c d e f : D} : lookF "is_torn" [("full" : Str), "first", "last", "is_bounded", "is_torn", "losses"] [a, b, c, d, e, f] = some e := by simp [lookF]
section
variable {Q : D → Store → Prop} {X : Exc → Store → Prop} {P : Post} {ρ : Mi.Env} {μ μ0 : Store} {n k c s m f l : Nat} {x d : D} {ds : List D} {rs ss : List SRow} {r : SRow} {ns : List Str} {full : List CR} {bd tn : Bool} {ls : List LS}
theorem obj_fit : objOf μ (fitD full f l bd tn m) = some ("Fit", (["full", "first", "last", "is_bounded", "is_torn", "losses"] : List Str), [.lst (full.map cD), .int (f : Nat), .int (l : Nat), .bl bd, .bl tn, .own m]) := rfl
theorem ordered_rp (h : LsOk μ m ls) (k : ∀ b, Q (.bl b) μ) : @Rp _ (m_Fit_is_ordered [fitD full f l bd tn m] μ) Q X := by
  have z6 : 1000 ≤ sizeLine := by decide
  refine rp_fnI rfl ?_
  simp only [b_Fit_is_ordered, startD]
  refine rs_go fun N hN => ?_
  simp
  refine hN _ _ ?_
  refine rs_go fun N hN => ?_
  rw [rs_for]
  simp [obj_fit, look_losses, h.at_]
  rw [any_own h.at_]
  refine for_map lD (fun pre ρ μ' => (∃ b y2 y3 y4 y5 y6, ρ = [some (fitD full f l bd tn m), some (.bl b), y2, y3, y4, y5, y6]) ∧ μ' = μ) ⟨⟨_, _, _, _, _, _, rfl⟩, rfl⟩ (fun pre ρ μ' q => by rw [q.2]; exact watch_rfl) ?_ ?_
  · rintro pre a post ρ μ' e ⟨⟨b, y2, y3, y4, y5, y6, rfl⟩, rfl⟩
    have ha : a ∈ ls := by rw [e]; simp
    have la := h.l a ha
    simp [lD]
    cases b with
    | true =>
      simp
      refine rp_lcm' (fun z => .bl (decide (z ∈ a.2.2.2))) (by omega) (fun z hz => ⟨_, rfl, ok_of (by simp [wipeD, f_inTSs])⟩) ?_
      simp [f_anyM]
      exact fun _ _ _ => k _
    | false =>
      simp
      refine rp_lcm' (fun z => .bl (!decide (z ∈ a.2.2.2))) (by omega) (fun z hz => ⟨_, rfl, ok_of (by simp [wipeD, f_inTSs])⟩) ?_
      simp [f_anyM]
      by_cases q : ∀ z ∈ a.2.2.1, z ∈ a.2.2.2
      · exact .inl q
      · exact .inr (by simpa using q)
  · rintro ρ μ' ⟨⟨b, y2, y3, y4, y5, y6, rfl⟩, rfl⟩
    refine hN _ _ ?_
    simp
    exact k _
theorem flat_len {h : LS → List D} (hh : ∀ a, (h a).length = a.2.2.1.length) : ∀ {ls : List LS}, (∀ a ∈ ls, a.2.2.1.length ≤ 1000 ∧ a.2.2.2.length ≤ 1000) → (ls.flatMap h).length ≤ 1000 * ls.length
  | [], _ => Nat.le_refl _
  | a :: ls, q => by
    have := flat_len hh (ls := ls) fun b hb => q b (List.mem_cons_of_mem _ hb)
    have := q a List.mem_cons_self
    rw [List.flatMap_cons, List.length_append, hh, List.length_cons]
    omega
theorem needed_rp (h : LsOk μ m ls) (k : ∀ b, Q (.bl b) μ) : @Rp _ (m_Fit_loses_needed [fitD full f l bd tn m] μ) Q X := by
  have z6 : 100000 ≤ sizeLine := by decide
  refine rp_fnI rfl ?_
  simp only [b_Fit_loses_needed, startD]
  simp [obj_fit, look_losses, h.at_]
  rw [any_own h.at_]
  simp only
  refine rp_lcB (fun a => a.2.2.1.map fun z => D.bl (decide (z ∈ a.2.2.2))) ?_ (fun a ha => ?_) ?_
  · have := flat_len (h := fun a => a.2.2.1.map fun z => D.bl (decide (z ∈ a.2.2.2))) (fun a => by simp) h.l
    have := h.len
    omega
  · have la := h.l a ha
    refine ⟨_, _, rfl, rfl, rfl, fun acc hacc => ?_⟩
    refine (lct_go (f := D.str) (fun _ => true) (fun z => D.bl (decide (z ∈ a.2.2.2))) a.2.2.1 acc (by simpa using hacc) fun z hz => ⟨_, rfl, rfl, fun _ => ok_of (by simp [wipeD, f_inTSs])⟩).trans ?_
    rw [List.filter_eq_self.mpr fun _ _ => rfl]
  · rw [show (ls.flatMap fun a => a.2.2.1.map fun z => D.bl (decide (z ∈ a.2.2.2))) = (ls.flatMap fun a => a.2.2.1.map fun z => decide (z ∈ a.2.2.2)).map D.bl by rw [List.map_flatMap]; congr 1; funext a; simp]
    simp only [rp_newL, Bool.false_eq_true, if_false, f_any]
    exact k _
theorem allows_rp {i j : Int} (h : LsOk μ m ls) (k : ∀ b, Q (.bl b) μ) : @Rp _ (m_Fit_allows [fitD full f l bd tn m, .int i, .int j] μ) Q X := by
  refine rp_fnI rfl ?_
  simp only [b_Fit_allows, startD]
  simp [obj_fit, look_losses, look_first, look_last, look_bounded]
  by_cases h1 : j < (l : Int) <;> by_cases h2 : i ≤ (f : Int) <;> cases bd <;> simp [h1, h2]
  all_goals first | exact k _ | exact needed_rp h fun b => k _
theorem steady_rp (h : LsOk μ m ls) (k : ∀ b, Q (.bl b) μ) : @Rp _ (m_Fit_is_steady [fitD full f l bd tn m] μ) Q X := by
  have z6 : 100000 ≤ sizeLine := by decide
  refine rp_fnI rfl ?_
  simp only [b_Fit_is_steady, startD]
  refine rs_go fun N hN => ?_
  simp [obj_fit, look_losses, h.at_]
  rw [seqL_own h.at_]
  dsimp only
  rw [enumD_zip]
  have lz : ls.zipIdx.length ≤ 10 := by rw [List.length_zipIdx]; exact h.len
  refine rp_lct (fun q : LS × Nat => !q.1.2.2.1.isEmpty) (fun q => .int (q.2 : Nat)) (by omega) (fun q hq => ⟨_, rfl, ok_of (by simp [wipeD, lD, f_eqNil]), fun _ => ok_of (by simp [wipeD])⟩) ?_
  obtain ⟨idx, hidx⟩ : ∃ idx, idx = (ls.zipIdx.filter fun q => !q.1.2.2.1.isEmpty).map (·.2) := ⟨_, rfl⟩
  have hi : ∀ i ∈ idx, i < ls.length := fun i hi => by
    rw [hidx] at hi
    obtain ⟨q, hq, rfl⟩ := List.mem_map.mp hi
    have := (List.mem_zipIdx (List.mem_filter.mp hq).1).2.1
    omega
  rw [show ((ls.zipIdx.filter fun q => !q.1.2.2.1.isEmpty).map fun q => D.int (q.2 : Nat)) = idx.map (fun i : Nat => D.int i) by rw [hidx]; simp]
  refine hN _ _ ?_
  refine rs_go fun N hN => ?_
  simp [f_eqNil]
  by_cases hz : idx = []
  · rw [if_pos hz]; exact k _
  rw [if_neg hz]
  refine hN _ _ ?_
  obtain ⟨B, b1, b2, h0⟩ : ∃ B : Int, 0 ≤ B ∧ B < ls.length ∧ atI (idx.map fun i : Nat => D.int i) 0 = some (.int B) := by
    obtain ⟨d, h1, h2⟩ := atI_nat (xs := idx.map fun i : Nat => D.int i) (i := 0) (by omega) (by have := List.length_pos_iff.mpr hz; simp; omega)
    obtain ⟨p, hp, rfl⟩ := List.mem_map.mp h2
    have := hi p hp
    exact ⟨p, by omega, by omega, h1⟩
  obtain ⟨E, e1, e2, h1⟩ : ∃ E : Int, 0 ≤ E ∧ E < ls.length ∧ atI (idx.map fun i : Nat => D.int i) (-1) = some (.int E) := by
    have := hi _ (List.getLast_mem hz)
    refine ⟨(idx.getLast hz : Nat), by omega, by omega, ?_⟩
    have q := List.dropLast_concat_getLast hz
    generalize idx.getLast hz = y at q
    rw [← q, List.map_append]
    exact atI_m1
  refine rs_go fun N hN => ?_
  simp [h0, h1]
  refine hN _ _ ?_
  refine rs_go fun N hN => ?_
  rw [rs_for]
  simp
  have hl := h.len
  have at_ : ∀ j : Int, 0 ≤ j → j < ls.length → ∃ a ∈ ls, ∀ Q X, @Rp _ (fIx (.own m) (.int j) μ) Q X = Q (lD a) μ := fun j j0 j1 => by
    obtain ⟨d, q1, q2⟩ := atI_nat (xs := ls.map lD) (i := j) j0 (by rw [List.length_map]; exact j1)
    obtain ⟨a, ha, rfl⟩ := List.mem_map.mp q2
    exact ⟨a, ha, fun Q X => by rw [f_ixL (seqL_own h.at_), q1]⟩
  refine ⟨⟨by omega, by omega, by omega, by omega⟩, ?_⟩
  unfold rangeD
  refine for_map (fun i : Nat => D.int (B + (i : Nat))) (fun pre ρ μ' => (∃ y2 y3 y6 y7 y8 y9 y10 y11, ρ = [some (fitD full f l bd tn m), some (D.lst (List.map (fun i : Nat => D.int i) idx)), y2, y3, some (.int B), some (.int E), y6, y7, y8, y9, y10, y11]) ∧ μ' = μ) ⟨⟨_, _, _, _, _, _, _, _, rfl⟩, rfl⟩ (fun pre ρ μ' q => by rw [q.2]; exact watch_rfl) ?_ ?_
  · rintro pre i post ρ μ' e ⟨⟨y2, y3, y6, y7, y8, y9, y10, y11, rfl⟩, rfl⟩
    have hr : i ∈ List.range (E + 1 - B).toNat := by rw [e]; simp
    rw [List.mem_range] at hr
    obtain ⟨a, ha, fa⟩ := at_ (B + (i : Nat)) (by omega) (by omega)
    generalize B + (i : Int) = j at fa ⊢
    simp [obj_fit, look_losses, fa]
    simp [lD]
    split
    · exact k _
    · by_cases q : B < j <;> simp [q]
      exact fun _ _ => k _
  · rintro ρ μ' ⟨⟨y2, y3, y6, y7, y8, y9, y10, y11, rfl⟩, rfl⟩
    refine hN _ _ ?_
    obtain ⟨a, ha, fa⟩ := at_ B b1 b2
    obtain ⟨c, hc, fc⟩ := at_ E e1 e2
    refine rs_go fun N hN => ?_
    have la : ∀ a, ∀ μ Q X, @Rp _ (fIx (lD a) (.int 1) μ) Q X = Q (.int (a.2.1 : Nat)) μ := fun a μ Q X => by simp [lD]
    have l0 : ∀ a, ∀ μ Q X, @Rp _ (fIx (lD a) (.int 0) μ) Q X = Q (.int (a.1 : Nat)) μ := fun a μ Q X => by simp [lD]
    have l2 : ∀ a, ∀ μ Q X, @Rp _ (fIx (lD a) (.int 2) μ) Q X = Q (.lst (a.2.2.1.map .str)) μ := fun a μ Q X => by simp [lD]
    simp [obj_fit, look_losses, fa, fc, la, l0, l2]
    refine hN _ _ ?_
    refine rs_go fun N hN => ?_
    simp [obj_fit, look_losses, fa, fc, la, l0, l2]
    refine hN _ _ ?_
    refine rs_go fun N hN => ?_
    simp [obj_fit, look_losses, fa, fc, la, l0, l2]
    by_cases q : B < E
    · rw [if_pos q]
      exact allows_rp h k
    · rw [if_neg q]
      refine hN _ _ ?_
      simp [obj_fit, look_losses, fa, fc, la, l0, l2]
      refine allows_rp h fun b => ?_
      cases b with
      | true => exact k _
      | false =>
        simp [obj_fit, look_losses, fa, fc, la, l0, l2]
        exact allows_rp h k
def toS (a : Loss) : LS := (a.1, a.2.1, a.2.2.1.getD [], a.2.2.2)
theorem possible_rp {lo : List Loss} (ha : μ[m]? = some (some (.lst (lo.map lossD)))) (hl : lo.length ≤ 10) (hb : ∀ a ∈ lo, (∀ w, a.2.2.1 = some w → w.length ≤ 1000) ∧ a.2.2.2.length ≤ 1000) (k : ∀ b, Q (.bl b) μ) : @Rp _ (m_Fit_is_possible [fitD full f l bd tn m] μ) Q X := by
  have z6 : 100000 ≤ sizeLine := by decide
  refine rp_fnI rfl ?_
  simp only [b_Fit_is_possible, startD]
  refine rs_go fun N hN => ?_
  simp [obj_fit, look_losses, look_torn]
  cases tn with
  | true => simp; exact k _
  | false =>
    simp
    rw [any_own ha]
    dsimp only
    refine rp_lcm' (fun a : Loss => .bl a.2.2.1.isNone) (by omega) (fun a ha => ⟨_, rfl, ok_of (by
      simp [wipeD, lossD]
      cases a.2.2.1 <;> rfl)⟩) ?_
    rw [f_anyM]
    cases hn : lo.any fun a => a.2.2.1.isNone with
    | true => simp; exact k _
    | false =>
      simp
      refine hN _ _ ?_
      have e1 : lo.map lossD = (lo.map toS).map lD := by
        rw [List.map_map]
        refine List.map_congr_left fun a h => ?_
        rw [List.any_eq_false] at hn
        have := hn a h
        obtain ⟨x, y, o, z⟩ := a
        cases o with
        | none => exact absurd rfl this
        | some w => rfl
      have ok : LsOk μ m (lo.map toS) := ⟨by rw [← e1]; exact ha, by simpa using hl, fun b hb' => by
        obtain ⟨a, h, rfl⟩ := List.mem_map.mp hb'
        obtain ⟨x, y, o, z⟩ := a
        have := hb _ h
        cases o with
        | none => exact ⟨Nat.zero_le _, this.2⟩
        | some w => exact ⟨this.1 w rfl, this.2⟩⟩
      simp [obj_fit]
      refine ordered_rp ok fun b => ?_
      cases b with
      | false => exact k _
      | true =>
        simp [obj_fit]
        exact steady_rp ok k
end
end K29
namespace K29
open PySem PySem.Spec L2 Mi Pl
inductive Sq : D → List D → Prop
  | lst (ds : List D) : Sq (.lst ds) ds
  | tup (ds : List D) : Sq (.tup ds) ds
section
variable {Q : D → Store → Prop} {X : Exc → Store → Prop} {P : Post} {ρ : Mi.Env} {μ μ0 : Store} {n k c s m f l : Nat} {x d : D} {ds : List D} {rs ss : List SRow} {r : SRow} {ns : List Str} {full : List CR} {bd tn : Bool} {ls : List LS}
theorem Sq.any (h : Sq x ds) : anyItems μ x = some (ds, []) := by cases h <;> rfl
theorem Sq.len (h : Sq x ds) : @Rp _ (fLen [x] μ) Q X = Q (.int ds.length) μ := by
  cases h with
  | lst => exact f_lenL rfl
  | tup => simp
theorem Sq.isl (h : Sq x ds) : fIsL [.ty "list", .ty "tuple"] x μ = .ok (.bl true) μ := by cases h <;> rfl
theorem lost_len {a b a' b' w : List Str} {o o' : Bool} (h : lostF (a, b, o) (a', b', o') = some w) : w.length ≤ b.length + b'.length := by
  unfold lostF at h
  dsimp only at h
  have key : ∀ b b' : List Str, (lostOf b b').length ≤ b.length := fun b b' => List.length_filter_le _ _
  repeat' split at h
  all_goals first
    | (have e := Option.some.inj h
       have := key b b'
       have := key b' b
       rw [← e]
       omega)
    | cases h
theorem obj_st : objOf μ (stD rs) = some ("Staircase", [Str.ofString "own_rows"], [D.tup (rs.map rowD)]) := rfl
theorem rows_fit_rp {cs : List Nat} (hx : Sq x (cs.map fun c : Nat => .int c)) (hcs : cs.length ≤ 6) (h : rs ≠ []) (hv : ∀ r ∈ rs, rowV r = true) (hg : ∀ r ∈ rs, ∀ a b o, r = some (a, b, o) → a.length ≤ 100 ∧ b.length ≤ 100) (k : ∀ b t, Q (.bl b) (μ ++ t)) : @Rp _ (m_rows_fit [stD rs, x] μ) Q X := by
  have z6 : 1000 ≤ sizeLine := by decide
  have row_q : ∀ (c : Nat) μ Q X, @Rp _ (m_Staircase_row [stD rs, .int c] μ) Q X = Q (rowD (rowAt rs c)) μ := fun c μ Q X => by rw [e_row, row_m h]; rfl
  refine rp_fnI rfl ?_
  simp only [b_rows_fit, startD]
  refine rs_go fun N hN => ?_
  simp [hx.any]
  refine rp_lcm' (fun c : Nat => pD (c, rowAt rs c)) (by omega) (fun c hc => ⟨_, rfl, ok_of (by
    simp [wipeD]
    rw [obj_st]
    dsimp only
    refine ⟨⟨rfl, by decide⟩, ?_⟩
    rw [row_q]
    exact ⟨rfl, rfl⟩)⟩) ?_
  refine hN _ _ ?_
  obtain ⟨ps, hps⟩ : ∃ ps, ps = cs.map fun c : Nat => (c, rowAt rs c) := ⟨_, rfl⟩
  rw [show (cs.map fun c : Nat => pD (c, rowAt rs c)) = ps.map pD by rw [hps]; simp]
  have pl : ps.length ≤ 6 := by rw [hps, List.length_map]; exact hcs
  have pm : ∀ p ∈ ps, p.2 ∈ rs := fun p hp => by
    rw [hps] at hp
    obtain ⟨c, _, rfl⟩ := List.mem_map.mp hp
    exact rowAt_mem h
  clear hps
  refine rs_go fun N hN => ?_
  simp
  refine rp_lcm' (fun p : Nat × SRow => .bl (decide (p.2 = none))) (by omega) (fun c hc => ⟨_, rfl, ok_of (by simp [wipeD, isNon_row])⟩) ?_
  rw [f_allM]
  cases hn : ps.all fun p => decide (p.2 = none) with
  | true =>
    simp
    simpa using k true []
  | false =>
    simp
    refine hN _ _ ?_
    simp
    have hne : fullF ps ≠ [] := fun z => by
      rw [List.all_eq_false] at hn
      obtain ⟨p, hp, q⟩ := hn
      obtain ⟨c, o⟩ := p
      cases o with
      | none => exact q rfl
      | some r =>
        have : (c, r) ∈ fullF ps := by
          unfold fullF
          rw [List.mem_filterMap]
          exact ⟨_, hp, rfl⟩
        rw [z] at this
        cases this
    refine fit_rp (by omega) (fun p hp => hv _ (pm p hp)) (fun p hp a b o e => by
      have := hg _ (pm p hp) a b o e
      omega) hne fun f l bd tn => ?_
    rw [obj_fit]
    dsimp only
    refine ⟨⟨rfl, by decide⟩, ?_⟩
    have lf : (fullF ps).length ≤ 6 := Nat.le_trans (full_len ps) pl
    have ll : (lossesF (fullF ps)).length ≤ 6 := by
      unfold lossesF
      rw [List.length_map, List.length_zip]
      omega
    refine possible_rp (lo := lossesF (fullF ps)) (by simp) (by omega) (fun a ha => ?_) fun b => k b _
    obtain ⟨q, hq, rfl⟩ := List.mem_map.mp ha
    have m1 := full_mem (List.of_mem_zip hq).1
    have m2 := full_mem (List.mem_of_mem_drop (List.of_mem_zip hq).2)
    obtain ⟨⟨c1, a1, b1, o1⟩, c2, a2, b2, o2⟩ := q
    have g1 := hg _ (pm _ m1) a1 b1 o1 rfl
    have g2 := hg _ (pm _ m2) a2 b2 o2 rfl
    refine ⟨fun w hw => ?_, by show a1.length ≤ 1000; omega⟩
    have := lost_len hw
    omega
end
end K29
namespace K29
open PySem PySem.Spec L2 Mi Pl
def okI : D → Bool
  | .int i => decide (0 ≤ i) && decide (i ≤ 100)
  | _ => false
inductive Leaf : D → Prop
  | int (i : Int) : Leaf (.int i)
  | bl (b : Bool) : Leaf (.bl b)
  | non : Leaf .non
  | str (z : Str) : Leaf (.str z)
  | tup (ds : List D) : Leaf (.tup ds)
def Up (ds : List D) (k : Nat) : Prop := ∀ i, i < k → ∃ a : Int, ds[i]? = some (.int a) ∧ 0 ≤ a ∧ a ≤ 100 ∧ ∀ j (b : Int), i = j + 1 → ds[j]? = some (.int b) → b < a
def Right (ds : List D) : Prop := ds.length ≤ 6 ∧ Up ds ds.length
section
variable {Q : D → Store → Prop} {X : Exc → Store → Prop} {P : Post} {ρ : Mi.Env} {μ μ0 : Store} {n k c s m f l : Nat} {x d : D} {ds : List D} {rs ss : List SRow} {r : SRow} {ns : List Str}
theorem Up.mono {j : Nat} (h : Up ds k) (l : j ≤ k) : Up ds j := fun i hi => h i (by omega)
theorem Up.step (h : Up ds k) {a : Int} (ha : ds[k]? = some (.int a)) (h0 : 0 ≤ a) (h1 : a ≤ 100) (h2 : ∀ j (b : Int), k = j + 1 → ds[j]? = some (.int b) → b < a) : Up ds (k + 1) := fun i hi => by
  by_cases e : i = k
  · subst e; exact ⟨a, ha, h0, h1, h2⟩
  · exact h i (by omega)
theorem Sq.ix (h : Sq x ds) {i : Nat} (hd : ds[i]? = some d) : @Rp _ (fIx x (.int (i : Nat)) μ) Q X = Q d μ := by
  have : atI ds (i : Nat) = some d := by
    rw [atI_natN]; exact hd
  cases h with
  | lst => rw [f_ixL rfl, this]
  | tup => simp [this]
open Classical in
theorem is_right_m (hx : Sq x ds) (hf : ∀ d ∈ ds, Leaf d) (hl : ds.length ≤ 1000) : m_Lis_right [x] μ = .ok (.bl (decide (Right ds))) μ := ok_of (by
  refine rp_fnI rfl ?_
  simp only [b_Lis_right, startD]
  refine rs_go fun N hN => ?_
  simp [hx.isl, hx.len]
  by_cases h6 : 6 < (ds.length : Int)
  · rw [if_pos h6]
    exact fun z => by have := z.1; omega
  rw [if_neg h6]
  refine hN _ _ ?_
  refine rs_go fun N hN => ?_
  rw [rs_for]
  simp [hx.len]
  refine And.intro (by omega) ?_
  rw [rangeD_eq]
  refine for_map (fun i : Nat => D.int (i : Nat)) (fun pre ρ μ' => (∃ y, ρ = [some x, y]) ∧ μ' = μ ∧ Up ds pre.length) ⟨⟨_, rfl⟩, rfl, fun i hi => by cases hi⟩ (fun pre ρ μ' q => by rw [q.2.1]; exact watch_rfl) ?_ ?_
  · rintro pre i post ρ μ' e ⟨⟨y, rfl⟩, rfl, up⟩
    have lp : i = pre.length ∧ pre.length < ds.length := by
      have h1 := congrArg List.length e
      have h2 : (List.range ds.length)[pre.length]? = some i := by rw [e]; simp
      simp at h1
      rw [List.getElem?_range (by omega)] at h2
      exact ⟨(Option.some.inj h2).symm, by omega⟩
    obtain ⟨d, hd⟩ : ∃ d, ds[i]? = some d := ⟨ds[i], List.getElem?_eq_getElem (by omega)⟩
    have ld : Leaf d := hf d (List.mem_of_getElem? hd)
    refine rs_go fun N2 hN2 => ?_
    have bad : okI d = false → ¬ Right ds := fun q z => by
      obtain ⟨a, h1, h2, h3, _⟩ := z.2 i (by omega)
      rw [hd] at h1
      cases h1
      simp [okI, h2, h3] at q
    have e1 : ∀ {Q : D → Store → Prop} {X} {μ}, @Rp _ (fIx x (.int (i : Nat)) μ) Q X = Q d μ := hx.ix hd
    simp [e1]
    cases ld with
    | int a =>
      have i1 : ∀ μ, fIsS (.ty "int") (.int a) μ = .ok (.bl true) μ := fun _ => rfl
      have i2 : ∀ μ, fIsS (.ty "bool") (.int a) μ = .ok (.bl false) μ := fun _ => rfl
      simp [i1, i2, e1]
      by_cases q0 : 0 ≤ a
      · by_cases q1 : a ≤ 100
        · simp [q0, q1]
          refine hN2 _ _ ?_
          simp
          by_cases i0 : i = 0
          · subst i0
            simp
            exact up.step (k := pre.length) (by rw [← lp.1]; exact hd) q0 q1 fun j b ej => by omega
          · obtain ⟨j, hj⟩ : ∃ j, i = j + 1 := ⟨i - 1, by omega⟩
            obtain ⟨b, hb, b0, b1, _⟩ := up j (by omega)
            have ei : (i : Int) - 1 = (j : Nat) := by omega
            have e2 : ∀ {Q : D → Store → Prop} {X} {μ}, @Rp _ (fIx x (.int ((i : Int) - 1)) μ) Q X = Q (.int b) μ := by
              rw [ei]; exact hx.ix hb
            have ip : 0 < i := by omega
            simp [ip, e1, e2]
            by_cases q : a ≤ b
            · rw [if_pos q]
              intro z
              obtain ⟨a', h1, _, _, h4⟩ := z.2 i (by omega)
              rw [hd] at h1
              cases h1
              have := h4 j b hj hb
              omega
            · rw [if_neg q]
              refine up.step (k := pre.length) (by rw [← lp.1]; exact hd) q0 q1 fun j' b' ej hb' => ?_
              have : j' = j := by omega
              subst this
              rw [hb] at hb'
              cases hb'
              omega
        · simp [q0, q1]
          exact bad (by simp [okI, q1])
      · simp [q0]
        exact bad (by simp [okI, q0])
    | bl b =>
      have i1 : ∀ μ, fIsS (.ty "int") (.bl b) μ = .ok (.bl true) μ := fun _ => rfl
      have i2 : ∀ μ, fIsS (.ty "bool") (.bl b) μ = .ok (.bl true) μ := fun _ => rfl
      simp [i1, i2, e1, bad rfl]
    | non =>
      have i1 : ∀ μ, fIsS (.ty "int") .non μ = .ok (.bl false) μ := fun _ => rfl
      simp [i1, e1, bad rfl]
    | str z =>
      have i1 : ∀ μ, fIsS (.ty "int") (.str z) μ = .ok (.bl false) μ := fun _ => rfl
      simp [i1, e1, bad rfl]
    | tup es =>
      have i1 : ∀ μ, fIsS (.ty "int") (.tup es) μ = .ok (.bl false) μ := fun _ => rfl
      simp [i1, e1, bad rfl]
  · rintro ρ μ' ⟨⟨y, rfl⟩, rfl, up⟩
    refine hN _ _ ?_
    simp
    exact ⟨by omega, by simpa using up⟩)
end
end K29
namespace K29
open PySem PySem.Spec L2 Mi Pl
section
variable {Q : D → Store → Prop} {X : Exc → Store → Prop} {P : Post} {ρ : Mi.Env} {μ μ0 : Store} {n k c s m f l : Nat} {x d : D} {ds : List D} {rs ss : List SRow} {r : SRow} {ns : List Str}
theorem nats_of : ∀ {ds : List D}, ds.all okI = true → ∃ cs : List Nat, ds = cs.map (fun c : Nat => D.int c) ∧ ∀ c ∈ cs, c ≤ 100
  | [], _ => ⟨[], rfl, fun _ h => by cases h⟩
  | d :: ds, h => by
    rw [List.all_cons, Bool.and_eq_true] at h
    obtain ⟨cs, e, hc⟩ := nats_of h.2
    cases d with
    | int i =>
      have q := h.1
      simp [okI] at q
      refine ⟨i.toNat :: cs, ?_, fun c hc' => ?_⟩
      · rw [e, List.map_cons, show ((i.toNat : Nat) : Int) = i by omega]
      · rcases List.mem_cons.mp hc' with rfl | z
        · omega
        · exact hc c z
    | _ => cases h.1
theorem right_iff {cs : List Nat} (hc : ∀ c ∈ cs, c ≤ 100) : Right (cs.map fun c : Nat => D.int c) ↔ cs.length ≤ 6 ∧ ((cs.zip (cs.drop 1)).all fun p => decide (p.1 < p.2)) = true := by
  unfold Right
  rw [List.length_map]
  refine and_congr_right fun _ => ?_
  rw [List.all_eq_true]
  constructor
  · intro up p hp
    obtain ⟨i, hi, e⟩ := List.mem_iff_getElem.mp hp
    rw [List.length_zip, List.length_drop] at hi
    obtain ⟨a, h1, h2, h3, h4⟩ := up (i + 1) (by omega)
    have q1 : cs[i + 1]? = some cs[i + 1] := List.getElem?_eq_getElem (by omega)
    have q0 : cs[i]? = some cs[i] := List.getElem?_eq_getElem (by omega)
    have := h4 i (cs[i] : Nat) rfl (by rw [List.getElem?_map, q0]; rfl)
    rw [List.getElem?_map, q1] at h1
    have h5 : ((cs[i + 1] : Nat) : Int) = a := by simpa using h1
    rw [← e]
    simp only [List.getElem_zip, List.getElem_drop]
    refine decide_eq_true ?_
    have e2 : 1 + i = i + 1 := by omega
    simp only [e2]
    omega
  · intro h i hi
    have q1 : cs[i]? = some cs[i] := List.getElem?_eq_getElem hi
    refine ⟨(cs[i] : Nat), by rw [List.getElem?_map, q1]; rfl, by omega, by have := hc _ (List.getElem_mem hi); omega, fun j b ej hb => ?_⟩
    subst ej
    have q0 : cs[j]? = some cs[j] := List.getElem?_eq_getElem (by omega)
    rw [List.getElem?_map, q0] at hb
    cases hb
    have hm : (cs[j], cs[j + 1]) ∈ cs.zip (cs.drop 1) := by
      refine List.mem_iff_getElem.mpr ⟨j, by rw [List.length_zip, List.length_drop]; omega, ?_⟩
      simp only [List.getElem_zip, List.getElem_drop]
      have e2 : 1 + j = j + 1 := by omega
      simp only [e2]
    have := of_decide_eq_true (h _ hm)
    dsimp only at this
    omega
theorem together_rp (hx : Sq x ds) (hf : ∀ d ∈ ds, Leaf d) (hl : ds.length ≤ 1000) (h : rs ≠ []) (hv : ∀ r ∈ rs, rowV r = true) (hg : ∀ r ∈ rs, ∀ a b o, r = some (a, b, o) → a.length ≤ 100 ∧ b.length ≤ 100) (hy : Right ds → ∀ b t, Q (.bl b) (μ ++ t)) (hn : ¬ Right ds → X ⟨"BadCounts", [], []⟩ μ) : @Rp _ (m_fit_together [stD rs, x] μ) Q X := by
  have z6 : 1000 ≤ sizeLine := by decide
  refine rp_fnI rfl ?_
  simp only [b_fit_together, startD]
  refine rs_go fun N hN => ?_
  simp [hx.isl, hx.len]
  by_cases h6 : 6 < (ds.length : Int)
  · rw [if_pos h6]
    exact hn fun z => by have := z.1; omega
  rw [if_neg h6]
  refine hN _ _ ?_
  refine rs_go fun N hN => ?_
  simp [hx.any]
  refine rp_lcm (fun d => .bl (okI d)) (by omega) (fun d hd => ⟨_, rfl, ok_of (by
    cases hf d hd with
    | int a =>
      have i1 : ∀ μ, fIsS (.ty "int") (.int a) μ = .ok (.bl true) μ := fun _ => rfl
      have i2 : ∀ μ, fIsS (.ty "bool") (.int a) μ = .ok (.bl false) μ := fun _ => rfl
      simp [wipeD, i1, i2]
      by_cases q0 : 0 ≤ a <;> simp [q0, okI]
    | bl b =>
      have i1 : ∀ μ, fIsS (.ty "int") (.bl b) μ = .ok (.bl true) μ := fun _ => rfl
      have i2 : ∀ μ, fIsS (.ty "bool") (.bl b) μ = .ok (.bl true) μ := fun _ => rfl
      simp [wipeD, i1, i2, okI]
    | non =>
      have i1 : ∀ μ, fIsS (.ty "int") .non μ = .ok (.bl false) μ := fun _ => rfl
      simp [wipeD, i1, okI]
    | str z =>
      have i1 : ∀ μ, fIsS (.ty "int") (.str z) μ = .ok (.bl false) μ := fun _ => rfl
      simp [wipeD, i1, okI]
    | tup es =>
      have i1 : ∀ μ, fIsS (.ty "int") (.tup es) μ = .ok (.bl false) μ := fun _ => rfl
      simp [wipeD, i1, okI])⟩) ?_
  rw [f_allM]
  cases ha : ds.all okI with
  | false =>
    simp
    refine hn fun z => ?_
    rw [List.all_eq_false] at ha
    obtain ⟨d, hd, q⟩ := ha
    obtain ⟨i, hi, e⟩ := List.mem_iff_getElem.mp hd
    obtain ⟨a, h1, h2, h3, _⟩ := z.2 i hi
    rw [List.getElem?_eq_getElem hi, e] at h1
    cases h1
    exact q (by simp [okI, h2, h3])
  | true =>
    simp
    refine hN _ _ ?_
    obtain ⟨cs, rfl, hc⟩ := nats_of ha
    rw [List.length_map] at h6
    have l6 : cs.length ≤ 6 := by omega
    refine rs_go fun N hN => ?_
    obtain ⟨y, sl, zz⟩ : ∃ y, (∀ (Q : D → Store → Prop) X μ, @Rp _ (fSl false x (some 1) none μ) Q X = Q y μ) ∧ ∀ μ, zipS μ x y = some ⟨(cs.zip (cs.drop 1)).map fun p => D.tup [.int (p.1 : Nat), .int (p.2 : Nat)], []⟩ := by
      cases hx with
      | lst => exact ⟨.lst ((cs.map fun c : Nat => D.int c).drop 1), fun Q X μ => by rw [f_slLst, cut_lo (by omega)]; rfl, fun μ => by simp only [zipS_lst, zipA]⟩
      | tup => exact ⟨.tup ((cs.map fun c : Nat => D.int c).drop 1), fun Q X μ => by rw [f_slTup, cut_lo (by omega)]; rfl, fun μ => by simp only [zipS_tup, zipA]⟩
    simp [sl, zz]
    refine rp_lcm' (fun p : Nat × Nat => .bl (decide (p.1 < p.2))) (by rw [List.length_zip]; omega) (fun p hp => ⟨_, rfl, ok_of (by simp [wipeD])⟩) ?_
    have er := right_iff hc
    rw [show (cs.zip cs.tail) = cs.zip (cs.drop 1) by rw [List.drop_one]] at *
    rw [f_allM]
    cases hq : (cs.zip (cs.drop 1)).all fun p => decide (p.1 < p.2) with
    | false =>
      simp
      exact hn fun z => by have := (er.mp z).2; rw [hq] at this; cases this
    | true =>
      simp
      refine hN _ _ ?_
      simp
      exact rows_fit_rp hx l6 h hv hg (hy (er.mpr ⟨l6, hq⟩))
end
end K29
namespace K29
open PySem PySem.Spec L2 Mi Pl
section
variable {Q : D → Store → Prop} {X : Exc → Store → Prop} {P : Post} {ρ : Mi.Env} {μ μ0 : Store} {n k c s m f l : Nat} {x d : D} {ds : List D} {rs ss : List SRow} {r : SRow} {ns : List Str}
theorem told_end {y : D} {A : Prop} (hx : ∀ (Q : D → Store → Prop) (X : Exc → Store → Prop), (A → ∀ b t, Q (.bl b) (μ ++ t)) → (¬ A → X ⟨"BadCounts", [], []⟩ μ) → @Rp _ (m_fit_together [y, x] μ) Q X) (hy : A → ∀ b t, Q (.bl b) (μ ++ t)) (hn : ¬ A → Q (.str "counts") μ) : @Rp _ (m_Ltold [y, x] μ) Q X := by
  refine rp_fnI rfl ?_
  simp only [b_Ltold, startD]
  refine rs_go fun N hN => ?_
  simp
  refine hN _ _ ?_
  refine rs_go fun N hN => ?_
  simp
  have isa : isaC "BadCounts" "CallError" = true := by decide
  refine hx _ _ (fun h b t => ?_) fun h => ?_
  · refine hN _ _ ?_
    simp
    exact hy h b t
  · rw [if_pos isa]
    refine hN _ _ ?_
    have i1 : ∀ μ, fIsS (.cls "BadCounts") (.exc "BadCounts" [] []) μ = .ok (.bl true) μ := fun _ => rfl
    have i2 : ∀ μ, fIsL [.cls "BadCall", .cls "BadRow", .cls "BadSignature"] (.exc "BadCounts" [] []) μ = .ok (.bl false) μ := fun _ => rfl
    simp [i1, i2]
    exact hn h
theorem told_rp (hx : Sq x ds) (hf : ∀ d ∈ ds, Leaf d) (hl : ds.length ≤ 1000) (h : rs ≠ []) (hv : ∀ r ∈ rs, rowV r = true) (hg : ∀ r ∈ rs, ∀ a b o, r = some (a, b, o) → a.length ≤ 100 ∧ b.length ≤ 100) (hy : Right ds → ∀ b t, Q (.bl b) (μ ++ t)) (hn : ¬ Right ds → Q (.str "counts") μ) : @Rp _ (m_Ltold [stD rs, x] μ) Q X :=
  told_end (fun Q X h1 h2 => together_rp hx hf hl h hv hg h1 h2) hy hn
theorem told_no (hx : ∀ μ, fIsL [.ty "list", .ty "tuple"] x μ = .ok (.bl false) μ) (hn : Q (.str "counts") μ) : @Rp _ (m_Ltold [d, x] μ) Q X :=
  told_end (A := False) (fun Q X h1 h2 => by
    refine rp_fnI rfl ?_
    simp only [b_fit_together, startD]
    refine rs_go fun N hN => ?_
    simp [hx]
    exact h2 id) False.elim fun _ => hn
def cands : List D := [.int 0, .int 1, .int 2, .int 3, .int 4, .int 5, .int 50, .int 99, .int 100, .int (-1), .int 101, .bl true, .bl false, .non, .str "1", .tup [.int 1], .int (10 ^ 14)]
def candP : List PyData := [.int 0, .int 1, .int 2, .int 3, .int 4, .int 5, .int 50, .int 99, .int 100, .int (-1), .int 101, .bool true, .bool false, .none, .str "1", .tuple [.int 1], .int (10 ^ 14)]
structure Sho (p : PyData) : Prop where
  s : p.showable = true
  l : PyData.leavesShort 60 p = true
  w : p.weight ≤ 60
  n : p.depth ≤ 1
theorem sho_all : ∀ p ∈ candP, Sho p := by
  have h : candP.all (fun p => p.showable && (PyData.leavesShort 60 p && (decide (p.weight ≤ 60) && decide (p.depth ≤ 1)))) = true := by decide +kernel
  intro p hp
  have := List.all_eq_true.mp h p hp
  simp only [Bool.and_eq_true, decide_eq_true_eq] at this
  exact ⟨this.1, this.2.1, this.2.2.1, this.2.2.2⟩
theorem cand_pd : ∀ d ∈ cands, ∃ p ∈ candP, ∀ f, d.pdW f = some p := by
  intro d hd
  unfold cands at hd
  simp only [List.mem_cons, List.not_mem_nil, or_false] at hd
  rcases hd with rfl | rfl | rfl | rfl | rfl | rfl | rfl | rfl | rfl | rfl | rfl | rfl | rfl | rfl | rfl | rfl | rfl
  all_goals exact ⟨_, by unfold candP; simp only [List.mem_cons, true_or, or_true], fun f => rfl⟩
theorem cand_leaf : ∀ d ∈ cands, Leaf d := by
  intro d hd
  unfold cands at hd
  simp only [List.mem_cons, List.not_mem_nil, or_false] at hd
  rcases hd with rfl | rfl | rfl | rfl | rfl | rfl | rfl | rfl | rfl | rfl | rfl | rfl | rfl | rfl | rfl | rfl | rfl
  all_goals constructor
theorem cands_pd : ∀ {ds : List D}, (∀ d ∈ ds, d ∈ cands) → ∃ ps, (∀ f, pdsW f ds = some ps) ∧ PyData.showableAll ps = true ∧ PyData.leavesShortAll 60 ps = true ∧ PyData.weightAll ps ≤ 61 * ds.length ∧ PyData.depthAll ps ≤ 1
  | [], _ => ⟨[], fun _ => rfl, by simp [PyData.showableAll], by simp [PyData.leavesShortAll], by simp [PyData.weightAll], by simp [PyData.depthAll]⟩
  | d :: ds, h => by
    obtain ⟨p, hp, e1⟩ := cand_pd d (h d List.mem_cons_self)
    obtain ⟨ps, e2, a, b, c, e⟩ := cands_pd (ds := ds) fun x hx => h x (List.mem_cons_of_mem _ hx)
    have q := sho_all p hp
    refine ⟨p :: ps, fun f => by unfold pdsW; rw [e1 f, e2 f], by simp only [PyData.showableAll, q.s, a, Bool.and_self], by simp only [PyData.leavesShortAll, q.l, b, Bool.and_self], ?_, ?_⟩
    · have := q.w
      simp only [PyData.weightAll, List.length_cons]; omega
    · have := q.n
      simp only [PyData.depthAll]; omega
theorem show_ok (hx : Sq x ds) (h : ∀ d ∈ ds, d ∈ cands) (hl : ds.length ≤ 1000) : ∃ z, ∀ μ, fRepr [x] μ = .ok (.str z) μ := by
  obtain ⟨ps, e2, a, b, c, e⟩ := cands_pd h
  obtain ⟨p, ep, s1, s2, s3, s4⟩ : ∃ p : PyData, (∀ f, x.pdW f = some p) ∧ p.showable = true ∧ PyData.leavesShort 60 p = true ∧ p.weight ≤ 61 * ds.length ∧ p.depth ≤ 2 := by
    cases hx with
    | lst => exact ⟨.list ps, fun f => by unfold D.pdW; rw [e2 f]; rfl, by simpa [PyData.showable] using a, by simpa [PyData.leavesShort] using b, by simpa [PyData.weight] using c, by simp only [PyData.depth]; omega⟩
    | tup => exact ⟨.tuple ps, fun f => by unfold D.pdW; rw [e2 f]; rfl, by simpa [PyData.showable] using a, by simpa [PyData.leavesShort] using b, by simpa [PyData.weight] using c, by simp only [PyData.depth]; omega⟩
  refine ⟨p.shown, fun μ => ?_⟩
  have fits : p.shown.length ≤ sizeLine := by
    have := PyData.shown_le 60 (by decide) p s2
    have e : sizeLine = 16777216 := by decide
    omega
  unfold fRepr
  dsimp only
  rw [show x.view μ = some p from ep _]
  dsimp only
  rw [if_pos ⟨s1, fits, by omega⟩]
end
end K29
namespace K29
open PySem PySem.Spec L2 Mi Pl
section
variable {Q : D → Store → Prop} {X : Exc → Store → Prop} {P : Post} {ρ : Mi.Env} {μ μ0 : Store} {n k c s m f l : Nat} {x d : D} {ds : List D} {rs ss : List SRow} {r : SRow} {ns : List Str}
theorem together_nil (hx : Sq x []) (k : Q (.bl true) μ) : @Rp _ (m_fit_together [stD rs, x] μ) Q X := by
  have z0 : (0 : Nat) ≤ sizeLine := Nat.zero_le _
  have al : ∀ {Q : D → Store → Prop} {X} {μ}, @Rp _ (fAll false [.lst []] μ) Q X = Q (.bl true) μ := rfl
  have rows : @Rp _ (m_rows_fit [stD rs, x] μ) Q X := by
    refine rp_fnI rfl ?_
    simp only [b_rows_fit, startD]
    refine rs_go fun N hN => ?_
    simp [hx.any]
    refine rp_lcm (ds := []) (fun d => d) (Nat.zero_le _) (fun d hd => by cases hd) ?_
    simp
    refine hN _ _ ?_
    refine rs_go fun N hN => ?_
    simp
    refine rp_lcm (ds := []) (fun d => d) (Nat.zero_le _) (fun d hd => by cases hd) ?_
    simp [al]
    exact k
  have e0 : (zipS μ x x) = some ⟨[], []⟩ := by cases hx <;> rfl
  have sl : ∀ (Q : D → Store → Prop) X μ, @Rp _ (fSl false x (some 1) none μ) Q X = Q x μ := fun Q X μ => by
    cases hx <;> rfl
  refine rp_fnI rfl ?_
  simp only [b_fit_together, startD]
  refine rs_go fun N hN => ?_
  simp [hx.isl, hx.len]
  refine hN _ _ ?_
  refine rs_go fun N hN => ?_
  simp [hx.any]
  refine rp_lcm (ds := []) (fun d => d) (Nat.zero_le _) (fun d hd => by cases hd) ?_
  simp [al]
  refine hN _ _ ?_
  refine rs_go fun N hN => ?_
  simp [sl, e0]
  refine rp_lcm (ds := []) (fun d => d) (Nat.zero_le _) (fun d hd => by cases hd) ?_
  simp [al]
  refine hN _ _ ?_
  simp
  exact rows
theorem in_told {y : D} (hy : (∃ b, y = .bl b) ∨ y = .str "counts") : @Rp _ (fIn true y (.tup [.bl true, .bl false, .str "counts"]) μ) Q X = Q (.bl false) μ := by
  rcases hy with ⟨b, rfl⟩ | rfl
  · rw [f_inT (fun _ _ => trivial) rfl rfl]
    have : inF (.bl b) [.bl true, .bl false, .str "counts"] = true := by cases b <;> decide
    rw [this]; rfl
  · rw [f_inT (fun _ _ => trivial) rfl rfl]
    have : inF (.str "counts") [.bl true, .bl false, .str "counts"] = true := by decide
    rw [this]; rfl
theorem St_app {t : Store} (h : St μ s c) : St (μ ++ t) s c := by
  obtain ⟨a, b, z, e, q1, q2⟩ := h
  exact ⟨a, b, z, by rw [List.getElem?_append_left ((List.getElem?_eq_some_iff.mp e).1)]; exact e, q1, q2⟩
theorem ddI_len : ∀ l : List Int, (ddI l).length ≤ l.length
  | [] => Nat.le_refl _
  | a :: l => by
    have := ddI_len l
    unfold ddI
    split
    · simp only [List.length_cons]; omega
    · simp only [List.length_cons]; omega
theorem f_eqSelf {z : Str} : @Rp _ (fEq true (.str z) (.str z) μ) Q X = Q (.bl false) μ := by
  simp
theorem law_true : ∀ ns : List Int, ns.length ≤ 63 → ∃ μ, m_law [.lst (ns.map Mi.D.int)] [] = .ok (.bl true) μ := by
  refine law_frame (k := 6) (N := 15) rfl (by decide) (by decide) ?_
  intro ρ μ t x ht hρ h1 h2
  have z6 : 10000 ≤ sizeLine := by decide
  obtain ⟨a0, o3, o4, o5, o6, o7, o8, o9, o10, o11, o12, o13, o14, rfl⟩ : ∃ a0 o3 o4 o5 o6 o7 o8 o9 o10 o11 o12 o13 o14, ρ = [a0, some (.int t), some (.int x), o3, o4, o5, o6, o7, o8, o9, o10, o11, o12, o13, o14] := by
    match ρ, hρ with
    | [a0, a1, a2, o3, o4, o5, o6, o7, o8, o9, o10, o11, o12, o13, o14], _ =>
      simp at h1 h2
      exact ⟨a0, o3, o4, o5, o6, o7, o8, o9, o10, o11, o12, o13, o14, by rw [h1, h2]⟩
  refine rs_go fun N1 hN1 => ?_
  simp [e_begin]
  refine begin_rp (by omega) (by omega) fun x1 y1 => ?_
  have st1 : St (μ ++ [some (.lst [.int x1, .int y1, .int 0])]) μ.length 0 := ⟨x1, y1, 0, by simp, by omega, by omega⟩
  generalize (μ ++ [some (Cell.lst [D.int x1, .int y1, .int 0])]) = μ1 at st1 ⊢
  generalize μ.length = s at st1 ⊢
  refine hN1 _ _ ?_
  refine rs_go fun N2 hN2 => ?_
  simp [e_pool]
  refine Sg.pool_rp (m := 3) st1 (by omega) (by omega) fun ws μ2 hl hnd hpw st2 fr2 => ?_
  have hN : Sg.Names ws := .of (by omega) hnd hpw
  refine hN2 _ _ ?_
  refine rs_go fun N3 hN3 => ?_
  simp [e_rr]
  refine Sg.rows_rp (m := 5) hN st2 (by omega) (by omega) (by omega) fun rs0 μ3 h0 hl0 hv0 st3 fr3 => ?_
  have hg0 := rowG_all hv0 (j := 3) (by omega)
  refine stair_ok e_init (by omega) .lst (fun r hr => (hv0 r hr).1) (fun r hr a b o e => by have := hg0 r hr a b o e; omega) h0 fun t1 => ?_
  have st4 : St (μ3 ++ t1) s (0 + 13 + 200) := by
    exact St_app st3
  generalize μ3 ++ t1 = μ4 at st4 ⊢
  obtain ⟨rs, hrs⟩ : ∃ rs, rs = shortR rs0 := ⟨_, rfl⟩
  have hne : rs ≠ [] := hrs ▸ shortR_ne h0
  have hv : ∀ r ∈ rs, rowV r = true := fun r hr => (hv0 r (shortR_mem (hrs ▸ hr))).1
  have hg : ∀ r ∈ rs, ∀ a b o, r = some (a, b, o) → a.length ≤ 100 ∧ b.length ≤ 100 := fun r hr a b o e => by
    have := hg0 r (shortR_mem (hrs ▸ hr)) a b o e
    omega
  rw [← hrs]
  refine hN3 _ _ ?_
  refine rs_go fun N4 hN4 => ?_
  simp
  refine together_nil (.tup []) ?_
  simp
  refine together_nil (.lst []) ?_
  simp
  refine hN4 _ _ ?_
  refine rs_go fun N5 hN5 => ?_
  rw [rs_for]
  simp only [ri_rng1, rp_cons, rp_c, rp_nil]
  refine ⟨⟨by decide, by decide⟩, ?_⟩
  rw [show (8 : Int).toNat = 8 from rfl, rangeD_eq]
  refine for_map (fun i : Nat => D.int (i : Nat)) (fun pre ρ μ' => (∃ y6 y7 y8 y9 y10 y11 y12 y13 y14, ρ = [a0, some (.int t), some (.int x), some (.own s), some (.lst (ws.map .str)), some (stD rs), y6, y7, y8, y9, y10, y11, y12, y13, y14]) ∧ St μ' s (1000 + 100 * pre.length)) ⟨⟨_, _, _, _, _, _, _, _, _, rfl⟩, st4.le (by omega)⟩ (fun _ _ _ _ _ z => by cases z) ?_ ?_
  · rintro pre i post ρ μ5 e ⟨⟨y6, y7, y8, y9, y10, y11, y12, y13, y14, rfl⟩, st5⟩
    have lp : pre.length < 8 := by
      have := congrArg List.length e
      rw [List.length_range, List.length_append, List.length_cons] at this
      omega
    simp only [rg_name]
    refine rs_go fun M1 hM1 => ?_
    simp [e_draw, e_pick]
    refine draw_rp st5 (by omega) (by omega) (by omega) fun q μ6 q0 q1 st6 fr6 => ?_
    simp
    refine And.intro (by omega) ?_
    refine lc_made (f := D.int) (I := fun v => D.int v ∈ cands) (m := q.toNat) (w := 1) st6 (by omega) (fun i μ' c' hi st fr hc => ⟨_, rfl, ?_⟩) fun l μ7 hl hI st7 fr7 => ?_
    · simp [wipeD]
      refine pick_rp st (by omega) (fun _ _ => rfl) (by simp) (by simp) fun d μ'' hd st fr => ?_
      simp only [List.mem_cons, List.not_mem_nil, or_false] at hd
      rcases hd with rfl | rfl | rfl | rfl | rfl | rfl | rfl | rfl | rfl
      all_goals exact ⟨_, rfl, by unfold cands; simp, st, fr⟩
    have st7 := st7.le (d := 1000 + 100 * pre.length + 8) (by omega)
    refine hM1 _ _ ?_
    refine rs_go fun M2 hM2 => ?_
    simp
    refine rp_sortSetI l (by omega) ?_
    simp
    refine hM2 _ _ ?_
    obtain ⟨ds, hds⟩ : ∃ ds, ds = (sortI (ddI l)).map D.int := ⟨_, rfl⟩
    have dl : ds.length ≤ 7 := by
      have h1 := ddI_len l
      have h2 := (sortI_perm (ddI l)).length_eq
      rw [hds, List.length_map]
      omega
    have dc : ∀ d ∈ ds, d ∈ cands := fun d hd => by
      rw [hds] at hd
      obtain ⟨v, hv, rfl⟩ := List.mem_map.mp hd
      exact hI v (ddI_mem.mp ((sortI_perm (ddI l)).mem_iff.mp hv))
    rw [← hds]
    clear hds
    refine rs_go fun M3 hM3 => ?_
    rw [rs_for]
    simp [e_draw]
    refine draw_rp st7 (by omega) (by omega) (by omega) fun q2 μ8 p0 p1 st8 fr8 => ?_
    simp
    refine And.intro (by omega) ?_
    rw [rangeD_eq]
    refine for_map (fun i : Nat => D.int (i : Nat)) (fun pre2 ρ μ' => (∃ es y8 y9 y10 y11 y12 y13 y14, ρ = [a0, some (.int t), some (.int x), some (.own s), some (.lst (ws.map .str)), some (stD rs), some (.int (i : Nat)), some (.lst es), y8, y9, y10, y11, y12, y13, y14] ∧ es.length ≤ 7 + pre2.length ∧ ∀ d ∈ es, d ∈ cands) ∧ St μ' s (1000 + 100 * pre.length + 9 + 10 * pre2.length)) ⟨⟨_, _, _, _, _, _, _, _, rfl, dl, dc⟩, st8⟩ (fun _ _ _ _ _ z => by cases z) ?_ ?_
    · rintro pre2 i2 post2 ρ μ9 e2 ⟨⟨es, y8, y9, y10, y11, y12, y13, y14, rfl, el, ec⟩, st9⟩
      have lp2 : pre2.length < 3 := by
        have := congrArg List.length e2
        rw [List.length_range, List.length_append, List.length_cons] at this
        omega
      simp only [rg_name]
      refine rs_go fun M4 hM4 => ?_
      simp [e_draw]
      refine draw_rp st9 (by omega) (by omega) (by omega) fun at_ μ10 a0' a1 st10 fr10 => ?_
      refine hM4 _ _ ?_
      refine rs_go fun M5 hM5 => ?_
      simp [e_pick]
      refine ⟨by unfold Cs.CPowW; decide +kernel, ?_⟩
      refine pick_rp st10 (by omega) (fun _ _ => rfl) (by simp) (by simp) fun d μ11 hd st11 fr11 => ?_
      have hdc : d ∈ cands := by
        simp only [List.mem_cons, List.not_mem_nil, or_false] at hd
        rcases hd with rfl | rfl | rfl | rfl | rfl | rfl | rfl | rfl | rfl | rfl
        all_goals (unfold cands; simp)
      clear hd
      refine hM5 _ _ ?_
      simp [e_draw]
      refine And.intro (by rw [cut_hi a0', List.length_take]; omega) ?_
      refine draw_rp st11 (by omega) (by omega) (by omega) fun r μ12 r0 r1 st12 fr12 => ?_
      simp
      rw [cut_hi a0', cut_lo (by omega)]
      have l1 : (es.take at_.toNat).length ≤ at_.toNat := by rw [List.length_take]; omega
      have l2 : (es.drop (at_ + r).toNat).length ≤ es.length - at_.toNat := by rw [List.length_drop]; omega
      refine ⟨by omega, ⟨by omega, fun y hy => ?_⟩, st12.le (by omega)⟩
      rcases hy with h | rfl | h
      · exact ec y (List.mem_of_mem_take h)
      · exact hdc
      · exact ec y (List.mem_of_mem_drop h)
    · rintro ρ μ9 ⟨⟨es, y8, y9, y10, y11, y12, y13, y14, rfl, el, ec⟩, st9⟩
      have st9 := st9.le (d := 1000 + 100 * pre.length + 50) (by rw [List.length_range]; omega)
      have el : es.length ≤ 10 := by rw [List.length_range] at el; omega
      refine hM3 _ _ ?_
      refine rs_go fun M6 hM6 => ?_
      simp [e_draw]
      refine draw_rp st9 (by omega) (by omega) (by omega) fun r μ13 r0 r1 st13 fr13 => ?_
      have fin : ∀ v, Sq v es → M6 [a0, some (.int t), some (.int x), some (.own s), some (.lst (ws.map .str)), some (stD rs), some (.int (i : Nat)), some (.lst es), y8, y9, y10, y11, some v, y13, y14] μ13 := fun v sq => by
        refine hM6 _ _ ?_
        refine rs_go fun M7 hM7 => ?_
        obtain ⟨z, hz⟩ := show_ok sq ec (by omega)
        have lf : ∀ d ∈ es, Leaf d := fun d hd => cand_leaf d (ec d hd)
        have ir := fun μ => is_right_m (μ := μ) sq lf (by omega)
        simp [hz]
        refine told_rp sq lf (by omega) hne hv hg (fun hR b t => ?_) fun hR => ?_
        · refine hM7 _ _ ?_
          refine rs_go fun M8 hM8 => ?_
          have i1 : ∀ μ, fIsS (.ty "bool") (.bl b) μ = .ok (.bl true) μ := fun _ => rfl
          simp [ir, i1, hR]
          rw [in_told (.inl ⟨_, rfl⟩)]
          simp
          refine hM8 _ _ ?_
          simp [hz, f_eqSelf]
          exact St_app (st13.le (by omega))
        · refine hM7 _ _ ?_
          refine rs_go fun M8 hM8 => ?_
          have i1 : ∀ μ, fIsS (.ty "bool") (.str "counts") μ = .ok (.bl false) μ := fun _ => rfl
          simp [ir, i1, hR]
          rw [in_told (.inr rfl)]
          simp
          refine hM8 _ _ ?_
          simp [hz, f_eqSelf]
          exact st13.le (by omega)
      by_cases hr : r = 0
      · simp [hr]
        exact fin _ (.tup es)
      · simp [hr]
        exact fin _ (.lst es)
  · rintro ρ μ5 ⟨⟨y6, y7, y8, y9, y10, y11, y12, y13, y14, rfl⟩, st5⟩
    have st5 := st5.le (d := 2000) (by simp)
    refine hN5 _ _ ?_
    simp [e_pick, rp_dispE, Mi.keyOf]
    refine pick_rp st5 (by omega) (fun _ _ => rfl) (by simp) (by simp) fun d μ6 hd st6 fr6 => ?_
    have no : ∀ μ, fIsL [.ty "list", .ty "tuple"] d μ = .ok (.bl false) μ := fun μ => by
      simp only [List.mem_cons, List.not_mem_nil, or_false] at hd
      rcases hd with rfl | rfl | rfl | rfl | rfl | rfl | rfl
      all_goals rfl
    refine told_no no ?_
    simp
end
end K29
namespace Mi
open PySem PySem.Spec L2 LamX PyProof.Rows Cs
section
variable {K : PySem.W.Frag} {w : World}
def dfV : Value → Value
  | .ref _ => .ref 0
  | v => v
theorem dfV_non {v : Value} (h : dfV v = .none) : v = .none := by
  cases v with
  | ref a => cases h
  | _ => exact h
def fnAt (K : PySem.W.Frag) (a : Addr) : He.FnV := match K.lookup a with
  | some ⟨_, _, .func fd, _⟩ => some (fd.name, fd.qualname, fd.params, fd.body, fd.scope, fd.globals, fd.closure, dfV fd.defaults, fd.builtins)
  | _ => none
def cdB (K : PySem.W.Frag) (a : Addr) (q : Str) : Bool := match K.lookup a with
  | some ⟨_, _, .func fd, _⟩ => PySem.W.codeIn K fd.code q
  | _ => false
def fnV (nm q : Str) (st : Stmt) : He.FnV := some (nm, q, defArgs st, .stmts (defBody st), defScope st, mainGlobals, [], .none, builtinsNs)
theorem fnAt_ok {a : Addr} {nm q : Str} {st : Stmt} (e : fnAt K a = fnV nm q st) (c2 : cdB K a q = true) :
    ∃ oc od osl kV doc pm an cdv ct, K.lookup a = some ⟨oc, od, .func (PySem.W.fnOf nm q (defArgs st) (defBody st) (defScope st) .none kV doc pm an cdv ct), osl⟩ ∧ PySem.W.codeIn K cdv q = true := by
  unfold fnAt at e
  unfold cdB at c2
  cases h : K.lookup a with
  | none => rw [h] at c2; cases c2
  | some o =>
    obtain ⟨oc, od, dt, osl⟩ := o
    rw [h] at c2 e
    cases dt with
    | func fd =>
      obtain ⟨n1, n2, n3, n4, n5, n6, n7, n8, n9, n10, n11, n12, n13, n14, n15⟩ := fd
      have e2 : (some (n1, n2, n3, n4, n5, n6, n7, dfV n8, n15) : He.FnV) = some (nm, q, defArgs st, .stmts (defBody st), defScope st, mainGlobals, [], .none, builtinsNs) := e
      simp only [Option.some.injEq, Prod.mk.injEq] at e2
      obtain ⟨h1, h2, h3, h4, h5, h6, h7, h8, h9⟩ := e2
      replace h8 := dfV_non h8
      subst h1 h2 h3 h4 h5 h6 h7 h8 h9
      exact ⟨oc, od, osl, n9, n10, n11, n12, n13, n14, rfl, c2⟩
    | _ => cases c2
def hdI (o : Option (Option Value)) (i : Int) : Bool := match o with
  | some (some (.int j _)) => decide (j = i)
  | _ => false
theorem hdI_ok {o : Option (Option Value)} {i : Int} (h : hdI o i = true) : ∃ t, o = some (some (.int i t)) := by
  unfold hdI at h
  split at h
  · rename_i j t
    exact ⟨t, by rw [of_decide_eq_true h]⟩
  · cases h
def hdV (o : Option PySem.W.CFound) (v : Value) : Bool := match o with
  | some (.val u) => decide (u = v)
  | _ => false
theorem hdV_ok {o : Option PySem.W.CFound} {v : Value} (h : hdV o v = true) : o = some (.val v) := by
  unfold hdV at h
  split at h
  · rw [of_decide_eq_true h]
  · cases h
def oexB (K : PySem.W.Frag) (C : Addr) : Bool := match K.lookup C with
  | some ⟨.type t, _, .cls cd, sl⟩ => decide (t = "type") && (match cd.mro, sl.toList with
    | .ref C' :: bm, [_, _, _, _, some (.builtin n), _] => decide (C' = C) && (decide (n = "ValueError.__new__") && (!cd.hasDel && (cd.hasDict && PySem.HandSPX.refsVE bm)))
    | _, _ => false)
  | _ => false
theorem oexB_ok {C : Addr} (h : oexB K C = true) : OexCls K C := by
  unfold oexB at h
  split at h
  · rename_i t dd cd sl ho
    obtain ⟨h1, h2⟩ := He.ba h
    have et := of_decide_eq_true h1
    subst et
    split at h2
    · rename_i C' bm k0 k1 k2 k3 n k5 hm hs
      obtain ⟨g1, g2⟩ := He.ba h2
      obtain ⟨g3, g4⟩ := He.ba g2
      obtain ⟨g5, g6⟩ := He.ba g4
      obtain ⟨g7, g8⟩ := He.ba g6
      have e1 := of_decide_eq_true g1
      have e2 := of_decide_eq_true g3
      subst e1 e2
      obtain ⟨nm, bs, mro, ns, qn, hd, sn, sub, ab, col, del⟩ := cd
      dsimp only at hm g5 g7
      have e3 : del = false := by simpa using g5
      subst hm e3 g7
      have hsl : sl = #[k0, k1, k2, k3, some (.builtin "ValueError.__new__"), k5] := by
        obtain ⟨l⟩ := sl
        simp only at hs
        rw [hs]
      subst hsl
      exact ⟨nm, qn, ns, bs, bm, sn, sub, ab, col, dd, k0, k1, k2, k3, k5, ho, g8⟩
    · cases h2
  · cases h
abbrev AlH : Type := Bool × List He.FnV × List (Option (List (Option (Str × Int))))
abbrev FsH : Type := List ((PySem.W.Frag → Addr) × He.FnV)
abbrev DsH : Type := List ((PySem.W.Frag → Addr) × List Str)
def obsH (ex : PySem.W.Frag → List Bool) (fs : FsH) (ds : DsH) (K : PySem.W.Frag) : AlH := ((ex K).all id, fs.map fun p => fnAt K (p.1 K), ds.map fun p => He.dicW K (p.1 K))
def valH (fs : FsH) (ds : DsH) (w : World) : AlH := (true, fs.map fun p => p.2, ds.map fun p => some (He.keysIn w.params p.2))
def hookH (as : List Addr) (ex : PySem.W.Frag → List Bool) (fs : FsH) (ds : DsH) : PySem.W.Hook where
  α := AlH
  obs := fun s => obsH ex fs ds (He.frG s.heap.get? as)
  val := fun w => valH fs ds w
  says := fun w h => ∃ K : PySem.W.Frag, K.In h ∧ obsH ex fs ds K = valH fs ds w
  of := fun _ _ e => ⟨_, He.frG_in, e⟩
  keeps := fun _ _ _ ⟨K, hK, c⟩ k => ⟨K, PySem.W.Frag.In.keeps hK k, c⟩
theorem obsH_eq {as : List Addr} {ex : PySem.W.Frag → List Bool} {fs : FsH} {ds : DsH} {g : Addr → Option Obj} {s : Shared} (h : ∀ a, g a = s.heap.get? a) : obsH ex fs ds (He.frG g as) = (hookH as ex fs ds).obs s := by
  have e : g = s.heap.get? := funext h
  rw [e] <;> rfl
theorem exH {ex : PySem.W.Frag → List Bool} {fs : FsH} {ds : DsH} (c : obsH ex fs ds K = valH fs ds w) (i : Nat) {b : Bool} (h : (ex K)[i]? = some b := by rfl) : b = true := by
  have c1 : (ex K).all id = true := congrArg (fun z : AlH => z.1) c
  exact List.all_eq_true.mp c1 b (List.mem_of_getElem? h)
theorem fsH {ex : PySem.W.Frag → List Bool} {fs : FsH} {ds : DsH} (c : obsH ex fs ds K = valH fs ds w) (i : Nat) {p : (PySem.W.Frag → Addr) × He.FnV} (h : fs[i]? = some p := by rfl) : fnAt K (p.1 K) = p.2 := by
  have e : fs.map (fun p => fnAt K (p.1 K)) = fs.map fun p => p.2 := congrArg (fun z : AlH => z.2.1) c
  have e2 : (fs.map fun p => fnAt K (p.1 K))[i]? = (fs.map fun p => p.2)[i]? := by rw [e]
  rw [List.getElem?_map, List.getElem?_map, h] at e2
  exact Option.some.inj e2
end
theorem run_join {r : PySem.W.OpenRow} {q : Program} {as : List Addr} {ex1 ex2 : PySem.W.Frag → List Bool} {fs1 fs2 : FsH} {ds1 ds2 : DsH} {M : Nat} {loose : List Str} {w : World}
    (h1 : HandSHeadRun.RunEq r q (hookH as ex1 fs1 ds1) (fun s => obsH ex1 fs1 ds1 (He.frG (HandSHeadRun.getT s) as)) M loose w)
    (h2 : HandSHeadRun.RunEq r q (hookH as ex2 fs2 ds2) (fun s => obsH ex2 fs2 ds2 (He.frG (HandSHeadRun.getT s) as)) M loose w) :
    HandSHeadRun.RunEq r q (hookH as (fun K => ex1 K ++ ex2 K) (fs1 ++ fs2) (ds1 ++ ds2)) (fun s => obsH (fun K => ex1 K ++ ex2 K) (fs1 ++ fs2) (ds1 ++ ds2) (He.frG (HandSHeadRun.getT s) as)) M loose w := by
  intro os
  have a := h1 os
  have b := h2 os
  revert a b
  generalize HandSHeadRun.endF _ _ _ _ _ = z
  intro a b
  cases z with
  | none => cases a
  | some s =>
    rw [Option.map_some] at a b ⊢
    injection a with a
    injection b with b
    injection a with a1 a2
    injection a2 with a2 a3
    injection b with b1 b2
    injection b2 with b2 b3
    injection (show (_, _, _) = (_, _, _) from a3) with a31 a32
    injection a32 with a32 a33
    injection (show (_, _, _) = (_, _, _) from b3) with b31 b32
    injection b32 with b32 b33
    show some (_, _, obsH _ _ _ _) = some (_, _, valH _ _ _)
    rw [a1, a2]
    unfold obsH valH
    rw [List.all_append, a31, b31, List.map_append, List.map_append, a32, b32, a33, b33, List.map_append, List.map_append]
    rfl
theorem walk_ofH {l : PySem.W.OpenLaw} {k : Nat} {q : Program} {loose : List Str} {XP : (Str → Option Value) → Heap → Prop} {YP : World → Heap → Prop} {d : DefRec} {x : Str}
    (hn : l.most = some 63) (hdf : d.params.defaults = []) (hr : Room k callerA)
    (F : ∀ (w : World) (mg : Str → Option Value) (fa : Addr) (h : Heap), YP w h → h.Ns mainGlobals mg → mg d.name = some (.ref fa) →
      ∃ (K : PySem.W.Frag) (fd : FuncData) (cs : List (Addr × Addr)) (ts : List (Addr × Str)), K.In h ∧ ts.map (·.1) = cs.map (·.2) ∧ (∀ p ∈ cs, K.lookup p.2 = none ∧ ∃ (y : Str) (e : DefRec), (recsOf q).find? (fun e => e.name == y) = some e ∧ PySem.W.tabIn K y = some p) ∧
        (∀ (s : Shared) (u : Value), BindsTo s fd ⟨[u], []⟩ [(x, u)]) ∧ ∀ base : Heap, K.In base → base.Ns mainGlobals mg → (∀ p ∈ cs, TabB base mg p.1 p.2) → FnG l.prog w K mg base CX0 k fa fd [x] (spLawT K ts)) :
    PySem.W.WalkO q loose XP YP l.row.toRowW d [] (fun f vs => PySem.call f vs) := by
  refine Att.attach_callB hn hdf fun w s0 s1 mg mb fa o pm cd doc a vs ns G Y _ _ _ named script areI many _ bare => ?_
  obtain ⟨K, fd, cs, ts, inK, ets, facts, hb, hF⟩ := F w mg fa _ Y G.T.g named
  have tabs : ∀ p ∈ cs, PySem.W.CodeHd s1.heap p.1 p.2 ∧ s1.heap.get? p.2 = some (PySem.W.tabObj #[]) := fun p hp => by
    obtain ⟨_, y, e, h1, h2⟩ := facts p hp
    exact PySem.W.tab_of G.T inK h1 h2
  refine lawT inK G.T.g G.T.b G.T.builtins G.T.nolimit bare (fun p hp => (tabs p hp).2) (fun p hp => (facts p hp).1) (fun p hp => (tabs p hp).1) G.T.bmain script areI (Nat.le_trans many (by decide)) hr hF hb fun H only seq => ⟨⟨a, ns, rfl, seq, many, fun _ => rfl⟩, fun p hp => ?_, fun b ps e => ?_⟩
  · have : p.1 ∈ cs.map (·.2) := by rw [← ets]; exact List.mem_map_of_mem hp
    obtain ⟨r, hr, e⟩ := List.mem_map.mp this
    rw [← e]; exact only.tab r hr
  · rcases only.only b _ e with ⟨p, hp, rfl⟩ | ⟨_, ob, xs, z⟩
    · have : p.2 ∈ ts.map (·.1) := by rw [ets]; exact List.mem_map_of_mem hp
      obtain ⟨r, hr, e⟩ := List.mem_map.mp this
      exact ⟨r.2, by rw [← e]; exact hr⟩
    · cases z
end Mi
namespace K29
open PySem PySem.Spec PyProof.Rows L2 Mi
def xC_CallError (K : PySem.W.Frag) : Addr := He.ga K "CallError"
def xC_BadSignature (K : PySem.W.Frag) : Addr := He.ga K "BadSignature"
def xC_BadCall (K : PySem.W.Frag) : Addr := He.ga K "BadCall"
def xC_BadRow (K : PySem.W.Frag) : Addr := He.ga K "BadRow"
def xC_BadCounts (K : PySem.W.Frag) : Addr := He.ga K "BadCounts"
def xC_Staircase (K : PySem.W.Frag) : Addr := He.ga K "Staircase"
def xC_Fit (K : PySem.W.Frag) : Addr := He.ga K "Fit"
def xF2 (K : PySem.W.Frag) : Addr := He.ga K "is_name"
def xF3 (K : PySem.W.Frag) : Addr := He.ga K "are_names"
def xF4 (K : PySem.W.Frag) : Addr := He.ga K "is_row"
def xF6 (K : PySem.W.Frag) : Addr := He.ga K "_law_begin"
def xF7 (K : PySem.W.Frag) : Addr := He.ga K "_law_draw"
def xF8 (K : PySem.W.Frag) : Addr := He.ga K "_law_is_right"
def xF9 (K : PySem.W.Frag) : Addr := He.ga K "_law_pick"
def xF10 (K : PySem.W.Frag) : Addr := He.ga K "_law_shuffled"
def xF11 (K : PySem.W.Frag) : Addr := He.ga K "_law_pool"
def xF12 (K : PySem.W.Frag) : Addr := He.ga K "_law_random_row"
def xF13 (K : PySem.W.Frag) : Addr := He.ga K "_law_random_rows"
def xF14 (K : PySem.W.Frag) : Addr := He.ga K "lost_between"
def xF22 (K : PySem.W.Frag) : Addr := He.ga K "rows_fit"
def xF23 (K : PySem.W.Frag) : Addr := He.ga K "fit_together"
def xF24 (K : PySem.W.Frag) : Addr := He.ga K "_law_told"
def xF25 (K : PySem.W.Frag) : Addr := He.ga K "law"
def xF1 (K : PySem.W.Frag) : Addr := He.ma K (xC_BadRow K) "__init__"
def xF5 (K : PySem.W.Frag) : Addr := He.ma K (xC_Staircase K) "__init__"
def xF15 (K : PySem.W.Frag) : Addr := He.ma K (xC_Fit K) "__init__"
def xF16 (K : PySem.W.Frag) : Addr := He.ma K (xC_Fit K) "is_ordered"
def xF17 (K : PySem.W.Frag) : Addr := He.ma K (xC_Fit K) "loses_needed"
def xF18 (K : PySem.W.Frag) : Addr := He.ma K (xC_Fit K) "allows"
def xF19 (K : PySem.W.Frag) : Addr := He.ma K (xC_Fit K) "is_steady"
def xF20 (K : PySem.W.Frag) : Addr := He.ma K (xC_Fit K) "is_possible"
def xF21 (K : PySem.W.Frag) : Addr := He.ma K (xC_Staircase K) "row"
def hEx_0 (K : PySem.W.Frag) : List Bool := [He.eqO (PySem.W.nsIn K mainGlobals "CallError") (some (some (.ref (xC_CallError K)))), He.eqO (PySem.W.nsIn K mainGlobals "BadSignature") (some (some (.ref (xC_BadSignature K)))), He.eqO (PySem.W.nsIn K mainGlobals "BadCall") (some (some (.ref (xC_BadCall K)))), He.eqO (PySem.W.nsIn K mainGlobals "BadRow") (some (some (.ref (xC_BadRow K)))), He.eqO (PySem.W.nsIn K mainGlobals "BadCounts") (some (some (.ref (xC_BadCounts K)))), He.eqO (PySem.W.nsIn K mainGlobals "Staircase") (some (some (.ref (xC_Staircase K)))), He.eqO (PySem.W.nsIn K mainGlobals "Fit") (some (some (.ref (xC_Fit K)))), He.eqO (PySem.W.findIn K (.ref (xC_BadRow K)) "__init__") (some (some (.ref (xF1 K)))), decide (PySem.W.typeIn K (.ref (xF1 K)) = some (.type "function")), cdB K (xF1 K) "BadRow.__init__", PySem.W.keepIn K (.ref (xF1 K)), He.eqO (PySem.W.nsIn K mainGlobals "is_name") (some (some (.ref (xF2 K)))), cdB K (xF2 K) "is_name", PySem.W.keepIn K (.ref (xF2 K)), He.eqO (PySem.W.nsIn K mainGlobals "are_names") (some (some (.ref (xF3 K)))), cdB K (xF3 K) "are_names", PySem.W.keepIn K (.ref (xF3 K)), He.eqO (PySem.W.nsIn K mainGlobals "is_row") (some (some (.ref (xF4 K)))), cdB K (xF4 K) "is_row", PySem.W.keepIn K (.ref (xF4 K)), He.eqO (PySem.W.findIn K (.ref (xC_Staircase K)) "__init__") (some (some (.ref (xF5 K)))), mkB K (xC_Staircase K) (xF5 K), cdB K (xF5 K) "Staircase.__init__", PySem.W.keepIn K (.ref (xF5 K)), He.eqO (PySem.W.nsIn K mainGlobals "_law_begin") (some (some (.ref (xF6 K)))), cdB K (xF6 K) "_law_begin", PySem.W.keepIn K (.ref (xF6 K)), He.eqO (PySem.W.nsIn K mainGlobals "_law_draw") (some (some (.ref (xF7 K)))), cdB K (xF7 K) "_law_draw", PySem.W.keepIn K (.ref (xF7 K)), He.eqO (PySem.W.nsIn K mainGlobals "_law_is_right") (some (some (.ref (xF8 K)))), cdB K (xF8 K) "_law_is_right", PySem.W.keepIn K (.ref (xF8 K)), He.eqO (PySem.W.nsIn K mainGlobals "_law_pick") (some (some (.ref (xF9 K)))), cdB K (xF9 K) "_law_pick", PySem.W.keepIn K (.ref (xF9 K)), He.eqO (PySem.W.nsIn K mainGlobals "_law_shuffled") (some (some (.ref (xF10 K)))), cdB K (xF10 K) "_law_shuffled", PySem.W.keepIn K (.ref (xF10 K)), He.eqO (PySem.W.nsIn K mainGlobals "_law_pool") (some (some (.ref (xF11 K)))), cdB K (xF11 K) "_law_pool", PySem.W.keepIn K (.ref (xF11 K)), He.eqO (PySem.W.nsIn K mainGlobals "_law_random_row") (some (some (.ref (xF12 K))))]
def hEx_1 (K : PySem.W.Frag) : List Bool := [cdB K (xF12 K) "_law_random_row", PySem.W.keepIn K (.ref (xF12 K)), He.eqO (PySem.W.nsIn K mainGlobals "_law_random_rows") (some (some (.ref (xF13 K)))), cdB K (xF13 K) "_law_random_rows", PySem.W.keepIn K (.ref (xF13 K)), He.eqO (PySem.W.nsIn K mainGlobals "lost_between") (some (some (.ref (xF14 K)))), cdB K (xF14 K) "lost_between", PySem.W.keepIn K (.ref (xF14 K)), He.eqO (PySem.W.findIn K (.ref (xC_Fit K)) "__init__") (some (some (.ref (xF15 K)))), mkB K (xC_Fit K) (xF15 K), cdB K (xF15 K) "Fit.__init__", PySem.W.keepIn K (.ref (xF15 K)), He.eqO (PySem.W.findIn K (.ref (xC_Fit K)) "is_ordered") (some (some (.ref (xF16 K)))), meB K (xC_Fit K) "is_ordered" (xF16 K), cdB K (xF16 K) "Fit.is_ordered", PySem.W.keepIn K (.ref (xF16 K)), He.eqO (PySem.W.findIn K (.ref (xC_Fit K)) "loses_needed") (some (some (.ref (xF17 K)))), meB K (xC_Fit K) "loses_needed" (xF17 K), cdB K (xF17 K) "Fit.loses_needed", PySem.W.keepIn K (.ref (xF17 K)), He.eqO (PySem.W.findIn K (.ref (xC_Fit K)) "allows") (some (some (.ref (xF18 K)))), meB K (xC_Fit K) "allows" (xF18 K), cdB K (xF18 K) "Fit.allows", PySem.W.keepIn K (.ref (xF18 K)), He.eqO (PySem.W.findIn K (.ref (xC_Fit K)) "is_steady") (some (some (.ref (xF19 K)))), meB K (xC_Fit K) "is_steady" (xF19 K), cdB K (xF19 K) "Fit.is_steady", PySem.W.keepIn K (.ref (xF19 K)), He.eqO (PySem.W.findIn K (.ref (xC_Fit K)) "is_possible") (some (some (.ref (xF20 K)))), meB K (xC_Fit K) "is_possible" (xF20 K), cdB K (xF20 K) "Fit.is_possible", PySem.W.keepIn K (.ref (xF20 K)), He.eqO (PySem.W.findIn K (.ref (xC_Staircase K)) "row") (some (some (.ref (xF21 K)))), meB K (xC_Staircase K) "row" (xF21 K), cdB K (xF21 K) "Staircase.row", PySem.W.keepIn K (.ref (xF21 K)), He.eqO (PySem.W.nsIn K mainGlobals "rows_fit") (some (some (.ref (xF22 K)))), cdB K (xF22 K) "rows_fit", PySem.W.keepIn K (.ref (xF22 K)), He.eqO (PySem.W.nsIn K mainGlobals "fit_together") (some (some (.ref (xF23 K)))), cdB K (xF23 K) "fit_together", PySem.W.keepIn K (.ref (xF23 K)), He.eqO (PySem.W.nsIn K mainGlobals "_law_told") (some (some (.ref (xF24 K))))]
def hEx_2 (K : PySem.W.Frag) : List Bool := [cdB K (xF24 K) "_law_told", PySem.W.keepIn K (.ref (xF24 K)), He.eqO (PySem.W.nsIn K mainGlobals "law") (some (some (.ref (xF25 K)))), cdB K (xF25 K) "law", PySem.W.keepIn K (.ref (xF25 K)), isfB K [("CallError", (xC_CallError K)), ("BadSignature", (xC_BadSignature K)), ("BadCall", (xC_BadCall K)), ("BadRow", (xC_BadRow K)), ("BadCounts", (xC_BadCounts K)), ("Staircase", (xC_Staircase K)), ("Fit", (xC_Fit K))] ["BadSignature", "BadCall", "BadRow", "BadCounts"] ["bool", "int", "list", "str", "tuple"], xmB K [("CallError", (xC_CallError K)), ("BadSignature", (xC_BadSignature K)), ("BadCall", (xC_BadCall K)), ("BadRow", (xC_BadRow K)), ("BadCounts", (xC_BadCounts K)), ("Staircase", (xC_Staircase K)), ("Fit", (xC_Fit K))] "CallError" (xC_CallError K), clsB K (xC_Staircase K), clsB K (xC_Fit K), noB K [((xC_Fit K), "first"), ((xC_Fit K), "full"), ((xC_Fit K), "is_bounded"), ((xC_Fit K), "is_torn"), ((xC_Fit K), "last"), ((xC_Fit K), "losses"), ((xC_Staircase K), "own_rows"), ((xC_BadRow K), "index")], crB K (xC_CallError K), oexB K (xC_BadRow K), He.eqO (PySem.W.findIn K (.ref (xC_BadRow K)) "__setattr__") (some (some (.builtin "object.__setattr__"))), decide (PySem.W.subIn K (.ref (xC_BadRow K)) (.type "BaseException") = some true), decide (PySem.W.typeIn K (.ref (xC_BadRow K)) = some (.type "type")), PySem.W.keepIn K (.ref (xC_BadRow K)), PySem.W.excIn K (xC_BadCounts K) [.type "ValueError", .type "Exception", .type "BaseException", .type "object"] "ValueError.__new__", PySem.W.keepIn K (.ref (xC_BadCounts K)), decide (PySem.W.subIn K (.ref (xC_BadCounts K)) (.type "BaseException") = some true), decide (PySem.W.typeIn K (.ref (xC_BadCounts K)) = some (.type "type")), hdV (PySem.W.findCls K (.ref (xC_CallError K)) (.type "type") "__init__") (.builtin "ValueError.__init__"), hdI (PySem.W.nsIn K mainGlobals "LONGEST_NAME") 6, hdI (PySem.W.nsIn K mainGlobals "MOST_COUNT") 100, hdI (PySem.W.nsIn K mainGlobals "MOST_COUNTS") 6, He.eqO (PySem.W.nsIn K mainGlobals "all") (some none), He.eqO (PySem.W.nsIn K mainGlobals "any") (some none), He.eqO (PySem.W.nsIn K mainGlobals "bool") (some none), He.eqO (PySem.W.nsIn K mainGlobals "enumerate") (some none), He.eqO (PySem.W.nsIn K mainGlobals "int") (some none), He.eqO (PySem.W.nsIn K mainGlobals "isinstance") (some none), He.eqO (PySem.W.nsIn K mainGlobals "len") (some none), He.eqO (PySem.W.nsIn K mainGlobals "list") (some none), He.eqO (PySem.W.nsIn K mainGlobals "max") (some none), He.eqO (PySem.W.nsIn K mainGlobals "min") (some none), He.eqO (PySem.W.nsIn K mainGlobals "range") (some none), He.eqO (PySem.W.nsIn K mainGlobals "repr") (some none), He.eqO (PySem.W.nsIn K mainGlobals "set") (some none), He.eqO (PySem.W.nsIn K mainGlobals "sorted") (some none), He.eqO (PySem.W.nsIn K mainGlobals "str") (some none), He.eqO (PySem.W.nsIn K mainGlobals "tuple") (some none), He.eqO (PySem.W.nsIn K mainGlobals "zip") (some none)]
def hFs_0 : FsH := [(xF1, fnV "__init__" "BadRow.__init__" s_BadRow_dinitd), (xF2, fnV "is_name" "is_name" s_is_name), (xF3, fnV "are_names" "are_names" s_are_names), (xF4, fnV "is_row" "is_row" s_is_row), (xF5, fnV "__init__" "Staircase.__init__" s_Staircase_dinitd), (xF6, fnV "_law_begin" "_law_begin" s_Lbegin), (xF7, fnV "_law_draw" "_law_draw" s_Ldraw), (xF8, fnV "_law_is_right" "_law_is_right" s_Lis_right), (xF9, fnV "_law_pick" "_law_pick" s_Lpick)]
def hFs_1 : FsH := [(xF10, fnV "_law_shuffled" "_law_shuffled" s_Lshuffled), (xF11, fnV "_law_pool" "_law_pool" s_Lpool), (xF12, fnV "_law_random_row" "_law_random_row" s_Lrandom_row), (xF13, fnV "_law_random_rows" "_law_random_rows" s_Lrandom_rows), (xF14, fnV "lost_between" "lost_between" s_lost_between), (xF15, fnV "__init__" "Fit.__init__" s_Fit_dinitd), (xF16, fnV "is_ordered" "Fit.is_ordered" s_Fit_is_ordered), (xF17, fnV "loses_needed" "Fit.loses_needed" s_Fit_loses_needed), (xF18, fnV "allows" "Fit.allows" s_Fit_allows)]
def hFs_2 : FsH := [(xF19, fnV "is_steady" "Fit.is_steady" s_Fit_is_steady), (xF20, fnV "is_possible" "Fit.is_possible" s_Fit_is_possible), (xF21, fnV "row" "Staircase.row" s_Staircase_row), (xF22, fnV "rows_fit" "rows_fit" s_rows_fit), (xF23, fnV "fit_together" "fit_together" s_fit_together), (xF24, fnV "_law_told" "_law_told" s_Ltold), (xF25, fnV "law" "law" s_law)]
def hDs_0 : DsH := []
def hDs_1 : DsH := []
def hDs_2 : DsH := []
def hEx (K : PySem.W.Frag) : List Bool := (hEx_0 K ++ (hEx_1 K ++ hEx_2 K))
def hFs : FsH := (hFs_0 ++ (hFs_1 ++ hFs_2))
def hDs : DsH := (hDs_0 ++ (hDs_1 ++ hDs_2))
def hNm_0 : List Str := ["_wall", "CallError", "BadSignature", "BadCall", "BadRow", "BadCounts", "LONGEST_NAME", "is_name", "are_names", "is_row", "is_shape", "row_accepts", "made_row", "row_meet", "Staircase", "MOST_COUNTS", "MOST_COUNT", "lost_between", "Fit", "rows_fit", "fit_together", "_law_begin", "_law_draw", "_law_pick", "_law_shuffled"]
def hNm_1 : List Str := ["_law_pool", "_law_random_row", "_law_random_rows", "_law_fits", "_law_at", "_law_told", "_law_is_right"]
def hNm : List Str := hNm_0 ++ hNm_1
def hAs : List Addr := List.range 1500
abbrev hR : PySem.W.OpenRow := PySem.W.OpenLaw.row PySem.Challenge.rw_callstairs_k29_counts_refused
abbrev hHk : PySem.W.Hook := hookH hAs hEx hFs hDs
def hOb (s : PySem.W.SharedT) : AlH := obsH hEx hFs hDs (He.frG (HandSHeadRun.getT s) hAs)
theorem hOb_eq (s : PySem.W.SharedT) : hOb s = hHk.obs s.abs := obsH_eq (HandSHeadRun.getT_eq s)
theorem hRunF_0 (w : World) : HandSHeadRun.RunEq hR (PySem.W.view hR.prog [37]) (hookH hAs hEx_0 hFs_0 hDs_0) (fun s => obsH hEx_0 hFs_0 hDs_0 (He.frG (HandSHeadRun.getT s) hAs)) 9000 hNm (w.withFollow "special-get-raises" false) := by
  intro os
  kernel_rfl
theorem hRunF_1 (w : World) : HandSHeadRun.RunEq hR (PySem.W.view hR.prog [37]) (hookH hAs hEx_1 hFs_1 hDs_1) (fun s => obsH hEx_1 hFs_1 hDs_1 (He.frG (HandSHeadRun.getT s) hAs)) 9000 hNm (w.withFollow "special-get-raises" false) := by
  intro os
  kernel_rfl
theorem hRunF_2 (w : World) : HandSHeadRun.RunEq hR (PySem.W.view hR.prog [37]) (hookH hAs hEx_2 hFs_2 hDs_2) (fun s => obsH hEx_2 hFs_2 hDs_2 (He.frG (HandSHeadRun.getT s) hAs)) 9000 hNm (w.withFollow "special-get-raises" false) := by
  intro os
  kernel_rfl
theorem hRunT_0 (w : World) : HandSHeadRun.RunEq hR (PySem.W.view hR.prog [37]) (hookH hAs hEx_0 hFs_0 hDs_0) (fun s => obsH hEx_0 hFs_0 hDs_0 (He.frG (HandSHeadRun.getT s) hAs)) 9000 hNm (w.withFollow "special-get-raises" true) := by
  intro os
  kernel_rfl
theorem hRunT_1 (w : World) : HandSHeadRun.RunEq hR (PySem.W.view hR.prog [37]) (hookH hAs hEx_1 hFs_1 hDs_1) (fun s => obsH hEx_1 hFs_1 hDs_1 (He.frG (HandSHeadRun.getT s) hAs)) 9000 hNm (w.withFollow "special-get-raises" true) := by
  intro os
  kernel_rfl
theorem hRunT_2 (w : World) : HandSHeadRun.RunEq hR (PySem.W.view hR.prog [37]) (hookH hAs hEx_2 hFs_2 hDs_2) (fun s => obsH hEx_2 hFs_2 hDs_2 (He.frG (HandSHeadRun.getT s) hAs)) 9000 hNm (w.withFollow "special-get-raises" true) := by
  intro os
  kernel_rfl
theorem hRunF (w : World) : HandSHeadRun.RunEq hR (PySem.W.view hR.prog [37]) hHk hOb 9000 hNm (w.withFollow "special-get-raises" false) := (run_join (hRunF_0 w) (run_join (hRunF_1 w) (hRunF_2 w)))
theorem hRunT (w : World) : HandSHeadRun.RunEq hR (PySem.W.view hR.prog [37]) hHk hOb 9000 hNm (w.withFollow "special-get-raises" true) := (run_join (hRunT_0 w) (run_join (hRunT_1 w) (hRunT_2 w)))
theorem hRun (w : World) : HandSHeadRun.RunEq hR (PySem.W.view hR.prog [37]) hHk hOb 9000 hNm w :=
  PySem.W.byRow2 "special-get-raises" (P := fun w => HandSHeadRun.RunEq hR (PySem.W.view hR.prog [37]) hHk hOb 9000 hNm w) hRunF hRunT w
theorem hFacts {l : PySem.W.OpenLaw} {qq : Program} {w : World} {K : PySem.W.Frag} {h : Heap} {mg : Str → Option Value} {fa : Addr} (X : K.In h) (G : h.Ns mainGlobals mg) (hfa : mg "law" = some (.ref fa)) (c : obsH hEx hFs hDs K = valH hFs hDs w) :
    ∃ (fd : FuncData) (cs : List (Addr × Addr)) (ts : List (Addr × Str)), ts.map (·.1) = cs.map (·.2) ∧ (∀ p ∈ cs, K.lookup p.2 = none ∧ ∃ (y : Str) (e : DefRec), (PyProof.Rows.recsOf qq).find? (fun e => e.name == y) = some e ∧ PySem.W.tabIn K y = some p) ∧
      (∀ (s : Shared) (v : Value), BindsTo s fd ⟨[v], []⟩ [("_law_script", v)]) ∧ ∀ base : Heap, K.In base → base.Ns mainGlobals mg → (∀ p ∈ cs, LamX.TabB base mg p.1 p.2) → Cs.FnG l.prog w K mg base CX0 8 fa fd ["_law_script"] (spLawT K ts) := by
  obtain ⟨oc1, od1, sl1, kV1, dc1, pm1, an1, cd1, ct1, lx1, cx1⟩ := fnAt_ok (st := s_BadRow_dinitd) (fsH (ex := hEx) (fs := hFs) (ds := hDs) c 0) (exH (ex := hEx) (fs := hFs) (ds := hDs) (b := cdB K (xF1 K) "BadRow.__init__") c 9)
  obtain ⟨oc2, od2, sl2, kV2, dc2, pm2, an2, cd2, ct2, lx2, cx2⟩ := fnAt_ok (st := s_is_name) (fsH (ex := hEx) (fs := hFs) (ds := hDs) c 1) (exH (ex := hEx) (fs := hFs) (ds := hDs) (b := cdB K (xF2 K) "is_name") c 12)
  obtain ⟨oc3, od3, sl3, kV3, dc3, pm3, an3, cd3, ct3, lx3, cx3⟩ := fnAt_ok (st := s_are_names) (fsH (ex := hEx) (fs := hFs) (ds := hDs) c 2) (exH (ex := hEx) (fs := hFs) (ds := hDs) (b := cdB K (xF3 K) "are_names") c 15)
  obtain ⟨oc4, od4, sl4, kV4, dc4, pm4, an4, cd4, ct4, lx4, cx4⟩ := fnAt_ok (st := s_is_row) (fsH (ex := hEx) (fs := hFs) (ds := hDs) c 3) (exH (ex := hEx) (fs := hFs) (ds := hDs) (b := cdB K (xF4 K) "is_row") c 18)
  obtain ⟨oc5, od5, sl5, kV5, dc5, pm5, an5, cd5, ct5, lx5, cx5⟩ := fnAt_ok (st := s_Staircase_dinitd) (fsH (ex := hEx) (fs := hFs) (ds := hDs) c 4) (exH (ex := hEx) (fs := hFs) (ds := hDs) (b := cdB K (xF5 K) "Staircase.__init__") c 22)
  obtain ⟨oc6, od6, sl6, kV6, dc6, pm6, an6, cd6, ct6, lx6, cx6⟩ := fnAt_ok (st := s_Lbegin) (fsH (ex := hEx) (fs := hFs) (ds := hDs) c 5) (exH (ex := hEx) (fs := hFs) (ds := hDs) (b := cdB K (xF6 K) "_law_begin") c 25)
  obtain ⟨oc7, od7, sl7, kV7, dc7, pm7, an7, cd7, ct7, lx7, cx7⟩ := fnAt_ok (st := s_Ldraw) (fsH (ex := hEx) (fs := hFs) (ds := hDs) c 6) (exH (ex := hEx) (fs := hFs) (ds := hDs) (b := cdB K (xF7 K) "_law_draw") c 28)
  obtain ⟨oc8, od8, sl8, kV8, dc8, pm8, an8, cd8, ct8, lx8, cx8⟩ := fnAt_ok (st := s_Lis_right) (fsH (ex := hEx) (fs := hFs) (ds := hDs) c 7) (exH (ex := hEx) (fs := hFs) (ds := hDs) (b := cdB K (xF8 K) "_law_is_right") c 31)
  obtain ⟨oc9, od9, sl9, kV9, dc9, pm9, an9, cd9, ct9, lx9, cx9⟩ := fnAt_ok (st := s_Lpick) (fsH (ex := hEx) (fs := hFs) (ds := hDs) c 8) (exH (ex := hEx) (fs := hFs) (ds := hDs) (b := cdB K (xF9 K) "_law_pick") c 34)
  obtain ⟨oc10, od10, sl10, kV10, dc10, pm10, an10, cd10, ct10, lx10, cx10⟩ := fnAt_ok (st := s_Lshuffled) (fsH (ex := hEx) (fs := hFs) (ds := hDs) c 9) (exH (ex := hEx) (fs := hFs) (ds := hDs) (b := cdB K (xF10 K) "_law_shuffled") c 37)
  obtain ⟨oc11, od11, sl11, kV11, dc11, pm11, an11, cd11, ct11, lx11, cx11⟩ := fnAt_ok (st := s_Lpool) (fsH (ex := hEx) (fs := hFs) (ds := hDs) c 10) (exH (ex := hEx) (fs := hFs) (ds := hDs) (b := cdB K (xF11 K) "_law_pool") c 40)
  obtain ⟨oc12, od12, sl12, kV12, dc12, pm12, an12, cd12, ct12, lx12, cx12⟩ := fnAt_ok (st := s_Lrandom_row) (fsH (ex := hEx) (fs := hFs) (ds := hDs) c 11) (exH (ex := hEx) (fs := hFs) (ds := hDs) (b := cdB K (xF12 K) "_law_random_row") c 43)
  obtain ⟨oc13, od13, sl13, kV13, dc13, pm13, an13, cd13, ct13, lx13, cx13⟩ := fnAt_ok (st := s_Lrandom_rows) (fsH (ex := hEx) (fs := hFs) (ds := hDs) c 12) (exH (ex := hEx) (fs := hFs) (ds := hDs) (b := cdB K (xF13 K) "_law_random_rows") c 46)
  obtain ⟨oc14, od14, sl14, kV14, dc14, pm14, an14, cd14, ct14, lx14, cx14⟩ := fnAt_ok (st := s_lost_between) (fsH (ex := hEx) (fs := hFs) (ds := hDs) c 13) (exH (ex := hEx) (fs := hFs) (ds := hDs) (b := cdB K (xF14 K) "lost_between") c 49)
  obtain ⟨oc15, od15, sl15, kV15, dc15, pm15, an15, cd15, ct15, lx15, cx15⟩ := fnAt_ok (st := s_Fit_dinitd) (fsH (ex := hEx) (fs := hFs) (ds := hDs) c 14) (exH (ex := hEx) (fs := hFs) (ds := hDs) (b := cdB K (xF15 K) "Fit.__init__") c 53)
  obtain ⟨oc16, od16, sl16, kV16, dc16, pm16, an16, cd16, ct16, lx16, cx16⟩ := fnAt_ok (st := s_Fit_is_ordered) (fsH (ex := hEx) (fs := hFs) (ds := hDs) c 15) (exH (ex := hEx) (fs := hFs) (ds := hDs) (b := cdB K (xF16 K) "Fit.is_ordered") c 57)
  obtain ⟨oc17, od17, sl17, kV17, dc17, pm17, an17, cd17, ct17, lx17, cx17⟩ := fnAt_ok (st := s_Fit_loses_needed) (fsH (ex := hEx) (fs := hFs) (ds := hDs) c 16) (exH (ex := hEx) (fs := hFs) (ds := hDs) (b := cdB K (xF17 K) "Fit.loses_needed") c 61)
  obtain ⟨oc18, od18, sl18, kV18, dc18, pm18, an18, cd18, ct18, lx18, cx18⟩ := fnAt_ok (st := s_Fit_allows) (fsH (ex := hEx) (fs := hFs) (ds := hDs) c 17) (exH (ex := hEx) (fs := hFs) (ds := hDs) (b := cdB K (xF18 K) "Fit.allows") c 65)
  obtain ⟨oc19, od19, sl19, kV19, dc19, pm19, an19, cd19, ct19, lx19, cx19⟩ := fnAt_ok (st := s_Fit_is_steady) (fsH (ex := hEx) (fs := hFs) (ds := hDs) c 18) (exH (ex := hEx) (fs := hFs) (ds := hDs) (b := cdB K (xF19 K) "Fit.is_steady") c 69)
  obtain ⟨oc20, od20, sl20, kV20, dc20, pm20, an20, cd20, ct20, lx20, cx20⟩ := fnAt_ok (st := s_Fit_is_possible) (fsH (ex := hEx) (fs := hFs) (ds := hDs) c 19) (exH (ex := hEx) (fs := hFs) (ds := hDs) (b := cdB K (xF20 K) "Fit.is_possible") c 73)
  obtain ⟨oc21, od21, sl21, kV21, dc21, pm21, an21, cd21, ct21, lx21, cx21⟩ := fnAt_ok (st := s_Staircase_row) (fsH (ex := hEx) (fs := hFs) (ds := hDs) c 20) (exH (ex := hEx) (fs := hFs) (ds := hDs) (b := cdB K (xF21 K) "Staircase.row") c 77)
  obtain ⟨oc22, od22, sl22, kV22, dc22, pm22, an22, cd22, ct22, lx22, cx22⟩ := fnAt_ok (st := s_rows_fit) (fsH (ex := hEx) (fs := hFs) (ds := hDs) c 21) (exH (ex := hEx) (fs := hFs) (ds := hDs) (b := cdB K (xF22 K) "rows_fit") c 80)
  obtain ⟨oc23, od23, sl23, kV23, dc23, pm23, an23, cd23, ct23, lx23, cx23⟩ := fnAt_ok (st := s_fit_together) (fsH (ex := hEx) (fs := hFs) (ds := hDs) c 22) (exH (ex := hEx) (fs := hFs) (ds := hDs) (b := cdB K (xF23 K) "fit_together") c 83)
  obtain ⟨oc24, od24, sl24, kV24, dc24, pm24, an24, cd24, ct24, lx24, cx24⟩ := fnAt_ok (st := s_Ltold) (fsH (ex := hEx) (fs := hFs) (ds := hDs) c 23) (exH (ex := hEx) (fs := hFs) (ds := hDs) (b := cdB K (xF24 K) "_law_told") c 86)
  obtain ⟨oc25, od25, sl25, kV25, dc25, pm25, an25, cd25, ct25, lx25, cx25⟩ := fnAt_ok (st := s_law) (fsH (ex := hEx) (fs := hFs) (ds := hDs) c 24) (exH (ex := hEx) (fs := hFs) (ds := hDs) (b := cdB K (xF25 K) "law") c 89)
  obtain ⟨tk_LONGEST_NAME, htk_LONGEST_NAME⟩ := hdI_ok (exH (ex := hEx) (fs := hFs) (ds := hDs) (b := hdI (PySem.W.nsIn K mainGlobals "LONGEST_NAME") 6) c 107)
  obtain ⟨tk_MOST_COUNT, htk_MOST_COUNT⟩ := hdI_ok (exH (ex := hEx) (fs := hFs) (ds := hDs) (b := hdI (PySem.W.nsIn K mainGlobals "MOST_COUNT") 100) c 108)
  obtain ⟨tk_MOST_COUNTS, htk_MOST_COUNTS⟩ := hdI_ok (exH (ex := hEx) (fs := hFs) (ds := hDs) (b := hdI (PySem.W.nsIn K mainGlobals "MOST_COUNTS") 6) c 109)
  refine' K29.all_mk K29.law_true X G hfa (a_CallError := ?a_CallError) (a_BadSignature := ?a_BadSignature) (a_BadCall := ?a_BadCall) (a_BadRow := ?a_BadRow) (a_BadCounts := ?a_BadCounts) (a_Staircase := ?a_Staircase) (a_Fit := ?a_Fit) (in1 := ?in1) (ti1 := ?ti1) (l1 := ?l1) (c1 := ?c1) (k1 := ?k1) (a2 := ?a2) (l2 := ?l2) (c2 := ?c2) (k2 := ?k2) (a3 := ?a3) (l3 := ?l3) (c3 := ?c3) (k3 := ?k3) (a4 := ?a4) (l4 := ?l4) (c4 := ?c4) (k4 := ?k4) (in5 := ?in5) (mk5 := ?mk5) (l5 := ?l5) (c5 := ?c5) (k5 := ?k5) (a6 := ?a6) (l6 := ?l6) (c6 := ?c6) (k6 := ?k6) (a7 := ?a7) (l7 := ?l7) (c7 := ?c7) (k7 := ?k7) (a8 := ?a8) (l8 := ?l8) (c8 := ?c8) (k8 := ?k8) (a9 := ?a9) (l9 := ?l9) (c9 := ?c9) (k9 := ?k9) (a10 := ?a10) (l10 := ?l10) (c10 := ?c10) (k10 := ?k10) (a11 := ?a11) (l11 := ?l11) (c11 := ?c11) (k11 := ?k11) (a12 := ?a12) (l12 := ?l12) (c12 := ?c12) (k12 := ?k12) (a13 := ?a13) (l13 := ?l13) (c13 := ?c13) (k13 := ?k13) (a14 := ?a14) (l14 := ?l14) (c14 := ?c14) (k14 := ?k14) (in15 := ?in15) (mk15 := ?mk15) (l15 := ?l15) (c15 := ?c15) (k15 := ?k15) (q116 := ?q116) (q216 := ?q216) (l16 := ?l16) (c16 := ?c16) (k16 := ?k16) (q117 := ?q117) (q217 := ?q217) (l17 := ?l17) (c17 := ?c17) (k17 := ?k17) (q118 := ?q118) (q218 := ?q218) (l18 := ?l18) (c18 := ?c18) (k18 := ?k18) (q119 := ?q119) (q219 := ?q219) (l19 := ?l19) (c19 := ?c19) (k19 := ?k19) (q120 := ?q120) (q220 := ?q220) (l20 := ?l20) (c20 := ?c20) (k20 := ?k20) (q121 := ?q121) (q221 := ?q221) (l21 := ?l21) (c21 := ?c21) (k21 := ?k21) (a22 := ?a22) (l22 := ?l22) (c22 := ?c22) (k22 := ?k22) (a23 := ?a23) (l23 := ?l23) (c23 := ?c23) (k23 := ?k23) (a24 := ?a24) (l24 := ?l24) (c24 := ?c24) (k24 := ?k24) (a25 := ?a25) (l25 := ?l25) (c25 := ?c25) (k25 := ?k25) (xisf := ?xisf) (xxm_CallError := ?xxm_CallError) (xcl_Staircase := ?xcl_Staircase) (xcl_Fit := ?xcl_Fit) (xno := ?xno) (xcr_CallError := ?xcr_CallError) (xx_BadRow := ?xx_BadRow) (xs_BadRow := ?xs_BadRow) (sb_BadRow := ?sb_BadRow) (ty_BadRow := ?ty_BadRow) (kp_BadRow := ?kp_BadRow) (x_BadCounts := ?x_BadCounts) (kp_BadCounts := ?kp_BadCounts) (sb_BadCounts := ?sb_BadCounts) (ty_BadCounts := ?ty_BadCounts) (bi := ?bi) (v_LONGEST_NAME := ?v_LONGEST_NAME) (v_MOST_COUNT := ?v_MOST_COUNT) (v_MOST_COUNTS := ?v_MOST_COUNTS) (z_all := ?z_all) (z_any := ?z_any) (z_bool := ?z_bool) (z_enumerate := ?z_enumerate) (z_int := ?z_int) (z_isinstance := ?z_isinstance) (z_len := ?z_len) (z_list := ?z_list) (z_max := ?z_max) (z_min := ?z_min) (z_range := ?z_range) (z_repr := ?z_repr) (z_set := ?z_set) (z_sorted := ?z_sorted) (z_str := ?z_str) (z_tuple := ?z_tuple) (z_zip := ?z_zip)
  (case a_CallError => exact He.eqO_ok (exH (ex := hEx) (fs := hFs) (ds := hDs) (b := He.eqO (PySem.W.nsIn K mainGlobals "CallError") (some (some (.ref (xC_CallError K))))) c 0))
  (case a_BadSignature => exact He.eqO_ok (exH (ex := hEx) (fs := hFs) (ds := hDs) (b := He.eqO (PySem.W.nsIn K mainGlobals "BadSignature") (some (some (.ref (xC_BadSignature K))))) c 1))
  (case a_BadCall => exact He.eqO_ok (exH (ex := hEx) (fs := hFs) (ds := hDs) (b := He.eqO (PySem.W.nsIn K mainGlobals "BadCall") (some (some (.ref (xC_BadCall K))))) c 2))
  (case a_BadRow => exact He.eqO_ok (exH (ex := hEx) (fs := hFs) (ds := hDs) (b := He.eqO (PySem.W.nsIn K mainGlobals "BadRow") (some (some (.ref (xC_BadRow K))))) c 3))
  (case a_BadCounts => exact He.eqO_ok (exH (ex := hEx) (fs := hFs) (ds := hDs) (b := He.eqO (PySem.W.nsIn K mainGlobals "BadCounts") (some (some (.ref (xC_BadCounts K))))) c 4))
  (case a_Staircase => exact He.eqO_ok (exH (ex := hEx) (fs := hFs) (ds := hDs) (b := He.eqO (PySem.W.nsIn K mainGlobals "Staircase") (some (some (.ref (xC_Staircase K))))) c 5))
  (case a_Fit => exact He.eqO_ok (exH (ex := hEx) (fs := hFs) (ds := hDs) (b := He.eqO (PySem.W.nsIn K mainGlobals "Fit") (some (some (.ref (xC_Fit K))))) c 6))
  (case in1 => exact He.eqO_ok (exH (ex := hEx) (fs := hFs) (ds := hDs) (b := He.eqO (PySem.W.findIn K (.ref (xC_BadRow K)) "__init__") (some (some (.ref (xF1 K))))) c 7))
  (case ti1 => exact of_decide_eq_true (exH (ex := hEx) (fs := hFs) (ds := hDs) (b := decide (PySem.W.typeIn K (.ref (xF1 K)) = some (.type "function"))) c 8))
  (case l1 => exact lx1)
  (case c1 => exact cx1)
  (case k1 => exact (exH (ex := hEx) (fs := hFs) (ds := hDs) (b := PySem.W.keepIn K (.ref (xF1 K))) c 10))
  (case a2 => exact He.eqO_ok (exH (ex := hEx) (fs := hFs) (ds := hDs) (b := He.eqO (PySem.W.nsIn K mainGlobals "is_name") (some (some (.ref (xF2 K))))) c 11))
  (case l2 => exact lx2)
  (case c2 => exact cx2)
  (case k2 => exact (exH (ex := hEx) (fs := hFs) (ds := hDs) (b := PySem.W.keepIn K (.ref (xF2 K))) c 13))
  (case a3 => exact He.eqO_ok (exH (ex := hEx) (fs := hFs) (ds := hDs) (b := He.eqO (PySem.W.nsIn K mainGlobals "are_names") (some (some (.ref (xF3 K))))) c 14))
  (case l3 => exact lx3)
  (case c3 => exact cx3)
  (case k3 => exact (exH (ex := hEx) (fs := hFs) (ds := hDs) (b := PySem.W.keepIn K (.ref (xF3 K))) c 16))
  (case a4 => exact He.eqO_ok (exH (ex := hEx) (fs := hFs) (ds := hDs) (b := He.eqO (PySem.W.nsIn K mainGlobals "is_row") (some (some (.ref (xF4 K))))) c 17))
  (case l4 => exact lx4)
  (case c4 => exact cx4)
  (case k4 => exact (exH (ex := hEx) (fs := hFs) (ds := hDs) (b := PySem.W.keepIn K (.ref (xF4 K))) c 19))
  (case in5 => exact He.eqO_ok (exH (ex := hEx) (fs := hFs) (ds := hDs) (b := He.eqO (PySem.W.findIn K (.ref (xC_Staircase K)) "__init__") (some (some (.ref (xF5 K))))) c 20))
  (case mk5 => exact (exH (ex := hEx) (fs := hFs) (ds := hDs) (b := mkB K (xC_Staircase K) (xF5 K)) c 21))
  (case l5 => exact lx5)
  (case c5 => exact cx5)
  (case k5 => exact (exH (ex := hEx) (fs := hFs) (ds := hDs) (b := PySem.W.keepIn K (.ref (xF5 K))) c 23))
  (case a6 => exact He.eqO_ok (exH (ex := hEx) (fs := hFs) (ds := hDs) (b := He.eqO (PySem.W.nsIn K mainGlobals "_law_begin") (some (some (.ref (xF6 K))))) c 24))
  (case l6 => exact lx6)
  (case c6 => exact cx6)
  (case k6 => exact (exH (ex := hEx) (fs := hFs) (ds := hDs) (b := PySem.W.keepIn K (.ref (xF6 K))) c 26))
  (case a7 => exact He.eqO_ok (exH (ex := hEx) (fs := hFs) (ds := hDs) (b := He.eqO (PySem.W.nsIn K mainGlobals "_law_draw") (some (some (.ref (xF7 K))))) c 27))
  (case l7 => exact lx7)
  (case c7 => exact cx7)
  (case k7 => exact (exH (ex := hEx) (fs := hFs) (ds := hDs) (b := PySem.W.keepIn K (.ref (xF7 K))) c 29))
  (case a8 => exact He.eqO_ok (exH (ex := hEx) (fs := hFs) (ds := hDs) (b := He.eqO (PySem.W.nsIn K mainGlobals "_law_is_right") (some (some (.ref (xF8 K))))) c 30))
  (case l8 => exact lx8)
  (case c8 => exact cx8)
  (case k8 => exact (exH (ex := hEx) (fs := hFs) (ds := hDs) (b := PySem.W.keepIn K (.ref (xF8 K))) c 32))
  (case a9 => exact He.eqO_ok (exH (ex := hEx) (fs := hFs) (ds := hDs) (b := He.eqO (PySem.W.nsIn K mainGlobals "_law_pick") (some (some (.ref (xF9 K))))) c 33))
  (case l9 => exact lx9)
  (case c9 => exact cx9)
  (case k9 => exact (exH (ex := hEx) (fs := hFs) (ds := hDs) (b := PySem.W.keepIn K (.ref (xF9 K))) c 35))
  (case a10 => exact He.eqO_ok (exH (ex := hEx) (fs := hFs) (ds := hDs) (b := He.eqO (PySem.W.nsIn K mainGlobals "_law_shuffled") (some (some (.ref (xF10 K))))) c 36))
  (case l10 => exact lx10)
  (case c10 => exact cx10)
  (case k10 => exact (exH (ex := hEx) (fs := hFs) (ds := hDs) (b := PySem.W.keepIn K (.ref (xF10 K))) c 38))
  (case a11 => exact He.eqO_ok (exH (ex := hEx) (fs := hFs) (ds := hDs) (b := He.eqO (PySem.W.nsIn K mainGlobals "_law_pool") (some (some (.ref (xF11 K))))) c 39))
  (case l11 => exact lx11)
  (case c11 => exact cx11)
  (case k11 => exact (exH (ex := hEx) (fs := hFs) (ds := hDs) (b := PySem.W.keepIn K (.ref (xF11 K))) c 41))
  (case a12 => exact He.eqO_ok (exH (ex := hEx) (fs := hFs) (ds := hDs) (b := He.eqO (PySem.W.nsIn K mainGlobals "_law_random_row") (some (some (.ref (xF12 K))))) c 42))
  (case l12 => exact lx12)
  (case c12 => exact cx12)
  (case k12 => exact (exH (ex := hEx) (fs := hFs) (ds := hDs) (b := PySem.W.keepIn K (.ref (xF12 K))) c 44))
  (case a13 => exact He.eqO_ok (exH (ex := hEx) (fs := hFs) (ds := hDs) (b := He.eqO (PySem.W.nsIn K mainGlobals "_law_random_rows") (some (some (.ref (xF13 K))))) c 45))
  (case l13 => exact lx13)
  (case c13 => exact cx13)
  (case k13 => exact (exH (ex := hEx) (fs := hFs) (ds := hDs) (b := PySem.W.keepIn K (.ref (xF13 K))) c 47))
  (case a14 => exact He.eqO_ok (exH (ex := hEx) (fs := hFs) (ds := hDs) (b := He.eqO (PySem.W.nsIn K mainGlobals "lost_between") (some (some (.ref (xF14 K))))) c 48))
  (case l14 => exact lx14)
  (case c14 => exact cx14)
  (case k14 => exact (exH (ex := hEx) (fs := hFs) (ds := hDs) (b := PySem.W.keepIn K (.ref (xF14 K))) c 50))
  (case in15 => exact He.eqO_ok (exH (ex := hEx) (fs := hFs) (ds := hDs) (b := He.eqO (PySem.W.findIn K (.ref (xC_Fit K)) "__init__") (some (some (.ref (xF15 K))))) c 51))
  (case mk15 => exact (exH (ex := hEx) (fs := hFs) (ds := hDs) (b := mkB K (xC_Fit K) (xF15 K)) c 52))
  (case l15 => exact lx15)
  (case c15 => exact cx15)
  (case k15 => exact (exH (ex := hEx) (fs := hFs) (ds := hDs) (b := PySem.W.keepIn K (.ref (xF15 K))) c 54))
  (case q116 => exact He.eqO_ok (exH (ex := hEx) (fs := hFs) (ds := hDs) (b := He.eqO (PySem.W.findIn K (.ref (xC_Fit K)) "is_ordered") (some (some (.ref (xF16 K))))) c 55))
  (case q216 => exact (exH (ex := hEx) (fs := hFs) (ds := hDs) (b := meB K (xC_Fit K) "is_ordered" (xF16 K)) c 56))
  (case l16 => exact lx16)
  (case c16 => exact cx16)
  (case k16 => exact (exH (ex := hEx) (fs := hFs) (ds := hDs) (b := PySem.W.keepIn K (.ref (xF16 K))) c 58))
  (case q117 => exact He.eqO_ok (exH (ex := hEx) (fs := hFs) (ds := hDs) (b := He.eqO (PySem.W.findIn K (.ref (xC_Fit K)) "loses_needed") (some (some (.ref (xF17 K))))) c 59))
  (case q217 => exact (exH (ex := hEx) (fs := hFs) (ds := hDs) (b := meB K (xC_Fit K) "loses_needed" (xF17 K)) c 60))
  (case l17 => exact lx17)
  (case c17 => exact cx17)
  (case k17 => exact (exH (ex := hEx) (fs := hFs) (ds := hDs) (b := PySem.W.keepIn K (.ref (xF17 K))) c 62))
  (case q118 => exact He.eqO_ok (exH (ex := hEx) (fs := hFs) (ds := hDs) (b := He.eqO (PySem.W.findIn K (.ref (xC_Fit K)) "allows") (some (some (.ref (xF18 K))))) c 63))
  (case q218 => exact (exH (ex := hEx) (fs := hFs) (ds := hDs) (b := meB K (xC_Fit K) "allows" (xF18 K)) c 64))
  (case l18 => exact lx18)
  (case c18 => exact cx18)
  (case k18 => exact (exH (ex := hEx) (fs := hFs) (ds := hDs) (b := PySem.W.keepIn K (.ref (xF18 K))) c 66))
  (case q119 => exact He.eqO_ok (exH (ex := hEx) (fs := hFs) (ds := hDs) (b := He.eqO (PySem.W.findIn K (.ref (xC_Fit K)) "is_steady") (some (some (.ref (xF19 K))))) c 67))
  (case q219 => exact (exH (ex := hEx) (fs := hFs) (ds := hDs) (b := meB K (xC_Fit K) "is_steady" (xF19 K)) c 68))
  (case l19 => exact lx19)
  (case c19 => exact cx19)
  (case k19 => exact (exH (ex := hEx) (fs := hFs) (ds := hDs) (b := PySem.W.keepIn K (.ref (xF19 K))) c 70))
  (case q120 => exact He.eqO_ok (exH (ex := hEx) (fs := hFs) (ds := hDs) (b := He.eqO (PySem.W.findIn K (.ref (xC_Fit K)) "is_possible") (some (some (.ref (xF20 K))))) c 71))
  (case q220 => exact (exH (ex := hEx) (fs := hFs) (ds := hDs) (b := meB K (xC_Fit K) "is_possible" (xF20 K)) c 72))
  (case l20 => exact lx20)
  (case c20 => exact cx20)
  (case k20 => exact (exH (ex := hEx) (fs := hFs) (ds := hDs) (b := PySem.W.keepIn K (.ref (xF20 K))) c 74))
  (case q121 => exact He.eqO_ok (exH (ex := hEx) (fs := hFs) (ds := hDs) (b := He.eqO (PySem.W.findIn K (.ref (xC_Staircase K)) "row") (some (some (.ref (xF21 K))))) c 75))
  (case q221 => exact (exH (ex := hEx) (fs := hFs) (ds := hDs) (b := meB K (xC_Staircase K) "row" (xF21 K)) c 76))
  (case l21 => exact lx21)
  (case c21 => exact cx21)
  (case k21 => exact (exH (ex := hEx) (fs := hFs) (ds := hDs) (b := PySem.W.keepIn K (.ref (xF21 K))) c 78))
  (case a22 => exact He.eqO_ok (exH (ex := hEx) (fs := hFs) (ds := hDs) (b := He.eqO (PySem.W.nsIn K mainGlobals "rows_fit") (some (some (.ref (xF22 K))))) c 79))
  (case l22 => exact lx22)
  (case c22 => exact cx22)
  (case k22 => exact (exH (ex := hEx) (fs := hFs) (ds := hDs) (b := PySem.W.keepIn K (.ref (xF22 K))) c 81))
  (case a23 => exact He.eqO_ok (exH (ex := hEx) (fs := hFs) (ds := hDs) (b := He.eqO (PySem.W.nsIn K mainGlobals "fit_together") (some (some (.ref (xF23 K))))) c 82))
  (case l23 => exact lx23)
  (case c23 => exact cx23)
  (case k23 => exact (exH (ex := hEx) (fs := hFs) (ds := hDs) (b := PySem.W.keepIn K (.ref (xF23 K))) c 84))
  (case a24 => exact He.eqO_ok (exH (ex := hEx) (fs := hFs) (ds := hDs) (b := He.eqO (PySem.W.nsIn K mainGlobals "_law_told") (some (some (.ref (xF24 K))))) c 85))
  (case l24 => exact lx24)
  (case c24 => exact cx24)
  (case k24 => exact (exH (ex := hEx) (fs := hFs) (ds := hDs) (b := PySem.W.keepIn K (.ref (xF24 K))) c 87))
  (case a25 => exact He.eqO_ok (exH (ex := hEx) (fs := hFs) (ds := hDs) (b := He.eqO (PySem.W.nsIn K mainGlobals "law") (some (some (.ref (xF25 K))))) c 88))
  (case l25 => exact lx25)
  (case c25 => exact cx25)
  (case k25 => exact (exH (ex := hEx) (fs := hFs) (ds := hDs) (b := PySem.W.keepIn K (.ref (xF25 K))) c 90))
  (case xisf => exact (exH (ex := hEx) (fs := hFs) (ds := hDs) (b := isfB K [("CallError", (xC_CallError K)), ("BadSignature", (xC_BadSignature K)), ("BadCall", (xC_BadCall K)), ("BadRow", (xC_BadRow K)), ("BadCounts", (xC_BadCounts K)), ("Staircase", (xC_Staircase K)), ("Fit", (xC_Fit K))] ["BadSignature", "BadCall", "BadRow", "BadCounts"] ["bool", "int", "list", "str", "tuple"]) c 91))
  (case xxm_CallError => exact (exH (ex := hEx) (fs := hFs) (ds := hDs) (b := xmB K [("CallError", (xC_CallError K)), ("BadSignature", (xC_BadSignature K)), ("BadCall", (xC_BadCall K)), ("BadRow", (xC_BadRow K)), ("BadCounts", (xC_BadCounts K)), ("Staircase", (xC_Staircase K)), ("Fit", (xC_Fit K))] "CallError" (xC_CallError K)) c 92))
  (case xcl_Staircase => exact (exH (ex := hEx) (fs := hFs) (ds := hDs) (b := clsB K (xC_Staircase K)) c 93))
  (case xcl_Fit => exact (exH (ex := hEx) (fs := hFs) (ds := hDs) (b := clsB K (xC_Fit K)) c 94))
  (case xno => exact (exH (ex := hEx) (fs := hFs) (ds := hDs) (b := noB K [((xC_Fit K), "first"), ((xC_Fit K), "full"), ((xC_Fit K), "is_bounded"), ((xC_Fit K), "is_torn"), ((xC_Fit K), "last"), ((xC_Fit K), "losses"), ((xC_Staircase K), "own_rows"), ((xC_BadRow K), "index")]) c 95))
  (case xcr_CallError => exact (exH (ex := hEx) (fs := hFs) (ds := hDs) (b := crB K (xC_CallError K)) c 96))
  (case xx_BadRow => exact oexB_ok (exH (ex := hEx) (fs := hFs) (ds := hDs) (b := oexB K (xC_BadRow K)) c 97))
  (case xs_BadRow => exact He.eqO_ok (exH (ex := hEx) (fs := hFs) (ds := hDs) (b := He.eqO (PySem.W.findIn K (.ref (xC_BadRow K)) "__setattr__") (some (some (.builtin "object.__setattr__")))) c 98))
  (case sb_BadRow => exact of_decide_eq_true (exH (ex := hEx) (fs := hFs) (ds := hDs) (b := decide (PySem.W.subIn K (.ref (xC_BadRow K)) (.type "BaseException") = some true)) c 99))
  (case ty_BadRow => exact of_decide_eq_true (exH (ex := hEx) (fs := hFs) (ds := hDs) (b := decide (PySem.W.typeIn K (.ref (xC_BadRow K)) = some (.type "type"))) c 100))
  (case kp_BadRow => exact (exH (ex := hEx) (fs := hFs) (ds := hDs) (b := PySem.W.keepIn K (.ref (xC_BadRow K))) c 101))
  (case x_BadCounts => exact (exH (ex := hEx) (fs := hFs) (ds := hDs) (b := PySem.W.excIn K (xC_BadCounts K) [.type "ValueError", .type "Exception", .type "BaseException", .type "object"] "ValueError.__new__") c 102))
  (case kp_BadCounts => exact (exH (ex := hEx) (fs := hFs) (ds := hDs) (b := PySem.W.keepIn K (.ref (xC_BadCounts K))) c 103))
  (case sb_BadCounts => exact of_decide_eq_true (exH (ex := hEx) (fs := hFs) (ds := hDs) (b := decide (PySem.W.subIn K (.ref (xC_BadCounts K)) (.type "BaseException") = some true)) c 104))
  (case ty_BadCounts => exact of_decide_eq_true (exH (ex := hEx) (fs := hFs) (ds := hDs) (b := decide (PySem.W.typeIn K (.ref (xC_BadCounts K)) = some (.type "type"))) c 105))
  (case bi => exact hdV_ok (exH (ex := hEx) (fs := hFs) (ds := hDs) (b := hdV (PySem.W.findCls K (.ref (xC_CallError K)) (.type "type") "__init__") (.builtin "ValueError.__init__")) c 106))
  (case v_LONGEST_NAME => exact htk_LONGEST_NAME)
  (case v_MOST_COUNT => exact htk_MOST_COUNT)
  (case v_MOST_COUNTS => exact htk_MOST_COUNTS)
  (case z_all => exact He.eqO_ok (exH (ex := hEx) (fs := hFs) (ds := hDs) (b := He.eqO (PySem.W.nsIn K mainGlobals "all") (some none)) c 110))
  (case z_any => exact He.eqO_ok (exH (ex := hEx) (fs := hFs) (ds := hDs) (b := He.eqO (PySem.W.nsIn K mainGlobals "any") (some none)) c 111))
  (case z_bool => exact He.eqO_ok (exH (ex := hEx) (fs := hFs) (ds := hDs) (b := He.eqO (PySem.W.nsIn K mainGlobals "bool") (some none)) c 112))
  (case z_enumerate => exact He.eqO_ok (exH (ex := hEx) (fs := hFs) (ds := hDs) (b := He.eqO (PySem.W.nsIn K mainGlobals "enumerate") (some none)) c 113))
  (case z_int => exact He.eqO_ok (exH (ex := hEx) (fs := hFs) (ds := hDs) (b := He.eqO (PySem.W.nsIn K mainGlobals "int") (some none)) c 114))
  (case z_isinstance => exact He.eqO_ok (exH (ex := hEx) (fs := hFs) (ds := hDs) (b := He.eqO (PySem.W.nsIn K mainGlobals "isinstance") (some none)) c 115))
  (case z_len => exact He.eqO_ok (exH (ex := hEx) (fs := hFs) (ds := hDs) (b := He.eqO (PySem.W.nsIn K mainGlobals "len") (some none)) c 116))
  (case z_list => exact He.eqO_ok (exH (ex := hEx) (fs := hFs) (ds := hDs) (b := He.eqO (PySem.W.nsIn K mainGlobals "list") (some none)) c 117))
  (case z_max => exact He.eqO_ok (exH (ex := hEx) (fs := hFs) (ds := hDs) (b := He.eqO (PySem.W.nsIn K mainGlobals "max") (some none)) c 118))
  (case z_min => exact He.eqO_ok (exH (ex := hEx) (fs := hFs) (ds := hDs) (b := He.eqO (PySem.W.nsIn K mainGlobals "min") (some none)) c 119))
  (case z_range => exact He.eqO_ok (exH (ex := hEx) (fs := hFs) (ds := hDs) (b := He.eqO (PySem.W.nsIn K mainGlobals "range") (some none)) c 120))
  (case z_repr => exact He.eqO_ok (exH (ex := hEx) (fs := hFs) (ds := hDs) (b := He.eqO (PySem.W.nsIn K mainGlobals "repr") (some none)) c 121))
  (case z_set => exact He.eqO_ok (exH (ex := hEx) (fs := hFs) (ds := hDs) (b := He.eqO (PySem.W.nsIn K mainGlobals "set") (some none)) c 122))
  (case z_sorted => exact He.eqO_ok (exH (ex := hEx) (fs := hFs) (ds := hDs) (b := He.eqO (PySem.W.nsIn K mainGlobals "sorted") (some none)) c 123))
  (case z_str => exact He.eqO_ok (exH (ex := hEx) (fs := hFs) (ds := hDs) (b := He.eqO (PySem.W.nsIn K mainGlobals "str") (some none)) c 124))
  (case z_tuple => exact He.eqO_ok (exH (ex := hEx) (fs := hFs) (ds := hDs) (b := He.eqO (PySem.W.nsIn K mainGlobals "tuple") (some none)) c 125))
  (case z_zip => exact He.eqO_ok (exH (ex := hEx) (fs := hFs) (ds := hDs) (b := He.eqO (PySem.W.nsIn K mainGlobals "zip") (some none)) c 126))
end K29
open PySem PySem.W PyProof.Rows in
set_option maxRecDepth 100000 in
set_option maxHeartbeats 0 in
theorem PySem.Challenge.cw_callstairs_k29_counts_refused_holds : PySem.Challenge.rw_callstairs_k29_counts_refused.Holds := by
  w_on; o_law
  refine HandSHeadRun.head_any (r := OpenLaw.row PySem.Challenge.rw_callstairs_k29_counts_refused) (q := view (OpenLaw.row PySem.Challenge.rw_callstairs_k29_counts_refused).prog [37]) (H := K29.hHk) (ob := K29.hOb) (M := 9000) (loose := K29.hNm) (d := HandSHeadRun.topDef (OpenLaw.row PySem.Challenge.rw_callstairs_k29_counts_refused).prog 37) (kwd := []) K29.hOb_eq
    (by kernel_rfl) (fun s => by kernel_rfl) K29.hRun (by kernel_rfl) (by kernel_rfl) (by kernel_rfl) (by rfl) (by first | assumption | decide +kernel) (by decide +kernel) ⟨rfl, rfl, rfl, rfl, rfl, by decide +kernel⟩ ?hw ?hc
  case hw => w_witness2
  case hc =>
    refine Mi.walk_ofH (l := PySem.Challenge.rw_callstairs_k29_counts_refused) (k := 8) (x := "_law_script") rfl (by kernel_rfl) ⟨rfl, by decide, by decide⟩ ?F
    intro w mg fa h Y G hmg0
    obtain ⟨K, KX, c⟩ := Y
    have hmg : mg ("law" : PySem.Str) = some (.ref fa) := by
      have e : (HandSHeadRun.topDef (OpenLaw.row PySem.Challenge.rw_callstairs_k29_counts_refused).prog 37).name = ("law" : PySem.Str) := by kernel_rfl
      rw [← e]
      exact hmg0
    obtain ⟨fd, cs, ts, h1, h2, h3, h4⟩ := K29.hFacts (l := PySem.Challenge.rw_callstairs_k29_counts_refused) (qq := view (OpenLaw.row PySem.Challenge.rw_callstairs_k29_counts_refused).prog [37]) (w := w) KX G hmg c
    exact ⟨K, fd, cs, ts, KX, h1, h2, h3, h4⟩
