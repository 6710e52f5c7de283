import PyProof.Rows.All
import Wide.All
import OpenK.AllK
import Wide.FinOn
import HandS.ForMost
import HandS.Flow
import HandS.IsInst
import HandS.Walk
import KE.LtData
import HandS.Wide
import HandS.TupAny
import HandS.Zip
import KE.GoesMore
import HandS.Conv
import HandS.Star
import HandS.ClsMeth
import HandS.Property
import HandS.DictComp
import HandS.More
import HandS.Replace
import HandS.RaiseMore
import HandS.Exc
import HandS.ExcOwn
import HandS.ExcIs
import KE.GoesEnum
import PyProof.TupleOfSeq
import HandS.Steps
import HandS.SlotsOwn
import PyProof.InstNe
import HandS.Lambda
import HandS.ExcInit
import HandS.ExcField
import HandS.Small
import HandS.CallSlots
import KE.KUnpackStar
import KE.KUnpack
import HandS.Style
import HandS.WordsExc
import HandS.EndBits
import HandS.EndTab
import HandS.MakeKwOnly
import HandS.Defaults
import HandS.SortInts
import HandS.TryOnly
import HandS.DeepEq
import KE.KEqDict
import HandS.Strs
import HandS.SetFor
import HandS.StrMore
import HandS.Set
import HandS.Text
import KE.KRevSl
import PyProof.AutoSeq1
import HandS.OwnEq
import KE.DataMinMax
import KE.SortKeyHeap
import HandS.Deep
import KE.KDictZip
import KE.KEqNest
import HandS.ExcValue
import PySem.Challenge.RW_callstairs_k06_errors_apart
import KE.KStateDown
import HandS.Head0
import HandS.Head1
import HandS.Head2
import HandS.HeadHook1
import HandS.HeadHook2
import HandS.HeadHook3
set_option Elab.async false
set_option linter.all false
set_option maxRecDepth 100000
set_option maxHeartbeats 0
namespace Cs
open PySem PySem.Spec L2
theorem same_none {H H' : Hp} (e : Same H H') {l : Addr} (h : H' l = none) : H l = none := e.free h
theorem same_new {H : Hp} {p : Addr} {o : HO} (h : H p = none) : Same H (upd H p o) := fun a u e => by
  rw [upd_ne (ne_of_none e h)]; exact e
structure Grow (M : Addr → Prop) (G H G' H' : Hp) : Prop where
  h : ∀ b o, ¬ M b → H b = some o → H' b = some o
  g : Same G G'
  s : Same G' H'
  n : ∀ b, H b ≠ none → G' b = G b
  m : ∀ b, H b ≠ none → H' b ≠ none
  t : ∀ b ps, G' b = some (.tbl ps) → G b = some (.tbl ps)
  u : ∀ b ps, H' b = some (.tbl ps) → ∃ ps', H b = some (.tbl ps')
abbrev NoM : Addr → Prop := fun _ => False
section
variable {M : Addr → Prop} {G H G1 H1 G2 H2 G' H' : Hp} {p : Addr} {o : HO}
theorem Grow.refl (s : Same G H) : Grow M G H G H := ⟨fun _ _ _ e => e, Same.refl _, s, fun _ _ => rfl, fun _ h => h, fun _ _ h => h, fun _ _ h => ⟨_, h⟩⟩
theorem Grow.trans (a : Grow M G H G1 H1) (b : Grow M G1 H1 G2 H2) : Grow M G H G2 H2 :=
  ⟨fun c o hc e => b.h c o hc (a.h c o hc e), a.g.trans b.g, b.s, fun c hc => (b.n c (a.m c hc)).trans (a.n c hc), fun c hc => b.m c (a.m c hc), fun c ps h => a.t c ps (b.t c ps h), fun c ps h => let ⟨ps', h'⟩ := b.u c ps h; a.u c ps' h'⟩
theorem Grow.any (a : Grow NoM G H G' H') : Grow M G H G' H' := ⟨fun c o _ e => a.h c o (fun z => z) e, a.g, a.s, a.n, a.m, a.t, a.u⟩
theorem Grow.same (a : Grow NoM G H G' H') : Same H H' := fun c o e => a.h c o (fun z => z) e
theorem Grow.new (s : Same G H) (hp : H p = none) (no : ∀ ps, o ≠ .tbl ps := by intro _ z; cases z) : Grow M G H (upd G p o) (upd H p o) := by
  have gp : G p = none := same_none s hp
  refine ⟨fun b u _ e => same_new hp b u e, same_new gp, fun b u e => ?_, fun b hb => ?_, fun b hb => ?_, fun b ps e => ?_, fun b ps e => ?_⟩
  rotate_left 4
  · by_cases c : b = p
    · subst c; rw [upd_same] at e; exact absurd (Option.some.inj e) (no ps)
    · rw [upd_ne c] at e; exact ⟨_, e⟩
  rotate_left 3
  · by_cases c : b = p
    · subst c; rw [upd_same] at e; exact absurd (Option.some.inj e) (no ps)
    · rw [upd_ne c] at e; exact e
  · by_cases c : b = p
    · subst c; rw [upd_same] at e ⊢; exact e
    · rw [upd_ne c] at e ⊢; exact s b u e
  · exact upd_ne (fun z => hb (by rw [z]; exact hp))
  · rw [upd_ne (fun z => hb (by rw [z]; exact hp))]; exact hb
theorem Grow.own (s : Same G H) (hp : H p = none) (no : ∀ ps, o ≠ .tbl ps := by intro _ z; cases z) : Grow M G H G (upd H p o) :=
  ⟨fun b u _ e => same_new hp b u e, Same.refl _, s.trans (same_new hp), fun _ _ => rfl, fun b hb => by
    rw [upd_ne (fun z => hb (by rw [z]; exact hp))]; exact hb, fun _ _ h => h, fun b ps e => by
    by_cases c : b = p
    · subst c; rw [upd_same] at e; exact absurd (Option.some.inj e) (no ps)
    · rw [upd_ne c] at e; exact ⟨_, e⟩⟩
theorem Grow.put (a : Grow M G H G' H') (hp : H p = none ∨ M p) (gp : G' p = none) (no : ∀ ps, o ≠ .tbl ps := by intro _ z; cases z) : Grow M G H G' (upd H' p o) := by
  refine ⟨fun b u hb e => ?_, a.g, fun b u e => ?_, a.n, fun b hb => ?_, a.t, fun b ps e => by
    by_cases c : b = p
    · subst c; rw [upd_same] at e; exact absurd (Option.some.inj e) (no ps)
    · rw [upd_ne c] at e; exact a.u b ps e⟩
  · rcases hp with hp | hp
    · rw [upd_ne (ne_of_none e hp)]; exact a.h b u hb e
    · rw [upd_ne (fun z => hb (by rw [z]; exact hp))]; exact a.h b u hb e
  · rw [upd_ne (ne_of_none e gp)]; exact a.s b u e
  · by_cases c : b = p
    · subst c; rw [upd_same]; exact fun z => by cases z
    · rw [upd_ne c]; exact a.m b hb
theorem Grow.freeze (a : Grow M G H G' H') (hp : H p = none) (gp : G' p = none) (e : H' p = some o) (no : ∀ ps, o ≠ .tbl ps := by intro _ z; cases z) : Grow M G H (upd G' p o) H' := by
  refine ⟨a.h, a.g.trans (same_new gp), fun b u q => ?_, fun b hb => ?_, a.m, fun b ps q => ?_, a.u⟩
  rotate_left 2
  · by_cases c : b = p
    · subst c; rw [upd_same] at q; exact absurd (Option.some.inj q) (no ps)
    · rw [upd_ne c] at q; exact a.t b ps q
  · by_cases c : b = p
    · subst c; rw [upd_same] at q; rw [e]; exact q
    · rw [upd_ne c] at q; exact a.s b u q
  · rw [upd_ne (fun z => hb (by rw [z]; exact hp))]; exact a.n b hb
theorem Grow.fresh (a : Grow M G H G' H') (hp : H' p = none) : H p = none := by
  cases e : H p with
  | none => rfl
  | some u => exact absurd hp (a.m p (by rw [e]; exact fun z => by cases z))
theorem Grow.base (a : Grow M G H G' H') (e1 : Same G G1) (s1 : Same G1 H) (hm : ∀ b, M b → G1 b = none) : ∃ G2, Grow M G1 H G2 H' ∧ Same G' G2 := by
  refine ⟨fun b => if G1 b = none then G' b else G1 b, ⟨a.h, fun b u q => ?_, fun b u q => ?_, fun b hb => ?_, a.m, fun b ps q => ?_, a.u⟩, fun b u q => ?_⟩
  rotate_left 3
  · by_cases c : G1 b = none
    · rw [if_pos c] at q
      exact e1 _ _ (a.t b ps q)
    · rw [if_neg c] at q; exact q
  rotate_right 3
  · rw [if_neg (by rw [q]; exact fun z => by cases z)]; exact q
  · by_cases c : G1 b = none
    · rw [if_pos c] at q; exact a.s b u q
    · rw [if_neg c] at q
      exact a.h b u (fun z => c (hm b z)) (s1 b u q)
  · by_cases c : G1 b = none
    · rw [if_pos c, a.n b hb, c]
      exact same_none e1 c
    · rw [if_neg c]
  · by_cases c : G1 b = none
    · show (if G1 b = none then G' b else G1 b) = some u
      rw [if_pos c]; exact q
    · show (if G1 b = none then G' b else G1 b) = some u
      rw [if_neg c]
      have hb : H b ≠ none := fun z => c (same_none s1 z)
      have q2 : G b = some u := by rw [← a.n b hb]; exact q
      exact e1 b u q2
end
def keyD : Key → PyData
  | .inl i => .int i
  | .inr x => .str x
def dctD (ks : List Key) (ds : List PyData) : List (PyData × PyData) := List.zipWith (fun k d => (keyD k, d)) ks ds
def kvL (ks : List Key) (xs : List V) : List (Key × V) := List.zipWith (fun k x => (k, x)) ks xs
mutual
inductive Dp (K : PySem.W.Frag) (H : Hp) : V → PyData → Prop
  | non : Dp K H .non .none
  | bl (b : Bool) : Dp K H (.bl b) (.bool b)
  | int (i : Int) : Dp K H (.int i) (.int i)
  | str (x : Str) : Dp K H (.str x) (.str x)
  | lst {a : Addr} {xs : List V} {ds : List PyData} : SqL K H a xs → DpAll K H xs ds → Dp K H (.ref a) (.list ds)
  | tup {a : Addr} {xs : List V} {ds : List PyData} : SqT K H a xs → DpAll K H xs ds → Dp K H (.ref a) (.tuple ds)
  | dct {a : Addr} {ks : List Key} {xs : List V} {ds : List PyData} : Rd H a (.dK (kvL ks xs)) → ks.length = xs.length → ks.Nodup → DpAll K H xs ds → Dp K H (.ref a) (.dict (dctD ks ds))
inductive DpAll (K : PySem.W.Frag) (H : Hp) : List V → List PyData → Prop
  | nil : DpAll K H [] []
  | cons {v : V} {vs : List V} {d : PyData} {ds : List PyData} : Dp K H v d → DpAll K H vs ds → DpAll K H (v :: vs) (d :: ds)
end
mutual
theorem Dp.old {K : PySem.W.Frag} {H : Hp} : ∀ (d : PyData) (v : V), d.hasDict = false → Dp K H v d → L2.Dp K H v d
  | .none, _, _, h => by cases h; exact .non
  | .bool b, _, _, h => by cases h; exact .bl b
  | .int i, _, _, h => by cases h; exact .int i
  | .str x, _, _, h => by cases h; exact .str x
  | .list ds, _, n, h => by
    cases h with
    | lst hs ha => exact .lst hs (DpAll.old ds _ (by simpa only [PyData.hasDict] using n) ha)
  | .tuple ds, _, n, h => by
    cases h with
    | tup hs ha => exact .tup hs (DpAll.old ds _ (by simpa only [PyData.hasDict] using n) ha)
  | .dict _, _, n, h => by simp [PyData.hasDict] at n
theorem DpAll.old {K : PySem.W.Frag} {H : Hp} : ∀ (ds : List PyData) (vs : List V), PyData.hasDictAll ds = false → DpAll K H vs ds → L2.DpAll K H vs ds
  | [], _, _, h => by cases h; exact .nil
  | d :: ds, _, n, h => by
    have n' : (d.hasDict || PyData.hasDictAll ds) = false := by simpa only [PyData.hasDictAll] using n
    have n2 := Bool.or_eq_false_iff.mp n'
    cases h with
    | cons h1 h2 => exact .cons (Dp.old d _ n2.1 h1) (DpAll.old ds _ n2.2 h2)
end
theorem noDict_shaped {d : PyData} (h : SeqAt.shaped d = true) : d.hasDict = false := by
  refine PyData.hasDict_of_canLay d ?_
  unfold SeqAt.shaped at h
  simp only [Bool.and_eq_true] at h
  exact h.1
abbrev Rp := Hp → V → Prop
def Mono (R : Rp) : Prop := ∀ G G' v, Same G G' → R G v → R G' v
section
variable {K : PySem.W.Frag}
theorem sql_mono {G G' : Hp} {a : Addr} {xs : List V} (e : Same G G') (h : SqL K G a xs) : SqL K G' a xs := e.seq h
theorem sqt_mono {G G' : Hp} {a : Addr} {xs : List V} (e : Same G G') (h : SqT K G a xs) : SqT K G' a xs := by
  rcases h with (h | ⟨o, h⟩) | h
  · exact .inl (.inl (e _ _ h))
  · exact .inl (.inr ⟨o, e _ _ h⟩)
  · exact .inr h
theorem rd_same {G G' : Hp} {a : Addr} {u : HO} (e : Same G G') (h : Rd G a u) : Rd G' a u := by
  rcases h with h | ⟨o, h⟩
  · exact .inl (e _ _ h)
  · exact .inr ⟨o, e _ _ h⟩
mutual
theorem dp_monoI {G G' : Hp} (e : Same G G') : ∀ {d : PyData} {v : V}, Dp K G v d → Dp K G' v d
  | _, _, .non => .non
  | _, _, .bl b => .bl b
  | _, _, .int i => .int i
  | _, _, .str x => .str x
  | _, _, .lst hs ha => .lst (sql_mono e hs) (dpa_monoI e ha)
  | _, _, .tup hs ha => .tup (sqt_mono e hs) (dpa_monoI e ha)
  | _, _, .dct hr hl hn ha => .dct (rd_same e hr) hl hn (dpa_monoI e ha)
theorem dpa_monoI {G G' : Hp} (e : Same G G') : ∀ {ds : List PyData} {vs : List V}, DpAll K G vs ds → DpAll K G' vs ds
  | _, _, .nil => .nil
  | _, _, .cons h1 h2 => .cons (dp_monoI e h1) (dpa_monoI e h2)
end
theorem dp_mono {G G' : Hp} (e : Same G G') (d : PyData) (v : V) (h : Dp K G v d) : Dp K G' v d := dp_monoI e h
theorem dpa_mono {G G' : Hp} (e : Same G G') (ds : List PyData) (vs : List V) (h : DpAll K G vs ds) : DpAll K G' vs ds := dpa_monoI e h
theorem dpa_len {G : Hp} : ∀ {vs : List V} {ds : List PyData}, DpAll K G vs ds → vs.length = ds.length
  | _, _, .nil => rfl
  | _, _, .cons _ t => congrArg (· + 1) (dpa_len t)
theorem dpa_get {G : Hp} : ∀ {vs : List V} {ds : List PyData} {i : Nat} {d : PyData}, DpAll K G vs ds → ds[i]? = some d → ∃ v, vs[i]? = some v ∧ Dp K G v d
  | _, _, _, _, .nil, e => by simp at e
  | _, _, 0, _, .cons h _, e => by
    have e' := Option.some.inj e
    subst e'
    exact ⟨_, rfl, h⟩
  | _, _, i + 1, d, .cons _ t, e => dpa_get (i := i) t e
theorem dpa_getV {G : Hp} : ∀ {vs : List V} {ds : List PyData} {i : Nat} {v : V}, DpAll K G vs ds → vs[i]? = some v → ∃ d, ds[i]? = some d ∧ Dp K G v d
  | _, _, _, _, .nil, e => by simp at e
  | _, _, 0, _, .cons h _, e => by
    have e' := Option.some.inj e
    subst e'
    exact ⟨_, rfl, h⟩
  | _, _, i + 1, d, .cons _ t, e => dpa_getV (i := i) t e
theorem dpa_app {G : Hp} : ∀ {vs ws : List V} {ds es : List PyData}, DpAll K G vs ds → DpAll K G ws es → DpAll K G (vs ++ ws) (ds ++ es)
  | _, _, _, _, .nil, h => h
  | _, _, _, _, .cons h t, k => .cons h (dpa_app t k)
theorem dpa_take {G : Hp} : ∀ {vs : List V} {ds : List PyData} (n : Nat), DpAll K G vs ds → DpAll K G (vs.take n) (ds.take n)
  | _, _, 0, _ => .nil
  | _, _, _ + 1, .nil => .nil
  | _, _, n + 1, .cons h t => .cons h (dpa_take n t)
theorem dpa_drop {G : Hp} : ∀ {vs : List V} {ds : List PyData} (n : Nat), DpAll K G vs ds → DpAll K G (vs.drop n) (ds.drop n)
  | _, _, 0, h => h
  | _, _, _ + 1, .nil => .nil
  | _, _, n + 1, .cons _ t => dpa_drop n t
end
def EvP (te : TE) (σ : L2.St) (G : Hp) (R : Rp) : Prop := ∀ H, Same G H → ∀ Q : VK, (∀ v G' H', Grow NoM G H G' H' → R G' v → Q v H') → te σ H Q
def EvT (tt : TT) (σ : L2.St) (G : Hp) (b : Bool) : Prop := ∀ H, Same G H → ∀ Q : Bool → Hp → Prop, (∀ G' H', Grow NoM G H G' H' → Q b H') → tt σ H Q
abbrev RD (K : PySem.W.Frag) (d : PyData) : Rp := fun G v => Dp K G v d
abbrev Ev (K : PySem.W.Frag) (te : TE) (σ : L2.St) (G : Hp) (d : PyData) : Prop := EvP te σ G (RD K d)
abbrev I (i : Int) : PyData := .int i
abbrev S (s : Str) : PyData := .str s
abbrev B (b : Bool) : PyData := .bool b
abbrev T (ds : List PyData) : PyData := .tuple ds
abbrev L (ds : List PyData) : PyData := .list ds
section
variable {K : PySem.W.Frag} {σ : L2.St} {G G1 H : Hp} {b : Bool} {ta tb tc te : TE} {t u : TT} {tA : TA} {R R' X Y Z : Rp} {r r' : R2} {v : V} {i : Nat}
theorem EvP.mono (hR : Mono R) (e : Same G G1) (h : EvP te σ G R) : EvP te σ G1 R := fun H s Q q =>
  h H (e.trans s) Q fun v G' H' g r => by
    obtain ⟨G2, g2, s2⟩ := g.base e s (fun _ z => z.elim)
    exact q v G2 H' g2 (hR _ _ _ s2 r)
theorem EvT.mono {b : Bool} (e : Same G G1) (h : EvT t σ G b) : EvT t σ G1 b := fun H s Q q =>
  h H (e.trans s) Q fun G' H' g => by
    obtain ⟨G2, g2, s2⟩ := g.base e s (fun _ z => z.elim)
    exact q G2 H' g2
theorem EvP.imp (h : EvP te σ G R) (f : ∀ G v, R G v → R' G v) : EvP te σ G R' := fun H s Q q => h H s Q fun v G' H' g r => q v G' H' g (f _ _ r)
theorem EvP.to {d d' : PyData} (h : Ev K te σ G d) (e : d = d') : Ev K te σ G d' := e ▸ h
theorem EvT.to {b b' : Bool} (h : EvT t σ G b) (e : b = b') : EvT t σ G b' := e ▸ h
theorem atI_map {α β : Type} {xs : List α} {ys : List β} {i : Int} {y : β} (hl : xs.length = ys.length) (h : atI ys i = some y) : ∃ j : Nat, ys[j]? = some y ∧ ∀ x, xs[j]? = some x → atI xs i = some x := by
  unfold atI at h ⊢
  rw [hl]
  cases e : ixN ys.length i with
  | none => rw [e] at h; cases h
  | some j =>
    rw [e] at h
    exact ⟨j, h, fun x hx => hx⟩
end
end Cs
namespace Cs
open PySem PySem.Spec L2
section
variable {K : PySem.W.Frag} {σ : L2.St} {M : Addr → Prop} {G G0 G1 H H0 H1 : Hp} {b : Bool} {ta tb tc te : TE} {t u : TT} {tA : TA} {R R' X Y Z : Rp} {r r' : R2} {v : V} {i : Nat} {D : Ends} {Q : VK} {ts tS : TS} {d : PyData}
end
end Cs
namespace Cs
open PySem PySem.Spec L2
section
variable {X : Cx} {f : Value → Value → Sem Value} {r1 r2 : R2}
theorem opr_or (h1 : OpR X f r1) (h2 : OpR X f r2) : OpR X f (fun x y H Q => r1 x y H Q ∨ r2 x y H Q) := by
  intro pins s σ H x y v u Q I rx ry h
  rcases h with h | h
  · exact h1 pins s σ H x y v u Q I rx ry h
  · exact h2 pins s σ H x y v u Q I rx ry h
def rAddI : R2 := rI0 fun i j => .int (i + j)
def rAddS : R2 := fun x y H Q => ∃ i j, x = .str i ∧ y = .str j ∧ i.length + j.length ≤ sizeLine ∧ Q (.str (i ++ j)) H
def rCatQ (K : PySem.W.Frag) : R2 := fun x y H Q => ∃ l b xs zs, x = .ref l ∧ y = .ref b ∧ SqL K H l xs ∧ SqL K H b zs ∧ xs.length + zs.length ≤ sizeLine ∧ ∀ p, H p = none → Q (.ref p) (upd H p (.lst (xs ++ zs)))
theorem op_catQ : OpR X (binaryOp .Add) (rCatQ X.K) := by
  intro pins s σ H x y v u Q I rx ry h
  obtain ⟨l, b, xs, zs, rfl, rfl, hH, hB, hz, q⟩ := h
  cases rx
  cases ry
  obtain ⟨its, r, p1, _⟩ := I.list hH
  obtain ⟨its2, r2, p2, _⟩ := I.list hB
  obtain ⟨⟨cls, dd, data, sl⟩, ho, hc, n, hd⟩ := p1.isList
  obtain ⟨⟨cls2, dd2, data2, sl2⟩, ho2, hc2, n2, hd2⟩ := p2.isList
  simp only at hc hd hc2 hd2
  subst hc hd hc2 hd2
  have e : its.toArray ++ its2.toArray = (its ++ its2).toArray := by simp
  have l1 := r.length
  have l2 := r2.length
  refine concat_meets ⟨_, ho, rfl⟩ ⟨_, ho2, rfl⟩ noFill_list_add seq_list_add PySem.F.slot_list_add PySem.F.entry_list_add (PySem.F.args_list_add_2 _ _) (PyProof.Rows.list_addW l b its.toArray its2.toArray n n2 dd dd2 sl sl2 (by simp only [List.size_toArray]; omega)) ⟨ho, ho2, ?_⟩
  rw [e]
  exact ⟨.ref _, _, I.lnew (t' := s.toks) (r.append r2) (by rw [List.length_append]; omega), rfl, q _ I.fresh⟩
def rAddD (K : PySem.W.Frag) : R2 := fun x y H Q => rAddI x y H Q ∨ (rAddS x y H Q ∨ (rCatQ K x y H Q ∨ rCatA K x y H Q))
theorem op_addD : OpR X (binaryOp .Add) (rAddD X.K) := opr_or op_add (opr_or op_add_str (opr_or op_catQ op_catA))
def CPowW (i j : Int) : Prop := 0 ≤ j ∧ ((i.natAbs.log2 + 1 : Nat) : Int) * j ≤ 2 ^ 27
theorem op_powW : OpR X (binaryOp .Pow) (rI CPowW fun i j => .int (i ^ j.toNat)) := opI fun i j _ _ _ _ _ hc q => by
  refine PyProof.Rows.pow_int hc.1 ?_ q
  have b : Builtin.Int.intBits i ≤ i.natAbs.log2 + 1 := by
    unfold Builtin.Int.intBits
    split <;> omega
  have h1 : ((Builtin.Int.intBits i : Nat) : Int) ≤ ((i.natAbs.log2 + 1 : Nat) : Int) := Int.ofNat_le.mpr b
  exact Int.le_trans (Int.mul_le_mul_of_nonneg_right h1 hc.1) hc.2
def rMulI : R2 := rI CMulW fun i j => .int (i * j)
def rMulD : R2 := fun x y H Q => rMulI x y H Q ∨ rRep x y H Q
theorem op_mulD : OpR X (binaryOp .Mult) rMulD := opr_or op_mulW op_rep
theorem slr_or {r r' : V → Option Int → Option Int → Hp → VK → Prop} (h1 : SlR X r) (h2 : SlR X r') : SlR X (fun x lo hi H Q => r x lo hi H Q ∨ r' x lo hi H Q) := by
  intro pins s σ H x v vl vu lo hi sl Q I rx hs pl pu h
  rcases h with h | h
  · exact h1 pins s σ H x v vl vu lo hi sl Q I rx hs pl pu h
  · exact h2 pins s σ H x v vl vu lo hi sl Q I rx hs pl pu h
def rSlD (K : PySem.W.Frag) : V → Option Int → Option Int → Hp → VK → Prop := fun x lo hi H Q => rSlL K x lo hi H Q ∨ (rSlA K x lo hi H Q ∨ rSlS x lo hi H Q)
theorem sl_D : SlR X (rSlD X.K) := slr_or sl_list (slr_or sl_tupA sl_str)
def rLenD (K : PySem.W.Frag) : List V → Hp → VK → Prop := fun xs H Q => ∃ x n, xs = [x] ∧ LenV K x H n ∧ Q (.int n) H
theorem call_lenX : CallR X (.builtin "len") (rLenD X.K) := call_len
def rSubI : R2 := rI0 fun i j => .int (i - j)
def rModI : R2 := rI (fun _ j => j ≠ 0) fun i j => .int (i.fmod j)
def rDivI : R2 := rI CDivN fun i j => .int (i.fdiv j)
def rPowI : R2 := rI CPowW fun i j => .int (i ^ j.toNat)
def rGtI : R2 := rI0 fun i j => .bl (decide (j < i))
def rMax2 : List V → Hp → VK → Prop := fun xs H Q => ∃ i j, xs = [.int i, .int j] ∧ Q (.int (if j > i then j else i)) H
theorem call_max2X (hc : X.calm = true) : CallR X (.builtin "max") rMax2 := call_max2 hc
end
section
variable {K : PySem.W.Frag} {σ : L2.St} {G G1 H : Hp} {b : Bool} {ta tb tc te : TE} {t u : TT} {tA : TA} {X Y Z : Rp} {d d' : PyData}
def EvO (to : TO) (σ : L2.St) (G : Hp) (o : Option Int) : Prop := ∀ H, Same G H → ∀ Q : Option Int → Hp → Prop, (∀ G' H', Grow NoM G H G' H' → Q o H') → to σ H Q
theorem EvO.mono {to : TO} {o : Option Int} (e : Same G G1) (h : EvO to σ G o) : EvO to σ G1 o := fun H s Q q => h H (e.trans s) Q fun G' H' g => by
  obtain ⟨G2, g2, _⟩ := g.base e s (fun _ z => z.elim)
  exact q G2 H' g2
end
end Cs
namespace Cs
open PySem PySem.Spec L2
def LIM : Nat := 1000000
def StAt (a : Addr) (c : Nat) (H : Hp) : Prop := ∃ x y z : Int, H a = some (.lst [.int x, .int y, .int z]) ∧ 0 ≤ z ∧ z ≤ (c : Int)
abbrev At1 (a : Addr) : Addr → Prop := fun b => b = a
section
variable {K : PySem.W.Frag} {σ : L2.St} {M : Addr → Prop} {a : Addr} {c k k1 k2 n : Nat} {G G0 G1 H H0 H1 G' H' : Hp} {b : Bool} {ta tb tc te : TE} {t u : TT} {tA : TA} {R R' X Y Z : Rp} {r r' : R2} {v : V} {i : Nat} {D : Ends} {Q : VK} {ts tS : TS} {d : PyData}
theorem StAt.mono (h : StAt a c H) (e : c ≤ n) : StAt a n H := by
  obtain ⟨x, y, z, h1, h2, h3⟩ := h
  exact ⟨x, y, z, h1, h2, by omega⟩
theorem StAt.at (h : StAt a c H) (e : ∀ o, H a = some o → H' a = some o) : StAt a c H' := by
  obtain ⟨x, y, z, h1, h2, h3⟩ := h
  exact ⟨x, y, z, e _ h1, h2, h3⟩
theorem StAt.some (h : StAt a c H) : H a ≠ none := by
  obtain ⟨x, y, z, h1, _⟩ := h
  rw [h1]
  exact fun z => by cases z
theorem StAt.keep (h : StAt a c H) (g : Grow NoM G H G' H') : StAt a c H' := h.at fun o e => g.same _ _ e
theorem Grow.none (g : Grow M G H G' H') (ha : H a ≠ none) (ga : G a = none) : G' a = none := (g.n a ha).trans ga
def EvS (a : Addr) (k : Nat) (te : TE) (σ : L2.St) (G : Hp) (R : Rp) : Prop := ∀ H c, Same G H → G a = none → StAt a c H → c + k ≤ LIM → ∀ Q : VK, (∀ v G' H', Grow (At1 a) G H G' H' → StAt a (c + k) H' → R G' v → Q v H') → te σ H Q
theorem EvS.mono (hR : Mono R) (e : Same G G1) (h : EvS a k te σ G R) : EvS a k te σ G1 R := fun H c s ga sa hl Q q =>
  h H c (e.trans s) (same_none e ga) sa hl Q fun v G' H' g s2 r => by
    obtain ⟨G2, g2, s3⟩ := g.base e s (fun b z => by rw [z]; exact ga)
    exact q v G2 H' g2 s2 (hR _ _ _ s3 r)
theorem EvS.imp (h : EvS a k te σ G R) (f : ∀ G v, R G v → R' G v) : EvS a k te σ G R' := fun H c s ga sa hl Q q => h H c s ga sa hl Q fun v G' H' g s2 r => q v G' H' g s2 (f _ _ r)
end
end Cs
namespace Cs
open PySem PySem.Spec L2
section
variable {K : PySem.W.Frag} {H : Hp} {Q : VK} {E : XK} {vs : List V}
theorem mulW_of {i j : Int} {a b : Nat} (ha : i.natAbs < 2 ^ a) (hb : j.natAbs < 2 ^ b) (h0 : 0 < a) (h1 : 0 < b) (h : a + b ≤ 1000000) : CMulW i j := wide_mul ha hb h0 h1 h
theorem fmod_lt {a b : Int} (h : 0 < b) : 0 ≤ a.fmod b ∧ a.fmod b < b := by
  rw [Int.fmod_eq_emod_of_nonneg a (Int.le_of_lt h)]
  exact ⟨Int.emod_nonneg a (by omega), Int.emod_lt_of_pos a h⟩
end
end Cs
namespace Cs
open PySem PySem.Spec L2
def Shp (n : Nat) (d : PyData) : Prop := PyData.canLay0 d = true ∧ PyData.depth d ≤ n
theorem Shp.shaped {n : Nat} {d : PyData} (h : Shp n d) (hn : n ≤ 64) : SeqAt.shaped d = true := by
  unfold SeqAt.shaped
  rw [h.1, decide_eq_true (Nat.le_trans h.2 hn)]
  rfl
theorem Shp.mono {m n : Nat} {d : PyData} (h : Shp m d) (e : m ≤ n) : Shp n d := ⟨h.1, Nat.le_trans h.2 e⟩
section
variable {K : PySem.W.Frag} {H : Hp} {Q : VK} {E : XK} {vs : List V}
end
end Cs
namespace Cs
open PySem PySem.Spec L2
section
variable {K : PySem.W.Frag} {σ : L2.St} {a : Addr} {c k : Nat} {G H : Hp} {Q : VK} {E : XK} {vs : List V} {ta te : TE} {tA : TA} {tl th : TO} {lo hi : Option Int} {R : Rp}
end
end Cs
namespace Cs
open PySem PySem.Spec L2
end Cs
namespace Cs
open PySem PySem.Spec L2
section
variable {K : PySem.W.Frag} {σ : L2.St} {G H : Hp} {Q : VK} {E : XK} {vs : List V} {ta tb : TE}
end
end Cs
namespace Cs
open PySem PySem.Spec L2
abbrev names (ws : List Str) : PyData := .tuple (ws.map PyData.str)
section
variable {K : PySem.W.Frag} {σ : L2.St} {G H : Hp} {Q : VK} {E : XK} {vs : List V} {ta tb : TE}
end
end Cs
namespace Cs
open PySem PySem.Spec L2
section
variable {prog : Program} {w : World} {A : Around} {E : Value → Shared → Prop} {s : Shared} {r d : Addr} {n : Nat} {P : Nat → Value → Prop} {OK : Heap → Prop}
end
end Cs
namespace Cs
open PySem PySem.Spec L2
theorem pi_or {X : Cx} {tg e : Expr} {w1 w2 : TI} (h1 : PI X tg e w1) (h2 : PI X tg e w2) : PI X tg e (fun σ H R => w1 σ H R ∨ w2 σ H R) := by
  refine ⟨fun pins s σ H R I h => ?_⟩
  rcases h with h | h
  · exact h1.run pins s σ H R I h
  · exact h2.run pins s σ H R I h
def iAny (K : PySem.W.Frag) (te : TE) : TI := fun σ H R => iList K te σ H R ∨ (iTup K te σ H R ∨ iStr te σ H R)
theorem pi_any {X : Cx} {tg e : Expr} {te : TE} (h : PE X e te) : PI X tg e (iAny X.K te) := pi_or (pi_list h) (pi_or (pi_tup h) (pi_str h))
section
variable {K : PySem.W.Frag} {σ : L2.St} {G G' H : Hp} {Q : VK} {E : XK} {vs : List V} {ta tb tc te : TE} {tA : TA} {d x y z : PyData} {v : V}
end
end Cs
namespace Cs
open PySem PySem.Spec L2
section
variable {K : PySem.W.Frag} {σ : L2.St} {M : Addr → Prop} {G G' G1 G0 H0 H H' H1 : Hp} {Q : VK} {E : XK} {vs : List V} {ta tb tc te tk tv td ty : TE} {tA : TA} {t : TT} {d x y z : PyData} {v : V} {a : Addr} {R : Rp}
def kvsOf (ks : List Str) (vs : List V) : List (Key × V) := List.zipWith (fun k v => ((Sum.inr k : Key), v)) ks vs
def DctRd (K : PySem.W.Frag) (G : Hp) (a : Addr) (ks : List Str) (ds : List PyData) : Prop := ∃ vs, Rd G a (.dK (kvsOf ks vs)) ∧ DpAll K G vs ds ∧ ks.length = ds.length ∧ ks.Nodup
def DctAt (K : PySem.W.Frag) (G : Hp) (a : Addr) (ks : List Str) (ds : List PyData) : Prop := ∃ vs, G a = some (.dK (kvsOf ks vs)) ∧ DpAll K G vs ds ∧ ks.length = ds.length ∧ ks.Nodup
theorem DctAt.rd {ks : List Str} {ds : List PyData} (h : DctAt K G a ks ds) : DctRd K G a ks ds := let ⟨vs, h1, h2⟩ := h; ⟨vs, .inl h1, h2⟩
theorem DctAt.mono {ks : List Str} {ds : List PyData} (e : Same G G') (h : DctAt K G a ks ds) : DctAt K G' a ks ds := let ⟨vs, h1, h2, h3⟩ := h; ⟨vs, e _ _ h1, dpa_mono e _ _ h2, h3⟩
theorem DctRd.mono {ks : List Str} {ds : List PyData} (e : Same G G') (h : DctRd K G a ks ds) : DctRd K G' a ks ds := let ⟨vs, h1, h2, h3⟩ := h; ⟨vs, rd_same e h1, dpa_mono e _ _ h2, h3⟩
def noSeq (o : Option HO) : Prop := ∀ xs, o ≠ some (.lst xs) ∧ o ≠ some (.tup xs) ∧ (∀ f, o ≠ some (.frz f (.lst xs))) ∧ ∀ f, o ≠ some (.frz f (.tup xs))
mutual
theorem dp_butI (e : ∀ b, b ≠ a → G' b = G b) (n : noSeq (G a)) (nd : ∀ kvs, Rd G a (.dK kvs) → Rd G' a (.dK kvs)) : ∀ {d : PyData} {v : V}, Dp K G v d → Dp K G' v d
  | _, _, .non => .non
  | _, _, .bl b => .bl b
  | _, _, .int i => .int i
  | _, _, .str x => .str x
  | _, _, .lst (a := b) (xs := xs) hs ha => by
      refine .lst ?_ (dpa_butI e n nd ha)
      rcases hs with (q | ⟨o, q⟩) | q
      · have ne : b ≠ a := fun z => (n xs).1 (by rw [← z]; exact q)
        exact .inl (.inl ((e b ne).trans q))
      · have ne : b ≠ a := fun z => (n xs).2.2.1 o (by rw [← z]; exact q)
        exact .inl (.inr ⟨o, (e b ne).trans q⟩)
      · exact .inr q
  | _, _, .tup (a := b) (xs := xs) hs ha => by
      refine .tup ?_ (dpa_butI e n nd ha)
      rcases hs with (q | ⟨o, q⟩) | q
      · have ne : b ≠ a := fun z => (n xs).2.1 (by rw [← z]; exact q)
        exact .inl (.inl ((e b ne).trans q))
      · have ne : b ≠ a := fun z => (n xs).2.2.2 o (by rw [← z]; exact q)
        exact .inl (.inr ⟨o, (e b ne).trans q⟩)
      · exact .inr q
  | _, _, .dct (a := b) hr hl hn ha => by
      refine .dct ?_ hl hn (dpa_butI e n nd ha)
      by_cases c : b = a
      · subst c; exact nd _ hr
      · rcases hr with q | ⟨o, q⟩
        · exact .inl ((e b c).trans q)
        · exact .inr ⟨o, (e b c).trans q⟩
theorem dpa_butI (e : ∀ b, b ≠ a → G' b = G b) (n : noSeq (G a)) (nd : ∀ kvs, Rd G a (.dK kvs) → Rd G' a (.dK kvs)) : ∀ {ds : List PyData} {vs : List V}, DpAll K G vs ds → DpAll K G' vs ds
  | _, _, .nil => .nil
  | _, _, .cons h1 h2 => .cons (dp_butI e n nd h1) (dpa_butI e n nd h2)
end
end
end Cs
namespace Cs
open PySem PySem.Spec L2
section
variable {K : PySem.W.Frag} {σ : L2.St} {M : Addr → Prop} {G G' G1 G0 H0 H H' H1 : Hp} {Q : VK} {E : XK} {vs : List V} {ta tb tc te tk tv td ty : TE} {tA : TA} {t : TT} {d x y z : PyData} {v : V} {a : Addr} {R : Rp}
section
variable {J : It} {n : Nat} {Gd : Hp → Prop} {Y : Nat → Hp → V → Hp → Prop}
end
def SortOf (ks ys : List Str) : Prop := ys.Perm ks ∧ PyProof.Rows.sortedS ys = true
end
end Cs
namespace Cs
open PySem PySem.Spec L2
section
variable {K : PySem.W.Frag} {C : Addr} {σ : L2.St} {M : Addr → Prop} {G G' G1 G0 H0 H H' H1 : Hp} {Q : VK} {E : XK} {vs : List V} {ta tb tc te tk tv td ty : TE} {tA : TA} {t : TT} {d x y z : PyData} {v : V} {a : Addr} {R : Rp}
def cf (t d : V) : List (Str × V) := [("kept_given", t), ("kept_named", d)]
def CallAt (K : PySem.W.Frag) (C : Addr) (G : Hp) (v : V) (ds : List PyData) (ks : List Str) (es : List PyData) : Prop := ∃ x dx t d, v = .ref x ∧ G x = some (.ins C dx (cf t (.ref d))) ∧ Dp K G t (.tuple ds) ∧ DctAt K G d ks es
theorem CallAt.mono {ds es : List PyData} {ks : List Str} (e : Same G G') (h : CallAt K C G v ds ks es) : CallAt K C G' v ds ks es := by
  obtain ⟨x, dx, t, d, h1, h2, h3, h4⟩ := h
  exact ⟨x, dx, t, d, h1, e _ _ h2, dp_mono e _ _ h3, h4.mono e⟩
end
end Cs
namespace Cs
open PySem PySem.Spec L2
section
variable {K : PySem.W.Frag} {C : Addr} {σ : L2.St} {M : Addr → Prop} {G G' G1 G0 H0 H H' H1 : Hp} {Q : VK} {E : XK} {vs : List V} {ta tb tc te tk tv td ty : TE} {tA : TA} {t : TT} {d x y z : PyData} {v : V} {a : Addr} {R R' Z : Rp} {k k1 k2 : Nat}
end
end Cs
namespace Cs
open PySem PySem.Spec L2
section
variable {K : PySem.W.Frag} {C : Addr} {σ : L2.St} {M : Addr → Prop} {G G' G1 G0 H0 H H' H1 : Hp} {Q : VK} {E : XK} {vs : List V} {ta tb tc te tk tv td ty : TE} {tA : TA} {t : TT} {d x y z : PyData} {v : V} {a : Addr} {R R' Z : Rp} {k k1 k2 : Nat}
end
end Cs
namespace Cs
open PySem PySem.Spec L2
section
variable {K : PySem.W.Frag} {C : Addr} {M : Addr → Prop} {G G' G1 G0 H0 H H' H1 : Hp} {Q : VK} {E : XK} {vs : List V} {D : Ends} {v w : V} {a : Addr} {n m : Int} {ws us : List Str}
def spLaw (K : PySem.W.Frag) : Sp := fun vs H Q _ => ∃ (a : Addr) (ns : List Int), vs = [.ref a] ∧ SqL K H a (ns.map V.int) ∧ ns.length ≤ 63 ∧ ∀ H', Q (.bl true) H'
end
end Cs
namespace Cs
open PySem PySem.Spec L2
section
variable {K : PySem.W.Frag} {vs : List V} {H : Hp} {Q : V → Hp → Prop} {E : XK}
end
end Cs
namespace Cs
open PySem PySem.Spec L2 PyProof.Rows
section
variable {X : Cx} {pins : List (Addr × Obj)} {σ : L2.St} {H : Hp} {s : Shared}
theorem kv_parts : ∀ {ks : List Key} {xs : List V} {vs : List (Key × Value)}, ks.length = xs.length → KV (kvL ks xs) vs → vs.map (·.1) = ks ∧ Vals xs (vs.map (·.2))
  | [], [], _, _, h => by cases h; exact ⟨rfl, .nil⟩
  | k :: ks, x :: xs, _, hl, h => by
    cases h with
    | cons h1 h2 =>
      obtain ⟨e1, e2⟩ := kv_parts (Nat.succ.inj hl) h2
      obtain ⟨rfl, r⟩ := h1
      exact ⟨by rw [List.map_cons, e1], .cons r e2⟩
  | [], _ :: _, _, hl, _ => by cases hl
  | _ :: _, [], _, hl, _ => by cases hl
theorem keyIs_data {k : Key} {u : Value} (h : keyIs k u = true) : (∃ as, ∀ hp, Reads hp u (keyD k) as) := by
  rcases keyIs_shape h with ⟨i, t, rfl, rfl⟩ | ⟨x, t, rfl, rfl⟩
  · exact ⟨_, fun _ => Reads.int i t⟩
  · exact ⟨_, fun _ => Reads.str x t⟩
theorem keyIs_shown {k : Key} {u : Value} (h : keyIs k u = true) (hs : (keyD k).showable = true) (hz : (keyD k).shown.length ≤ sizeLine) (bs : List Addr) (hp : Heap) (n : Nat) : ReprK X.prog X.w bs hp n u (keyD k).shown := by
  rcases keyIs_shape h with ⟨i, t, rfl, rfl⟩ | ⟨x, t, rfl, rfl⟩
  · simp only [keyD, PyData.shown]
    exact .of_is (ReprIs.int t (by simpa [keyD, PyData.showable] using hs)) _ _ _
  · simp only [keyD, PyData.shown]
    exact .of_is (ReprIs.str x t (by simpa only [keyD, PyData.shown] using hz)) _ _ _
theorem pairs_vals : ∀ {es : List DictEntry} {vs : List (Key × Value)}, Pairs (mixKind X.prog X.w) es vs → es.map (·.val) = vs.map (·.2)
  | _, _, .nil => rfl
  | _, _, .cons _ e h => by rw [List.map_cons, List.map_cons, pairs_vals h, e]
theorem keys_read (hp : Heap) : ∀ {es : List DictEntry} {vs : List (Key × Value)}, Pairs (mixKind X.prog X.w) es vs → ∃ as, ReadsAll hp (es.map (·.key)) ((vs.map (·.1)).map keyD) as
  | _, _, .nil => ⟨_, .nil⟩
  | _, _, .cons k _ h => by
    obtain ⟨as, r⟩ := keyIs_data (show keyIs _ _ = true from k)
    obtain ⟨bs, q⟩ := keys_read hp h
    exact ⟨_, .cons (r hp) q⟩
theorem keys_shown (hp : Heap) (bs : List Addr) (n : Nat) : ∀ {es : List DictEntry} {vs : List (Key × Value)}, Pairs (mixKind X.prog X.w) es vs → PyData.showableAll ((vs.map (·.1)).map keyD) = true → (∀ t ∈ PyData.shownAll ((vs.map (·.1)).map keyD), t.length ≤ sizeLine) →
    ReprAllK X.prog X.w bs hp n (es.map (·.key)) (PyData.shownAll ((vs.map (·.1)).map keyD))
  | _, _, .nil, _, _ => by simp only [List.map_nil, PyData.shownAll]; exact .nil
  | _, _, .cons (kv := kv) (kvs := kvs) k _ h, hs, hz => by
    simp only [List.map_cons, PyData.shownAll, PyData.showableAll, Bool.and_eq_true] at hs hz ⊢
    exact .cons (keyIs_shown (show keyIs _ _ = true from k) hs.1 (hz _ (List.mem_cons_self ..)) _ _ _) (keys_shown hp bs n h hs.2 fun t ht => hz t (List.mem_cons_of_mem _ ht))
theorem dct_keys : ∀ {ks : List Key} {ds : List PyData}, ks.length = ds.length → (dctD ks ds).map (·.1) = ks.map keyD
  | [], [], _ => rfl
  | k :: ks, d :: ds, h => by
    show keyD k :: (dctD ks ds).map (·.1) = _
    rw [dct_keys (Nat.succ.inj h)]; rfl
  | [], _ :: _, h => by cases h
  | _ :: _, [], h => by cases h
theorem dct_vals : ∀ {ks : List Key} {ds : List PyData}, ks.length = ds.length → (dctD ks ds).map (·.2) = ds
  | [], [], _ => rfl
  | k :: ks, d :: ds, h => by
    show d :: (dctD ks ds).map (·.2) = _
    rw [dct_vals (Nat.succ.inj h)]
  | [], _ :: _, h => by cases h
  | _ :: _, [], h => by cases h
def Shows (P : Program) (w : World) (h : Heap) (u : Value) (d : PyData) : Prop := (∃ as, Reads h u d as) ∧ (d.showable = true → d.shown.length ≤ sizeLine → ∃ bs, ReadAtMost h d.depth bs ∧ ReprK P w bs h d.depth u d.shown)
def ShowsAll (P : Program) (w : World) (h : Heap) (us : List Value) (ds : List PyData) : Prop := (∃ as, ReadsAll h us ds as) ∧
  (PyData.showableAll ds = true → (∀ t ∈ PyData.shownAll ds, t.length ≤ sizeLine) → ∃ bs, ReadAtMost h (PyData.depthAll ds) bs ∧ ReprAllK P w bs h (PyData.depthAll ds) us (PyData.shownAll ds))
mutual
theorem Dp.shows (I : Inv X pins σ H s) : ∀ {d : PyData} {v : V}, Dp X.K H v d → ∀ {u : Value}, RelV v u → Shows X.prog X.w s.heap u d
  | _, _, .non, _, r => by
    cases r
    exact ⟨⟨_, .none⟩, fun _ _ => ⟨[], (fun _ h => nomatch h), by simp only [PyData.shown]; exact .of_is ReprIs.none _ _ _⟩⟩
  | _, _, .bl b, _, r => by
    cases r
    exact ⟨⟨_, .bool b⟩, fun _ _ => ⟨[], (fun _ h => nomatch h), by simp only [PyData.shown]; exact .of_is (ReprIs.bool b) _ _ _⟩⟩
  | _, _, .int i, _, r => by
    obtain ⟨t, rfl⟩ := r
    exact ⟨⟨_, .int i t⟩, fun q _ => ⟨[], (fun _ h => nomatch h), by simp only [PyData.shown]; exact .of_is (ReprIs.int t (by simpa [PyData.showable] using q)) _ _ _⟩⟩
  | _, _, .str x, _, r => by
    obtain ⟨t, rfl⟩ := r
    exact ⟨⟨_, .str x t⟩, fun _ z => ⟨[], (fun _ h => nomatch h), by simp only [PyData.shown]; exact .of_is (ReprIs.str x t (by simpa only [PyData.shown] using z)) _ _ _⟩⟩
  | _, _, .lst (ds := ds) hs ha, _, r => by
    cases r
    obtain ⟨its, rv, ⟨o, n, ho, hc, _, hd⟩, _⟩ := I.list hs
    obtain ⟨⟨as, hr⟩, sh⟩ := DpAll.shows I ha rv
    have rd : Reads s.heap _ (.list ds) _ := Reads.list ho hc hd hr
    refine ⟨⟨_, rd⟩, fun q z => ?_⟩
    have z2 : (listText (PyData.shownAll ds)).length ≤ sizeLine := by simpa only [PyData.shown] using z
    obtain ⟨bs, hb, hk⟩ := sh (by simpa [PyData.showable] using q) fun t ht => Nat.le_trans (listText_mem_le ht) z2
    have na := not_mem_of_deeper rd (by simp only [PyData.depth]; omega) hb
    refine ⟨_, ReadAtMost.cons rd (by simp only [PyData.depth]; omega) hb, ?_⟩
    simp only [PyData.depth, PyData.shown]
    cases its with
    | nil =>
      cases hr
      simp only [PyData.shownAll, listText_nil]
      exact ReprK.listEmpty ho hc hd
    | cons x l => exact ReprK.list ho hc hd na (by simpa using hk.length_eq) (fun i y e => hk.item i y (by simpa using e))
  | _, _, .tup (ds := ds) hs ha, _, r => by
    cases r
    obtain ⟨its, rv, ⟨o, ho, hc, n, hd⟩, _⟩ := I.tuple hs
    obtain ⟨⟨as, hr⟩, sh⟩ := DpAll.shows I ha rv
    have rd : Reads s.heap _ (.tuple ds) _ := Reads.tuple ho hc hd hr
    refine ⟨⟨_, rd⟩, fun q z => ?_⟩
    have z2 : (tupleText (PyData.shownAll ds)).length ≤ sizeLine := by simpa only [PyData.shown] using z
    obtain ⟨bs, hb, hk⟩ := sh (by simpa [PyData.showable] using q) fun t ht => Nat.le_trans (tupleText_mem_le ht) z2
    have na := not_mem_of_deeper rd (by simp only [PyData.depth]; omega) hb
    refine ⟨_, ReadAtMost.cons rd (by simp only [PyData.depth]; omega) hb, ?_⟩
    simp only [PyData.depth, PyData.shown]
    exact ReprK.tuple ho hc hd na hk
  | _, _, .dct (a := a) (ks := ks) (xs := xs) (ds := ds) hr hl hn ha, _, r => by
    cases r
    have hl2 : ks.length = ds.length := by rw [hl, dpa_len ha]
    obtain ⟨_, hsys, vs, kv, o, es, ep, ho, ⟨hc, _, _⟩, hdat, _, hp, _⟩ := dk_rd I.hok hr
    obtain ⟨e1, rv⟩ := kv_parts hl kv
    have ev := pairs_vals hp
    rw [← ev] at rv
    obtain ⟨⟨b2, rd2⟩, sh⟩ := DpAll.shows I ha rv
    obtain ⟨b1, rd1⟩ := keys_read s.heap hp
    rw [e1] at rd1
    have rd : Reads s.heap (.ref a) (.dict (dctD ks ds)) _ := Reads.dict ho hc hdat (by rw [dct_keys hl2]; exact rd1) (by rw [dct_vals hl2]; exact rd2)
    refine ⟨⟨_, rd⟩, fun q z => ?_⟩
    have z2 : (dictText (PyData.shownKv (dctD ks ds))).length ≤ sizeLine := by simpa only [PyData.shown] using z
    obtain ⟨s1, s2⟩ := PyData.showableKv_split _ (show PyData.showableKv (dctD ks ds) = true by simpa [PyData.showable] using q)
    obtain ⟨bs, hb, hk⟩ := sh (by rw [dct_vals hl2] at s2; exact s2) fun t ht => by
      obtain ⟨p, hp, hpl⟩ := PyData.shownKv_val_le (dctD ks ds) t (by rw [dct_vals hl2]; exact ht)
      exact Nat.le_trans hpl (Nat.le_trans (dictText_mem_le hp) z2)
    have kk := keys_shown s.heap bs (PyData.depthKv (dctD ks ds)) hp (by rw [e1, ← dct_keys hl2]; exact s1) fun t ht => by
      rw [e1, ← dct_keys hl2] at ht
      obtain ⟨p, hp, hpl⟩ := PyData.shownKv_key_le (dctD ks ds) t ht
      exact Nat.le_trans hpl (Nat.le_trans (dictText_mem_le hp) z2)
    have dv : PyData.depthAll ds ≤ PyData.depthKv (dctD ks ds) := by
      have := PyData.depthAll_vals_le (dctD ks ds)
      rwa [dct_vals hl2] at this
    have hb2 := hb.mono dv
    have na := not_mem_of_deeper rd (by simp only [PyData.depth]; omega) hb2
    refine ⟨_, ReadAtMost.cons rd (by simp only [PyData.depth]; omega) hb2, ?_⟩
    simp only [PyData.depth, PyData.shown, PyData.shownKv_eq]
    rw [dct_keys hl2, dct_vals hl2]
    rw [e1] at kk
    exact ReprK.dict ho hc hdat hsys na (ReprEntriesK.of_two es.toList _ _ kk (hk.more_le (fun _ h => h) dv))
theorem DpAll.shows (I : Inv X pins σ H s) : ∀ {ds : List PyData} {vs : List V}, DpAll X.K H vs ds → ∀ {us : List Value}, Vals vs us → ShowsAll X.prog X.w s.heap us ds
  | _, _, .nil, _, r => by
    cases r
    exact ⟨⟨_, .nil⟩, fun _ _ => ⟨[], (fun _ h => nomatch h), by simp only [PyData.shownAll]; exact .nil⟩⟩
  | _, _, .cons (d := d) (ds := ds) h1 h2, _, r => by
    cases r with
    | cons r1 r2 =>
      obtain ⟨⟨as, q1⟩, k1⟩ := Dp.shows I h1 r1
      obtain ⟨⟨bs, q2⟩, k2⟩ := DpAll.shows I h2 r2
      refine ⟨⟨_, .cons q1 q2⟩, fun q z => ?_⟩
      have q' : d.showable = true ∧ PyData.showableAll ds = true := by simpa [PyData.showableAll] using q
      simp only [PyData.shownAll] at z
      obtain ⟨c1, m1, w1⟩ := k1 q'.1 (z _ (List.mem_cons_self ..))
      obtain ⟨c2, m2, w2⟩ := k2 q'.2 fun t ht => z t (List.mem_cons_of_mem _ ht)
      simp only [PyData.depthAll, PyData.shownAll]
      exact ⟨c1 ++ c2, (m1.mono (Nat.le_max_left _ _)).append (m2.mono (Nat.le_max_right _ _)),
        .cons ((w1.more fun b hb => List.mem_append_left _ hb).level_le (Nat.le_max_left _ _)) (w2.more_le (fun b hb => List.mem_append_right _ hb) (Nat.le_max_right _ _))⟩
end
def rReprD (K : PySem.W.Frag) : List V → Hp → VK → Prop := fun xs H Q => ∃ v d, xs = [v] ∧ Dp K H v d ∧ d.showable = true ∧ d.shown.length ≤ sizeLine ∧ d.depth ≤ 64 ∧ Q (.str d.shown) H
theorem call_reprD (hg : X.A.guards = some []) (hu : X.A.units + 66 < cLine) : CallR X (.builtin "repr") (rReprD X.K) := by
  intro pins s σ H xs us Q I r h
  obtain ⟨v, d, rfl, hd, hs, hz, hdp, q⟩ := h
  obtain ⟨u, rfl, ru⟩ := vals1 r
  have fin : ∀ (h' : Heap) (t tk : Tok), (∀ b o, s.heap.get? b = some o → h'.get? b = some o) → ∃ x t', Value.str d.shown t = .str x t' ∧ EP X pins σ Q (.str d.shown t) { s with heap := h', toks := tk } := fun h' t tk k =>
    ⟨_, _, rfl, .str d.shown, H, I.kept (t' := tk) k, ⟨_, rfl⟩, q⟩
  cases hd with
  | non =>
    cases ru
    simp only [PyData.shown] at q
    exact PySem.P.repr_of_none ⟨.str _, H, I.tok _, ⟨_, rfl⟩, q⟩
  | bl b =>
    cases ru
    simp only [PyData.shown] at q
    exact PySem.P.repr_of_bool ⟨.str _, H, I.tok _, ⟨_, rfl⟩, by cases b <;> exact q⟩
  | int i =>
    obtain ⟨t, rfl⟩ := ru
    simp only [PyData.shown] at q
    exact PySem.P.repr_of_int (by simpa [PyData.showable] using hs) ⟨.str _, H, I.tok _, ⟨_, rfl⟩, q⟩
  | str x =>
    obtain ⟨t, rfl⟩ := ru
    simp only [PyData.shown] at q hz
    exact PySem.P.repr_of_str ⟨.str _, H, I.tok _, ⟨_, rfl⟩, q⟩ hz
  | lst hs1 ha =>
    rename_i a xs ds
    cases ru
    obtain ⟨its, rv, ⟨o, n, ho, hc, _, hdt⟩, _⟩ := I.list hs1
    obtain ⟨⟨as, hr⟩, sh⟩ := DpAll.shows I ha rv
    have rd : Reads s.heap (.ref a) (.list ds) _ := Reads.list ho hc hdt hr
    have z2 : (listText (PyData.shownAll ds)).length ≤ sizeLine := by simpa only [PyData.shown] using hz
    obtain ⟨bs, hb, hk⟩ := sh (by simpa [PyData.showable] using hs) fun t ht => Nat.le_trans (listText_mem_le ht) z2
    have na := not_mem_of_deeper rd (by simp only [PyData.depth]; omega) hb
    simp only [PyData.shown] at fin
    simp only [PyData.depth] at hdp
    refine call_repr_slot (by omega) ⟨_, ho, hc⟩ F.slot_list_repr.toG ?_
    cases its with
    | nil =>
      cases hr
      simp only [PyData.shownAll, listText_nil] at fin
      exact call_list_repr_empty ⟨_, ho, hc⟩ ho hdt (fin s.heap _ _ fun _ _ e => e)
    | cons x l =>
      exact call_list_reprK ho hc hdt na (by simpa using hk.length_eq) (fun i y e => hk.item i y (by simpa using e)) (show X.A.in1.guards = some [] from hg) (fun b _ => Clear.nil b) (by show X.A.units + 1 + _ < cLine; omega) (fun _ _ e => e) (fun h' t tk k => fin h' t tk k) z2
  | tup hs1 ha =>
    rename_i a xs ds
    cases ru
    obtain ⟨its, rv, ⟨o, ho, hc, n, hdt⟩, _⟩ := I.tuple hs1
    obtain ⟨⟨as, hr⟩, sh⟩ := DpAll.shows I ha rv
    have rd : Reads s.heap (.ref a) (.tuple ds) _ := Reads.tuple ho hc hdt hr
    have z2 : (tupleText (PyData.shownAll ds)).length ≤ sizeLine := by simpa only [PyData.shown] using hz
    obtain ⟨bs, hb, hk⟩ := sh (by simpa [PyData.showable] using hs) fun t ht => Nat.le_trans (tupleText_mem_le ht) z2
    have na := not_mem_of_deeper rd (by simp only [PyData.depth]; omega) hb
    simp only [PyData.shown] at fin
    simp only [PyData.depth] at hdp
    refine call_repr_slot (by omega) ⟨_, ho, hc⟩ F.slot_tuple_repr ?_
    exact call_tuple_reprK ho hc hdt na hk (show X.A.in1.guards = some [] from hg) (fun b _ => Clear.nil b) (by show X.A.units + 1 + _ < cLine; omega) (fun _ _ e => e) (fun h' t tk k => fin h' t tk k) z2
  | dct hr1 hl hn ha =>
    rename_i a ks xs ds
    cases ru
    have sh := Dp.shows I (.dct hr1 hl hn ha) (u := .ref a) rfl
    obtain ⟨as, rd⟩ := sh.1
    have hl2 : ks.length = ds.length := by rw [hl, dpa_len ha]
    obtain ⟨_, hsys, vs, kv, o, es, ep, ho, ⟨hc, _, _⟩, hdat, _, hp, _⟩ := dk_rd I.hok hr1
    obtain ⟨e1, rv⟩ := kv_parts hl kv
    rw [← pairs_vals hp] at rv
    obtain ⟨_, sh2⟩ := DpAll.shows I ha rv
    have z2 : (dictText (PyData.shownKv (dctD ks ds))).length ≤ sizeLine := by simpa only [PyData.shown] using hz
    obtain ⟨s1, s2⟩ := PyData.showableKv_split _ (show PyData.showableKv (dctD ks ds) = true by simpa [PyData.showable] using hs)
    obtain ⟨bs, hb, hk⟩ := sh2 (by rw [dct_vals hl2] at s2; exact s2) fun t ht => by
      obtain ⟨p, hp, hpl⟩ := PyData.shownKv_val_le (dctD ks ds) t (by rw [dct_vals hl2]; exact ht)
      exact Nat.le_trans hpl (Nat.le_trans (dictText_mem_le hp) z2)
    have kk := keys_shown s.heap bs (PyData.depthKv (dctD ks ds)) hp (by rw [e1, ← dct_keys hl2]; exact s1) fun t ht => by
      rw [e1, ← dct_keys hl2] at ht
      obtain ⟨p, hp, hpl⟩ := PyData.shownKv_key_le (dctD ks ds) t ht
      exact Nat.le_trans hpl (Nat.le_trans (dictText_mem_le hp) z2)
    have dv : PyData.depthAll ds ≤ PyData.depthKv (dctD ks ds) := by
      have := PyData.depthAll_vals_le (dctD ks ds)
      rwa [dct_vals hl2] at this
    have na := not_mem_of_deeper rd (by simp only [PyData.depth]; omega) (hb.mono dv)
    rw [e1] at kk
    have hE := ReprEntriesK.of_two es.toList _ _ kk (hk.more_le (fun _ h => h) dv)
    have et : PyData.shownKv (dctD ks ds) = List.zipWith (fun k v : Str => k ++ ": " ++ v) (PyData.shownAll (ks.map keyD)) (PyData.shownAll ds) := by rw [PyData.shownKv_eq, dct_keys hl2, dct_vals hl2]
    simp only [PyData.shown] at fin
    simp only [PyData.depth] at hdp
    rw [et] at fin z2
    refine call_repr_slot (by omega) ⟨_, ho, hc⟩ F.slot_dict_repr ?_
    exact call_dict_reprK ho hc hdat hsys na hE (show X.A.in1.guards = some [] from hg) (fun b _ => Clear.nil b) (by show X.A.units + 1 + _ < cLine; omega) (fun _ _ e => e) (fun h' t tk k => fin h' t tk k) z2
end
end Cs
namespace Cs
open PySem PySem.Spec L2 PyProof.Rows
section
variable {P : Program} {w : World} {K : PySem.W.Frag} {mg mb : Str → Option Value} {base : Heap} {CX : CXT} {j k : Nat} {f fa a : Addr} {fd : FuncData} {N ps : List Str} {sp : Sp} {x qual : Str} {st : Stmt}
structure FnG (P : Program) (w : World) (K : PySem.W.Frag) (mg : Str → Option Value) (base : Heap) (CX : CXT) (k : Nat) (f : Addr) (fd : FuncData) (ps : List Str) (sp : Sp) : Prop where
  many : ∀ vs H Q E, sp vs H Q E → vs.length = ps.length
  goes : ∀ (A : Around) (out : List Env) (s : Shared) (H : Hp) (ar : Args) (us : List Value) (vs : List V) (Q : VK) (E : XK), A.guards = some [] → Room k A → Env0 P w K mg base A out s H → BindsTo s fd ar (ps.zip us) → Vals vs us → sp vs H Q E →
    codeAny (model P w) A (.call (.ref f) ar) (CR CX out P w H s Q E) s
theorem FnOk.g (F : FnOk P w K mg base CX k f fd ps sp) : FnG P w K mg base CX k f fd ps sp := ⟨F.len, fun A out s H ar us vs Q E _ => F.run A out s H ar us vs Q E⟩
theorem Fun.okG (F : Fun K x qual st f fd) (S : FnScope N ps (defScope st)) (many : ∀ vs H Q E, sp vs H Q E → vs.length = ps.length)
    (inner : ∀ (cdv : Value) (A : Around) (out : List Env) (s : Shared) (H : Hp) (vs : List V) (Q : VK) (E : XK), A.guards = some [] → Room k (A.deeper (envOfC qual (defScope st) s.heap.objs.size f cdv)) → sp vs H Q E →
      ∃ t, PSs (cxOf CX0 P w K mg base N qual (defScope st) f cdv A out s H E).nox (defBody st) t ∧ t { nx := fun _ H' => Q .non H', rt := Q } (start N vs) H) : FnG P w K mg base CX0 (k + 1) f fd ps sp := by
  obtain ⟨oc, od, kV, doc, pm, an, cdv, ct, osl, e, lk, hcd⟩ := F.ex
  subst e
  refine ⟨many, fun A out s H ar us vs Q E hg room e0 hb r hsp => ?_⟩
  have old : ∀ b o, base.get? b = some o → s.heap.get? b = some o := fun b o z => (e0.bs b o z).1
  have inK : K.In s.heap := e0.mod.kin.keeps old
  have kinds : ∀ y ∈ ps.zip us, (defScope st).names.lookup y.1 = some .local ∨ ((defScope st).names.lookup y.1 = some .cell ∧ ((cellsFrom (s.heap.objs.size + 1) (defScope st).names []).lookup y.1).isSome = true) := by
    rintro ⟨n, v⟩ hy
    exact (S.par n (List.of_mem_zip hy).1).imp id fun q => ⟨q, PySem.W.cellsFrom_some _ _ _ (.inl q)⟩
  refine codeAny_call_function room.depth (inK _ _ lk) rfl S.co S.gen rfl (PySem.W.codeRec_of inK hcd) (hb _ _ _ _ (wpAny_newFunctionEnv_cells S.kind kinds fun env he s1 x => ?_))
  subst he
  refine ⟨(e0.mod.nolimit.keeps old).keeps x.toInCall.keep, codeAny_func ?_⟩
  obtain ⟨t, ht, hq⟩ := inner cdv A out s H vs Q E hg (room.deeper _) hsp
  have I0 := inv_start (CX := CX0) S room.hd e0 (many _ _ _ _ hsp) r x (E := E)
  refine wpAny_mono (ht.nox.run [] s1 (start N vs) H _ I0 hq) (fun fl s' hs => ?_) fun e s' hs => hs
  cases fl with
  | ret u =>
    obtain ⟨v, σ', H', J, rv, q⟩ := hs
    exact ⟨v, H', J.os, J.bare, J.base, J.hok, rv, q⟩
  | next =>
    obtain ⟨σ', H', J, q⟩ := hs
    exact ⟨V.non, H', J.os, J.bare, J.base, J.hok, rfl, q⟩
  | brk => exact hs.choose_spec.choose_spec.2.elim
  | cont => exact hs.choose_spec.choose_spec.2.elim
end
section
variable {X : Cx} {CX : CXT} {k : Nat} {f : Addr} {fd : FuncData} {ps : List Str} {ds : List Value} {dvs : List V} {sp : Sp} {E : XK} {x : Str} {e : Expr} {es : List Expr} {t : TA} {p pos : Pos}
end
section
variable {P : Program} {w : World} {K : PySem.W.Frag} {mg mb : Str → Option Value} {CX : CXT} {k : Nat} {fa a : Addr} {fd : FuncData} {x : Str} {sp : Sp} {s₁ : Shared} {vs : List Value} {ns : List Int}
abbrev lawEnd (s₁ : Shared) : Result → Shared → Prop := fun r s' => r = .ok (.ret (.bool true)) ∧ OldK s₁.heap s'.heap ∧ s'.os = s₁.os ∧ AllBare s'.gens
end
end Cs
namespace Cs
open PySem PySem.Spec L2 PyProof.Rows
def XO (cls : Value) (d : Option Addr) (a : Addr) : HO := .ext fun h => ∃ (oe : Obj) (vs : Array Value), h.get? a = some oe ∧ Zc cls d oe ∧ oe.data = .fields vs
theorem xo_ok {P : Program} {w : World} {H : Hp} {h : Heap} {a : Addr} {cls : Value} {d : Option Addr} {oe : Obj} {vs : Array Value} (e : h.get? a = some oe) (z : Zc cls d oe) (q : oe.data = .fields vs) : ObjOk P w H h a (XO cls d a) :=
  ⟨⟨oe, vs, e, z, q⟩, ⟨oe, e⟩, fun _ _ ⟨o, v, e', r⟩ k => ⟨o, v, k o e', r⟩⟩
theorem xo_at {P : Program} {w : World} {H : Hp} {h : Heap} {a : Addr} {cls : Value} {d : Option Addr} (hok : HOk P w H h) (e : H a = some (XO cls d a)) : ∃ (oe : Obj) (vs : Array Value), h.get? a = some oe ∧ Zc cls d oe ∧ oe.data = .fields vs :=
  (show ObjOk P w H h a (.ext fun h => ∃ (oe : Obj) (vs : Array Value), h.get? a = some oe ∧ Zc cls d oe ∧ oe.data = .fields vs) from hok a _ e).1
section
variable {X : Cx} {pins : List (Addr × Obj)} {σ σ0 : L2.St} {H H0 : Hp} {s s0 : Shared} {a : Addr} {cls : Value} {d : Option Addr} {oe : Obj} {vs : Array Value}
end
section
variable {X : Cx} {x n : Str} {c : Value} {i : Nat} {body suite : List Stmt} {b₀ : Stmt} {np pos pos' : Pos} {tb : WX → TS} {ts : Addr → Value → Option Addr → TS} {Wout : WX}
end
end Cs
namespace Cs
open PySem PySem.Spec L2 PyProof.Rows
theorem meets_enum1 {v : Value} {o : Obj} {H : Heap → Prop} (B : Begins v o H) :
    Meets (Builtin.«enumerate.__new__» ⟨[.type "enumerate", v], []⟩) (fun _ R s => H s.heap ∧
      R (.ok (.ret (.ref (s.heap.push o).objs.size))) { s with heap := (s.heap.push o).push { cls := .type "enumerate", data := .fields #[.none, .bool false, .ref s.heap.objs.size, rawInt 0, .none, .none] } }) :=
  .of_wp fun prog w A R s h => by
    obtain ⟨hp, g, d, tk, os⟩ := s
    obtain ⟨h1, h⟩ := h
    have isub := sub_enumerate
    have it1 : ∀ {A' : Around} {E : Value → Shared → Prop} {Q : Value → Shared → Prop}, Q (.ref hp.objs.size) ⟨hp.push o, g, d, tk, os⟩ → wpAny (model prog w) A' (pyIter v) Q E ⟨hp, g, d, tk, os⟩ := fun q => B.iter prog w _ _ ⟨hp, g, d, tk, os⟩ _ h1 q
    wp_walk
    refine wpAny_stack_any fun st => wpAny_pure ?_
    split
    · rename_i c _ _ _ _ _
      cases (c == Value.type "enumerate") <;>
      · wp_walk using it1
        exact ⟨_, rfl, h⟩
    · wp_walk using it1
      exact ⟨_, rfl, h⟩
section
variable {prog : Program} {w : World} {A : Around} {E : Value → Shared → Prop} {s : Shared}
theorem enum_begins1 {v : Value} {o : Obj} {H : Heap → Prop} {Q : Value → Shared → Prop} (B : Begins v o H) (h1 : H s.heap)
    (h : ∀ h', IsEnum h' (s.heap.objs.size + 1) s.heap.objs.size 0 .none → h'.get? s.heap.objs.size = some o → h'.objs.size = s.heap.objs.size + 2 → (∀ b u, s.heap.get? b = some u → h'.get? b = some u) → Q (.ref (s.heap.objs.size + 1)) { s with heap := h' }) :
    wpAny (model prog w) A (call (.type "enumerate") [v]) Q E s := by
  have sz : (s.heap.push o).objs.size = s.heap.objs.size + 1 := Heap.size_push ..
  refine callType_new F.called_enumerate (by decide) (F.typeCall_enumerate_1 _) (F.newCall_enumerate_1 _) (fun obj => F.args_object_init_2 obj _) F.entry_enumerate_new (meets_enum1 B) ⟨h1, ?_⟩
  have en : IsEnum ((s.heap.push o).push { cls := .type "enumerate", data := .fields #[.none, .bool false, .ref s.heap.objs.size, rawInt 0, .none, .none] }) (s.heap.objs.size + 1) s.heap.objs.size 0 .none := by
    have q := Heap.get?_push_size (s.heap.push o) (o := { cls := .type "enumerate", data := .fields #[.none, .bool false, .ref s.heap.objs.size, rawInt 0, .none, .none] }) rfl
    rwa [sz] at q
  show _ ∧ _
  rw [sz]
  exact ⟨⟨_, en, rfl⟩, h _ en (Heap.get?_push_of_some _ (Heap.get?_push_size _ B.free)) (by rw [Heap.size_push, sz]) fun b u x => Heap.get?_push_of_some _ (Heap.get?_push_of_some _ x)⟩
end
def IteT (K : PySem.W.Frag) (a : Addr) : It :=
  ⟨fun i H => ∃ (xs : List V) (x : V), SqT K H a xs ∧ xs[i]? = some x, fun i H v H' => ∃ T x, v = .ref T ∧ H T = none ∧ H' = upd H T (.tup [.int (i : Nat), x]) ∧ ∀ xs, SqT K H a xs → xs[i]? = some x, fun i H => ∃ xs : List V, SqT K H a xs ∧ xs.length = i⟩
theorem turn_enumT {P : Program} {w : World} {K : PySem.W.Frag} {elts : List Expr} {kk : Nat} {tpos : Pos} (a e it : Addr) :
    Turn P w K (.Tuple elts kk tpos) (IteT K a) [e, it] e (fun i h => (∃ old, IsEnum h e it ((i : Nat) : Int) old) ∧ h.IsTupleIter it a i ∧ e ≠ it ∧ a ≠ e ∧ a ≠ it) where
  mem := List.mem_cons_self
  obj := fun i h st b hb => by
    obtain ⟨⟨old, he⟩, ⟨o, ho, hc, hd⟩, _⟩ := st
    rcases List.mem_cons.mp hb with z | z
    · rw [z]; exact ⟨_, he, fun v q => nomatch q⟩
    · rw [List.mem_singleton.mp z]; exact ⟨o, ho, fun v q => by rw [hd] at q; cases q⟩
  keep := fun i h h' st k => by
    obtain ⟨⟨old, he⟩, hi, hne⟩ := st
    exact ⟨⟨old, k e List.mem_cons_self _ he⟩, hi.at fun o q => k it (List.mem_cons_of_mem _ List.mem_cons_self) o q, hne⟩
  item := by
    intro X hP hw hK hc i pins s σ H E I hf st hg
    subst hP hw hK
    obtain ⟨⟨old, he⟩, hit, hne, ha1, ha2⟩ := st
    obtain ⟨xs, x, hq, hx⟩ := hg
    obtain ⟨its, rv, p, hz⟩ := I.tuple hq
    obtain ⟨u, hu, ru⟩ := rv.get hx
    have el : e < s.heap.objs.size := Heap.lt_size he
    have il : it < s.heap.objs.size := by obtain ⟨_, q, _⟩ := hit; exact Heap.lt_size q
    have quiet : X.A.in1.handled = none := I.ok.hd hc
    have isT : s.heap.IsTuple a its.toArray := p
    have lt : i < its.toArray.size := by
      have h0 := (List.getElem?_eq_some_iff.mp hu).1
      simpa using h0
    have offE : e ∉ [it, a] := fun q => by
      rcases List.mem_cons.mp q with z | z
      · exact hne z
      · exact ha1 (List.mem_singleton.mp z).symm
    refine wpAny_pyNext_enum_itemD (Draws.tuple quiet it a ha2 its.toArray) he ⟨hit, isT⟩ lt hne offE fun y h' tk py ho hit' hT hsz hk => ?_
    have ey : y = u := by
      have q : its.toArray[i]? = some u := by simpa using hu
      rw [q] at py
      exact (Option.some.inj py).symm
    subst ey
    refine ⟨_, rfl, wpAny_letOwnedTupleGo_enum (s := { s with heap := h', toks := tk + 1 }) ho fun h'' he' sb => ?_⟩
    have hT2 : h''.get? s.heap.objs.size = some { cls := .type "tuple", data := .seq #[.int i tk, y] } := (sb.2 _ (Nat.ne_of_gt el)).trans hT
    have new : ObjOk X.prog X.w (upd H s.heap.objs.size (.tup [.int (i : Nat), x])) h'' s.heap.objs.size (.tup [.int (i : Nat), x]) := ⟨by show 2 ≤ sizeLine; decide, [.int i tk, y], .cons ⟨_, rfl⟩ (.cons ru .nil), ⟨_, hT2, rfl, _, rfl⟩⟩
    have I1 := I.turnedNew (t' := tk + 1) (ch := [e, it]) (fun b ob hb q => (sb.2 b (fun z => hb (by rw [z]; exact List.mem_cons_self))).trans (hk b ob (fun z => hb (by rw [z]; exact List.mem_cons_self)) (fun z => hb (by rw [z]; exact List.mem_cons_of_mem _ List.mem_cons_self)) q)) hf (Nat.le_refl _) new
    refine ⟨.ref s.heap.objs.size, _, I1, rfl, ⟨_, x, rfl, I.hok.fresh (Nat.le_refl _), rfl, fun ys hy => by rw [I.tuple_inj hy hq]; exact hx⟩, ⟨⟨y, ?_⟩, hit'.1.at fun o q => (sb.2 it (Ne.symm hne)).trans q, hne, ha1, ha2⟩, fun b hb => ?_⟩
    · rw [show ((i + 1 : Nat) : Int) = (i : Int) + 1 by omega]; exact he'
    · have lt2 : b < s.heap.objs.size := by
        rcases List.mem_cons.mp hb with z | z
        · rw [z]; exact el
        · rw [List.mem_singleton.mp z]; exact il
      rw [upd_ne (Nat.ne_of_lt lt2)]
      exact (hf b hb).1
  done := by
    intro X hP hw hK hc i pins s σ H E I hf st hg
    subst hP hw hK
    obtain ⟨⟨old, he⟩, hit, hne, ha1, ha2⟩ := st
    obtain ⟨xs, hq, hx⟩ := hg
    obtain ⟨its, rv, p, hz⟩ := I.tuple hq
    obtain ⟨f0, f1, f2, f3, f4, f5⟩ := hf it (List.mem_cons_of_mem _ List.mem_cons_self)
    have quiet : X.A.in1.handled = none := I.ok.hd hc
    have en : its.toArray.size = i := by rw [List.size_toArray, ← rv.length, hx]
    have D := Draws.tuple (prog := X.prog) (w := X.w) quiet it a ha2 its.toArray
    rw [en] at D
    exact wpAny_pyNext_enum_endD D he ⟨hit, p⟩ fun h' eb => ⟨rfl, I.turned (t' := s.toks) (fun b o hb q => eb b o hb q) f0 f1 f3 f4 f5⟩
  self := fun A i s Q E st h => let ⟨⟨_, he⟩, _⟩ := st; wpAny_pyIter_enum he h
def iEnumT (K : PySem.W.Frag) (ta : TA) : TI := fun σ H R => ta σ H fun vs H1 => ∃ a xs, vs = [.ref a] ∧ SqT K H1 a xs ∧ R (IteT K a) H1
theorem pi_enumT {X : Cx} {e : Expr} {ta : TA} {p pos tpos : Pos} {elts : List Expr} {kk : Nat} (hg : Gl X "enumerate") (hm : X.mg "enumerate" = none) (ha : PA X [e] ta) (hs : starEach [e] X.env = [(false, eval e X.env)] := by rfl) :
    PI X (.Tuple elts kk tpos) (.Call (.Name "enumerate" p) [e] [] pos) (iEnumT X.K ta) := by
  refine ⟨fun pins s σ H R I h => Call_ (ld_blt I hg hm boot_enumerate (callWith_type1 (thn (ha.run pos pins s σ H _ I h) fun us s1 ⟨vs, H1, I1, r1, q1⟩ => ?_) hs rfl))⟩
  obtain ⟨a, xs, ex, hq, q⟩ := q1
  subst ex
  obtain ⟨u, rfl, ru⟩ := vals1 r1
  cases ru
  obtain ⟨its, rv, p', hz⟩ := I1.tuple hq
  refine enum_begins1 (begins_tuple a its.toArray) p' fun h' en hit hsz hk => wpAny_pyIter_enum en ?_
  have I2 : Inv X pins σ H1 { s1 with heap := h' } := I1.kept (t' := s1.toks) hk
  have la : a < s1.heap.objs.size := by obtain ⟨o, q, _⟩ := p'; exact Heap.lt_size q
  refine ⟨s1.heap.objs.size + 1, [s1.heap.objs.size + 1, s1.heap.objs.size], _, _, H1, rfl, I2, turn_enumT a (s1.heap.objs.size + 1) s1.heap.objs.size, ⟨⟨.none, en⟩, ⟨_, hit, rfl, rfl⟩, Nat.succ_ne_self _, Nat.ne_of_lt (Nat.lt_succ_of_lt la), Nat.ne_of_lt la⟩, fun c hc => ?_, q⟩
  have hle : s1.heap.objs.size ≤ c := by
    rcases List.mem_cons.mp hc with z | z
    · rw [z]; exact Nat.le_succ _
    · rw [List.mem_singleton.mp z]; exact Nat.le_refl _
  exact I1.fpOk hle (I1.hok.fresh hle)
def iEnumA (K : PySem.W.Frag) (ta : TA) : TI := fun σ H R => iEnum K ta σ H R ∨ iEnumT K ta σ H R
theorem pi_enumA {X : Cx} {e : Expr} {ta : TA} {p pos tpos : Pos} {elts : List Expr} {kk : Nat} (hg : Gl X "enumerate") (hm : X.mg "enumerate" = none) (ha : PA X [e] ta) (hs : starEach [e] X.env = [(false, eval e X.env)] := by rfl) :
    PI X (.Tuple elts kk tpos) (.Call (.Name "enumerate" p) [e] [] pos) (iEnumA X.K ta) := pi_or (pi_enum hg hm ha hs) (pi_enumT hg hm ha hs)
end Cs
namespace Cs
open PySem PySem.Spec L2 PyProof.Rows
section
variable {X : Cx}
end
end Cs
namespace Cs
open PySem PySem.Spec L2 PyProof.Rows
section
variable {X : Cx}
end
section
variable {K : PySem.W.Frag} {σ : L2.St} {G G1 H : Hp} {ta tb : TE} {tA : TA} {d : PyData}
end
end Cs
namespace Cs
open PySem PySem.Spec L2 PyProof.Rows
section
variable {K : PySem.W.Frag} {σ : L2.St} {M : Addr → Prop} {G G' G1 G0 H0 H H' H1 : Hp} {Q : VK} {E : XK} {vs : List V} {ta tb tc te tk tv td ty : TE} {tA : TA} {t : TT} {d x y z : PyData} {v : V} {a : Addr} {R : Rp}
end
end Cs
namespace Cs
open PySem PySem.Spec L2 PyProof.Rows
def pf (a b c d : V) : List (Str × V) := [("name", a), ("kind", b), ("default", c), ("barred", d)]
section
variable {K : PySem.W.Frag} {C Cb : Addr} {σ : L2.St} {M : Addr → Prop} {G G' G1 G0 H0 H H' H1 : Hp} {Q : VK} {E : XK} {vs : List V} {ta tb tc te tk tv td ty : TE} {tA : TA} {t : TT} {d x y z : PyData} {v : V} {a : Addr} {R : Rp}
def ParAt (K : PySem.W.Frag) (C : Addr) (G : Hp) (v : V) (n k df : PyData) (ys : List Str) : Prop := ∃ x dx a b c d, v = .ref x ∧ G x = some (.ins C dx (pf a b c d)) ∧ Dp K G a n ∧ Dp K G b k ∧ Dp K G c df ∧ Dp K G d (.tuple (ys.map PyData.str))
theorem ParAt.mono {n k df : PyData} {ys : List Str} (e : Same G G') (h : ParAt K C G v n k df ys) : ParAt K C G' v n k df ys := by
  obtain ⟨x, dx, a, b, c, d, h1, h2, h3, h4, h5, h6⟩ := h
  exact ⟨x, dx, a, b, c, d, h1, e _ _ h2, dp_mono e _ _ h3, dp_mono e _ _ h4, dp_mono e _ _ h5, dp_mono e _ _ h6⟩
end
end Cs
namespace Cs
open PySem PySem.Spec L2 PyProof.Rows
section
variable {X : Cx} {CX : CXT} {C g : Addr} {n : Nat} {sp : Sp} {E : XK}
end
end Cs
namespace Cs
open PySem PySem.Spec L2 PyProof.Rows
section
variable {X : Cx} {CX : CXT} {C g : Addr} {n : Nat} {sp : Sp} {E : XK}
end
end Cs
namespace Cs
open PySem PySem.Spec L2 PyProof.Rows
section
variable {X : Cx}
end
structure IsC (K : PySem.W.Frag) (C : Addr) : Prop where
  cl : Cls K C
  ha : PySem.W.findIn K (.ref C) "__class__" = some (some (.builtin "object.__class__"))
  hn : PySem.W.specialIn K (.builtin "object.__class__") "__get__" = some (some (.builtin "getset_descriptor.__get__"))
  ht : PySem.W.takesIn K (.builtin "object.__class__") = some true
  hm : PySem.W.mroIn K C (.type "object") = some true
theorem IsC.ty {K : PySem.W.Frag} {C a dx : Addr} {H : Hp} {fs : List (Str × V)} (T : IsC K C) (e : H a = some (.ins C dx fs)) : TyX K H (.ref a) (.ref C) := .base (.ins e T.cl T.ha T.hn T.ht T.hm)
section
variable {K : PySem.W.Frag} {C Cb : Addr} {σ : L2.St} {M : Addr → Prop} {G G' G1 G0 H0 H H' H1 : Hp} {Q : VK} {E : XK} {vs : List V} {ta tb tc te tk tv td ty : TE} {tA : TA} {t : TT} {d x y z : PyData} {v : V} {a : Addr} {R : Rp} {n k df : PyData} {ys : List Str}
end
end Cs
namespace Mi
open PySem PySem.Spec L2 Cs
inductive D where
  | non | bl (b : Bool) | int (i : Int) | str (s : Str) | ty (n : String)
  | lst (ds : List D) | tup (ds : List D) | dct (ks : List Key) (ds : List D)
  | obj (C : String) (ks : List Str) (ds : List D) | exc (C : String) (ks : List Str) (ds : List D)
  | cls (C : String) | own (n : Nat)
inductive Cell where
  | lst (ds : List D) | dct (ks : List Key) (ds : List D) | lck (ks : List Key) (ds : List D) | obj (C : String) (ks : List Str) (ds : List D)
def Cell.isL : Cell → Bool
  | .lck _ _ => true
  | _ => false
abbrev Store := List (Option Cell)
structure Exc where
  C : String
  ks : List Str
  ds : List D
inductive Res (α : Type) where
  | ok (a : α) (μ : Store) | exc (x : Exc) (μ : Store) | bad
abbrev Env := List (Option D)
inductive ResS where
  | nx (ρ : Env) (μ : Store) | rt (d : D) (μ : Store) | bk (ρ : Env) (μ : Store) | ct (ρ : Env) (μ : Store) | exc (x : Exc) (μ : Store) | bad
abbrev ME := Env → Store → Res D
abbrev MT := Env → Store → Res Bool
abbrev MA := Env → Store → Res (List D)
abbrev MS := Nat → Env → Store → ResS
structure Wd where
  K : PySem.W.Frag
  cm : String → Option Addr
  tabs : List (Addr × Str)
def live (μ : Store) (n : Nat) : Prop := ∃ x, μ[n]? = some (some x)
structure Cf where
  ι : Nat → Addr
  μ : Store
  G : Hp
  H : Hp
  L : Addr → Option HO
  T : List (Addr × Str)
def fsL (ks : List Str) (xs : List V) : List (Str × V) := List.zipWith (fun k x => (k, x)) ks xs
mutual
inductive Dp (W : Wd) (c : Cf) : V → D → Prop
  | non : Dp W c .non .non
  | bl (b : Bool) : Dp W c (.bl b) (.bl b)
  | int (i : Int) : Dp W c (.int i) (.int i)
  | str (x : Str) : Dp W c (.str x) (.str x)
  | ty (n : String) : Dp W c (.ty n) (.ty n)
  | lst {a : Addr} {xs : List V} {ds : List D} : SqL W.K c.G a xs → DpA W c xs ds → Dp W c (.ref a) (.lst ds)
  | tup {a : Addr} {xs : List V} {ds : List D} : SqT W.K c.G a xs → DpA W c xs ds → Dp W c (.ref a) (.tup ds)
  | dct {a : Addr} {ks : List Key} {xs : List V} {ds : List D} : Rd c.G a (.dK (kvL ks xs)) → ks.length = xs.length → ks.Nodup → DpA W c xs ds → Dp W c (.ref a) (.dct ks ds)
  | obj {a : Addr} {C : String} {g dx : Addr} {ks : List Str} {xs : List V} {ds : List D} : W.cm C = some g → c.G a = some (.ins g dx (fsL ks xs)) → ks.length = xs.length → DpA W c xs ds → Dp W c (.ref a) (.obj C ks ds)
  | exc {a : Addr} {C : String} {g : Addr} {d : Option Addr} {ks : List Str} {xs : List V} {ds : List D} : W.cm C = some g → c.G a = some (XO (.ref g) d a) → (∀ dx, d = some dx → c.G dx = some (.xd (fsL ks xs))) → (d = none → ks = []) → ks.length = xs.length → DpA W c xs ds → Dp W c (.ref a) (.exc C ks ds)
  | cls {C : String} {g : Addr} : W.cm C = some g → Dp W c (.ref g) (.cls C)
  | own {n : Nat} : n < c.μ.length → Dp W c (.ref (c.ι n)) (.own n)
inductive DpA (W : Wd) (c : Cf) : List V → List D → Prop
  | nil : DpA W c [] []
  | cons {v : V} {vs : List V} {d : D} {ds : List D} : Dp W c v d → DpA W c vs ds → DpA W c (v :: vs) (d :: ds)
end
structure Le (c c' : Cf) : Prop where
  g : Same c.G c'.G
  len : c.μ.length ≤ c'.μ.length
  ag : ∀ n, n < c.μ.length → c'.ι n = c.ι n
theorem Le.refl (c : Cf) : Le c c := ⟨Same.refl _, Nat.le_refl _, fun _ _ => rfl⟩
theorem Le.trans {a b c : Cf} (h : Le a b) (k : Le b c) : Le a c := ⟨h.g.trans k.g, Nat.le_trans h.len k.len, fun n hn => (k.ag n (Nat.lt_of_lt_of_le hn h.len)).trans (h.ag n hn)⟩
section
variable {W : Wd} {c c' : Cf}
mutual
theorem dp_mono (e : Le c c') : ∀ {d : D} {v : V}, Dp W c v d → Dp W c' v d
  | _, _, .non => .non
  | _, _, .bl b => .bl b
  | _, _, .int i => .int i
  | _, _, .str x => .str x
  | _, _, .ty n => .ty n
  | _, _, .lst hs ha => .lst (e.g.seq hs) (dpa_mono e ha)
  | _, _, .tup hs ha => .tup (Cs.sqt_mono e.g hs) (dpa_mono e ha)
  | _, _, .dct hr hl hn ha => .dct (rd_same e.g hr) hl hn (dpa_mono e ha)
  | _, _, .obj hc h hl ha => .obj hc (e.g _ _ h) hl (dpa_mono e ha)
  | _, _, .exc hc h hd hn hl ha => .exc hc (e.g _ _ h) (fun dx q => e.g _ _ (hd dx q)) hn hl (dpa_mono e ha)
  | _, _, .cls hc => .cls hc
  | _, _, .own hn => by
    rw [← e.ag _ hn]
    exact .own (Nat.lt_of_lt_of_le hn e.len)
theorem dpa_mono (e : Le c c') : ∀ {ds : List D} {vs : List V}, DpA W c vs ds → DpA W c' vs ds
  | _, _, .nil => .nil
  | _, _, .cons h1 h2 => .cons (dp_mono e h1) (dpa_mono e h2)
end
theorem dpa_len : ∀ {vs : List V} {ds : List D}, DpA W c vs ds → vs.length = ds.length
  | _, _, .nil => rfl
  | _, _, .cons _ t => congrArg (· + 1) (dpa_len t)
theorem dpa_get : ∀ {vs : List V} {ds : List D} {i : Nat} {d : D}, DpA W c vs ds → ds[i]? = some d → ∃ v, vs[i]? = some v ∧ Dp W c v d
  | _, _, _, _, .nil, e => by simp at e
  | _, _, 0, _, .cons h _, e => by cases Option.some.inj e; exact ⟨_, rfl, h⟩
  | _, _, i + 1, d, .cons _ t, e => dpa_get (i := i) t e
theorem dpa_getV : ∀ {vs : List V} {ds : List D} {i : Nat} {v : V}, DpA W c vs ds → vs[i]? = some v → ∃ d, ds[i]? = some d ∧ Dp W c v d
  | _, _, _, _, .nil, e => by simp at e
  | _, _, 0, _, .cons h _, e => by cases Option.some.inj e; exact ⟨_, rfl, h⟩
  | _, _, i + 1, d, .cons _ t, e => dpa_getV (i := i) t e
theorem dpa_app : ∀ {vs ws : List V} {ds es : List D}, DpA W c vs ds → DpA W c ws es → DpA W c (vs ++ ws) (ds ++ es)
  | _, _, _, _, .nil, h => h
  | _, _, _, _, .cons h t, k => .cons h (dpa_app t k)
theorem dpa_take : ∀ {vs : List V} {ds : List D} (n : Nat), DpA W c vs ds → DpA W c (vs.take n) (ds.take n)
  | _, _, 0, _ => .nil
  | _, _, _ + 1, .nil => .nil
  | _, _, n + 1, .cons h t => .cons h (dpa_take n t)
theorem dpa_drop : ∀ {vs : List V} {ds : List D} (n : Nat), DpA W c vs ds → DpA W c (vs.drop n) (ds.drop n)
  | _, _, 0, h => h
  | _, _, _ + 1, .nil => .nil
  | _, _, n + 1, .cons _ t => dpa_drop n t
theorem dpa_set : ∀ {vs : List V} {ds : List D} (n : Nat) {v : V} {d : D}, DpA W c vs ds → Dp W c v d → DpA W c (vs.set n v) (ds.set n d)
  | _, _, _, _, _, .nil, _ => .nil
  | _, _, 0, _, _, .cons _ t, k => .cons k t
  | _, _, n + 1, _, _, .cons h t, k => .cons h (dpa_set n t k)
end
mutual
def D.pd : D → Option PyData
  | .non => some .none
  | .bl b => some (.bool b)
  | .int i => some (.int i)
  | .str s => some (.str s)
  | .lst ds => (pds ds).map .list
  | .tup ds => (pds ds).map .tuple
  | .dct ks ds => (pds ds).map fun ps => .dict (dctD ks ps)
  | _ => none
def pds : List D → Option (List PyData)
  | [] => some []
  | d :: ds => match d.pd, pds ds with
    | some p, some ps => some (p :: ps)
    | _, _ => none
end
mutual
theorem dp_pd {W : Wd} {c : Cf} : ∀ {d : D} {v : V} {p : PyData}, Dp W c v d → d.pd = some p → Cs.Dp W.K c.G v p
  | _, _, _, .non, e => by cases Option.some.inj e; exact .non
  | _, _, _, .bl b, e => by cases Option.some.inj e; exact .bl b
  | _, _, _, .int i, e => by cases Option.some.inj e; exact .int i
  | _, _, _, .str i, e => by cases Option.some.inj e; exact .str i
  | _, _, _, .ty n, e => by cases e
  | .lst ds, _, p, .lst hs ha, e => by
    unfold D.pd at e
    cases q : pds ds with
    | none => rw [q] at e; cases e
    | some ps =>
      rw [q] at e
      cases Option.some.inj e
      exact .lst hs (dpa_pd ha q)
  | .tup ds, _, p, .tup hs ha, e => by
    unfold D.pd at e
    cases q : pds ds with
    | none => rw [q] at e; cases e
    | some ps =>
      rw [q] at e
      cases Option.some.inj e
      exact .tup hs (dpa_pd ha q)
  | .dct ks ds, _, p, .dct hr hl hn ha, e => by
    unfold D.pd at e
    cases q : pds ds with
    | none => rw [q] at e; cases e
    | some ps =>
      rw [q] at e
      cases Option.some.inj e
      exact .dct hr hl hn (dpa_pd ha q)
  | _, _, _, .obj .., e => by cases e
  | _, _, _, .exc .., e => by cases e
  | _, _, _, .cls .., e => by cases e
  | _, _, _, .own .., e => by cases e
theorem dpa_pd {W : Wd} {c : Cf} : ∀ {ds : List D} {vs : List V} {ps : List PyData}, DpA W c vs ds → pds ds = some ps → Cs.DpAll W.K c.G vs ps
  | _, _, _, .nil, e => by cases Option.some.inj e; exact .nil
  | d :: ds, _, _, .cons h t, e => by
    unfold pds at e
    split at e
    · rename_i p ps h1 h2
      cases Option.some.inj e
      exact .cons (dp_pd h h1) (dpa_pd t h2)
    · cases e
end
def CellAt (W : Wd) (c : Cf) (o : HO) : Cell → Prop
  | .lst ds => ∃ xs, o = .lst xs ∧ DpA W c xs ds
  | .dct ks ds => ∃ xs, o = .dK (kvL ks xs) ∧ ks.length = xs.length ∧ ks.Nodup ∧ DpA W c xs ds
  | .lck ks ds => ∃ xs od, o = .frz od (.dK (kvL ks xs)) ∧ ks.length = xs.length ∧ ks.Nodup ∧ DpA W c xs ds
  | .obj C ks ds => ∃ g dx xs, W.cm C = some g ∧ o = .ins g dx (fsL ks xs) ∧ ks.length = xs.length ∧ DpA W c xs ds
structure TabOk (W : Wd) (c : Cf) : Prop where
  w : c.T = W.tabs
  n : ∀ a ps, c.G a ≠ some (.tbl ps)
  o : ∀ a ps, c.H a = some (.tbl ps) → ∃ q, (a, q) ∈ c.T
  t : ∀ p ∈ c.T, ∃ ps : Array Value, c.H p.1 = some (.tbl ps) ∧ TriplesOk ps.toList ∧ ∀ (pos : Pos) (cv : Value), PySem.codeAmong pos ps.toList = some cv → ∃ a, cv = .ref a ∧ c.H a = some (LamX.CodeO a p.2)
theorem TabOk.mono {W : Wd} {c c' : Cf} (h : TabOk W c) (eT : c'.T = c.T) (g : ∀ b q, c.H b = some (LamX.CodeO b q) → c'.H b = some (LamX.CodeO b q)) (hn : ∀ a ps, c'.G a = some (.tbl ps) → c.G a = some (.tbl ps)) (hu : ∀ a ps, c'.H a = some (.tbl ps) → ∃ ps', c.H a = some (.tbl ps')) (hH : ∀ p ∈ c.T, ∀ ps, c.H p.1 = some (.tbl ps) → c'.H p.1 = some (.tbl ps)) : TabOk W c' := by
  refine ⟨eT.trans h.w, fun a ps e => h.n a ps (hn a ps e), fun a ps e => let ⟨ps', e'⟩ := hu a ps e; eT ▸ h.o a ps' e', fun p hp => ?_⟩
  obtain ⟨ps, h1, h2, h3⟩ := h.t p (by rw [← eT]; exact hp)
  refine ⟨ps, hH p (by rw [← eT]; exact hp) ps h1, h2, fun pos cv e => ?_⟩
  obtain ⟨a, e1, e2⟩ := h3 pos cv e
  exact ⟨a, e1, g a _ e2⟩
theorem tbl_upd {H : Hp} {p : Addr} {o : HO} (no : ∀ ps, o ≠ .tbl ps) : ∀ a ps, upd H p o a = some (.tbl ps) → ∃ ps', H a = some (.tbl ps') := fun a ps e => by
  by_cases c : a = p
  · subst c; rw [upd_same] at e; exact absurd (Option.some.inj e) (no ps)
  · rw [upd_ne c] at e; exact ⟨_, e⟩
theorem codeO_upd {H : Hp} {p : Addr} {o : HO} (hp : ∀ q, H p ≠ some (LamX.CodeO p q)) : ∀ b q, H b = some (LamX.CodeO b q) → upd H p o b = some (LamX.CodeO b q) := fun b q e => by
  rw [upd_ne (fun z => hp q (by rw [← z]; exact e))]; exact e
theorem codeO_none {H : Hp} {p : Addr} (hp : H p = none) : ∀ q, H p ≠ some (LamX.CodeO p q) := fun q z => by rw [hp] at z; cases z
structure Ok (W : Wd) (c : Cf) : Prop where
  s : Same c.G c.H
  lk : ∀ a o, c.L a = some o → c.H a = some o ∧ ∃ od u, o = .frz od u
  at' : ∀ n x, c.μ[n]? = some (some x) → c.G (c.ι n) = none ∧ ∃ o, c.H (c.ι n) = some o ∧ CellAt W c o x
  inj : ∀ n m, live c.μ n → live c.μ m → c.ι n = c.ι m → n = m
  lc : ∀ n x, c.μ[n]? = some (some x) → x.isL = true → c.L (c.ι n) ≠ none
  tb : TabOk W c
def Mo (c : Cf) : Addr → Prop := fun b => (∃ n, live c.μ n ∧ b = c.ι n) ∨ ∃ ps, c.H b = some (.tbl ps)
structure Step (c c' : Cf) : Prop where
  g : Grow (Mo c) c.G c.H c'.G c'.H
  len : c.μ.length ≤ c'.μ.length
  ag : ∀ n, n < c.μ.length → c'.ι n = c.ι n
  dead : ∀ n, n < c.μ.length → live c'.μ n → live c.μ n
  fresh : ∀ n, c.μ.length ≤ n → live c'.μ n → c.H (c'.ι n) = none
  lk : c'.L = c.L
  tk : c'.T = c.T
theorem live_lt {μ : Store} {n : Nat} (h : live μ n) : n < μ.length := by
  obtain ⟨x, h⟩ := h
  exact (List.getElem?_eq_some_iff.mp h).1
theorem Step.le {c c' : Cf} (h : Step c c') : Le c c' := ⟨h.g.g, h.len, h.ag⟩
theorem Step.refl {W : Wd} {c : Cf} (h : Ok W c) : Step c c := ⟨Grow.refl h.s, Nat.le_refl _, fun _ _ => rfl, fun _ _ k => k, fun n hn k => absurd (live_lt k) (Nat.not_lt_of_le hn), rfl, rfl⟩
theorem Ok.hcell {W : Wd} {c : Cf} (h : Ok W c) {n : Nat} (l : live c.μ n) : c.H (c.ι n) ≠ none := by
  obtain ⟨x, hx⟩ := l
  obtain ⟨_, o, ho, _⟩ := h.at' n x hx
  rw [ho]; exact fun z => by cases z
theorem Step.trans {a b c : Cf} (h : Step a b) (k : Step b c) : Step a c := by
  have sub : ∀ d o, a.H d = some o → Mo b d → Mo a d := by
    rintro d o e (⟨n, l, rfl⟩ | ⟨q, hq⟩)
    · rcases Nat.lt_or_ge n a.μ.length with hn | hn
      · exact .inl ⟨n, h.dead n hn l, h.ag n hn⟩
      · have := h.fresh n hn l
        rw [this] at e; cases e
    · by_cases m : Mo a d
      · exact m
      · have := h.g.h d o m e
        rw [hq] at this
        cases this
        exact .inr ⟨_, e⟩
  refine ⟨⟨fun d o n e => k.g.h d o (fun m => n (sub d o e m)) (h.g.h d o n e), h.g.g.trans k.g.g, k.g.s, fun d hd => (k.g.n d (h.g.m d hd)).trans (h.g.n d hd), fun d hd => k.g.m d (h.g.m d hd), fun d ps e => h.g.t d ps (k.g.t d ps e), fun d ps e => let ⟨ps', e'⟩ := k.g.u d ps e; h.g.u d ps' e'⟩,
    Nat.le_trans h.len k.len, fun n hn => (k.ag n (Nat.lt_of_lt_of_le hn h.len)).trans (h.ag n hn), fun n hn l => h.dead n hn (k.dead n (Nat.lt_of_lt_of_le hn h.len) l), fun n hn l => ?_, k.lk.trans h.lk, k.tk.trans h.tk⟩
  rcases Nat.lt_or_ge n b.μ.length with hn' | hn'
  · rw [k.ag n hn']
    exact h.fresh n hn (k.dead n hn' l)
  · have q := k.fresh n hn' l
    cases e : a.H (c.ι n) with
    | none => rfl
    | some o => exact absurd q (h.g.m _ (by rw [e]; exact fun z => by cases z))
theorem CellAt.mono {W : Wd} {c c' : Cf} {o : HO} {x : Cell} (e : Le c c') (_l : True) (h : CellAt W c o x) : CellAt W c' o x := by
  cases x with
  | lst ds => obtain ⟨xs, h1, h2⟩ := h; exact ⟨xs, h1, dpa_mono e h2⟩
  | dct ks ds => obtain ⟨xs, h1, h2, h3, h4⟩ := h; exact ⟨xs, h1, h2, h3, dpa_mono e h4⟩
  | lck ks ds => obtain ⟨xs, od, h1, h2, h3, h4⟩ := h; exact ⟨xs, od, h1, h2, h3, dpa_mono e h4⟩
  | obj C ks ds => obtain ⟨g, dx, xs, h1, h2, h3, h4⟩ := h; exact ⟨g, dx, xs, h1, h2, h3, dpa_mono e h4⟩
def Cf.to (c : Cf) (G' H' : Hp) : Cf := ⟨c.ι, c.μ, G', H', c.L, c.T⟩
theorem step_grow {W : Wd} {c : Cf} {G' H' : Hp} (h : Ok W c) (g : Grow NoM c.G c.H G' H') : Ok W (c.to G' H') ∧ Step c (c.to G' H') := by
  have le : Le c (c.to G' H') := ⟨g.g, Nat.le_refl _, fun _ _ => rfl⟩
  refine ⟨⟨g.s, fun a o e => ⟨g.same _ _ (h.lk a o e).1, (h.lk a o e).2⟩, fun n x e => ?_, h.inj, h.lc, h.tb.mono rfl (fun b q e => g.same _ _ e) g.t g.u fun p _ ps e => g.same _ _ e⟩, ⟨g.any, Nat.le_refl _, fun _ _ => rfl, fun _ _ k => k, fun n hn k => absurd (live_lt k) (Nat.not_lt_of_le hn), rfl, rfl⟩⟩
  obtain ⟨h1, o, h2, h3⟩ := h.at' n x e
  exact ⟨(g.n _ (h.hcell ⟨x, e⟩)).trans h1, o, g.same _ _ h2, h3.mono le trivial⟩
theorem step_new {W : Wd} {c : Cf} {p : Addr} {o : HO} (h : Ok W c) (hp : c.H p = none) (no : ∀ ps, o ≠ .tbl ps := by intro _ z; cases z) : Ok W (c.to (upd c.G p o) (upd c.H p o)) ∧ Step c (c.to (upd c.G p o) (upd c.H p o)) :=
  step_grow h (.new h.s hp no)
def Cf.add (c : Cf) (p : Addr) (o : HO) (x : Cell) : Cf := ⟨fun n => if n = c.μ.length then p else c.ι n, c.μ ++ [some x], c.G, upd c.H p o, c.L, c.T⟩
theorem le_add {c : Cf} {p : Addr} {o : HO} {x : Cell} : Le c (c.add p o x) := ⟨Same.refl _, by simp [Cf.add], fun n hn => by simp [Cf.add, Nat.ne_of_lt hn]⟩
theorem live_app {μ : Store} {y : Option Cell} {n : Nat} (h : live (μ ++ [y]) n) : live μ n ∨ (n = μ.length ∧ ∃ x, y = some x) := by
  obtain ⟨x, h⟩ := h
  rcases Nat.lt_trichotomy n μ.length with hn | hn | hn
  · rw [List.getElem?_append_left hn] at h
    exact .inl ⟨x, h⟩
  · subst hn
    simp at h
    exact .inr ⟨rfl, x, h⟩
  · rw [List.getElem?_eq_none (by simp; omega)] at h; cases h
theorem CellAt.noT {W : Wd} {c : Cf} {o : HO} {x : Cell} (h : CellAt W c o x) : ∀ ps, o ≠ .tbl ps := by
  intro ps e
  subst e
  cases x with
  | lst ds => obtain ⟨xs, h1, h2⟩ := h; cases h1
  | dct ks ds => obtain ⟨xs, h1, h2⟩ := h; cases h1
  | lck ks ds => obtain ⟨xs, od, h1, h2⟩ := h; cases h1
  | obj C ks ds => obtain ⟨g, dx, xs, h0, h1, h2⟩ := h; cases h1
theorem step_add {W : Wd} {c : Cf} {p : Addr} {o : HO} {x : Cell} (h : Ok W c) (hp : c.H p = none) (hx : CellAt W c o x) (nx : x.isL = false := by rfl) : Ok W (c.add p o x) ∧ Step c (c.add p o x) := by
  have gp := same_none h.s hp
  have old : ∀ n, n < c.μ.length → (c.add p o x).ι n = c.ι n := fun n hn => by simp [Cf.add, Nat.ne_of_lt hn]
  have top : (c.add p o x).ι c.μ.length = p := by simp [Cf.add]
  have ne : ∀ n, live c.μ n → c.ι n ≠ p := fun n l z => h.hcell l (by rw [z]; exact hp)
  refine ⟨⟨fun b u e => ?_, fun a u e => ⟨by
    show upd c.H p o a = some u
    rw [upd_ne (ne_of_none (h.lk a u e).1 hp)]; exact (h.lk a u e).1, (h.lk a u e).2⟩, fun n y e => ?_, fun n m ln lm e => ?_, fun n y e hy => ?_, h.tb.mono rfl (codeO_upd (codeO_none hp)) (fun _ _ e => e) (tbl_upd hx.noT) fun q _ ps e => by
    show upd c.H p o q.1 = some (.tbl ps)
    rw [upd_ne (ne_of_none e hp)]; exact e⟩, ⟨(Grow.own h.s hp hx.noT), by simp [Cf.add], old, fun n hn l => ?_, fun n hn l => ?_, rfl, rfl⟩⟩
  · show upd c.H p o b = some u
    rw [upd_ne (ne_of_none e gp)]; exact h.s b u e
  · rcases live_app ⟨y, e⟩ with l | ⟨rfl, _⟩
    · have hn := live_lt l
      have e' : c.μ[n]? = some (some y) := by rw [← e]; exact (List.getElem?_append_left hn).symm
      obtain ⟨h1, u, h2, h3⟩ := h.at' n y e'
      rw [old n hn]
      refine ⟨h1, u, ?_, h3.mono le_add trivial⟩
      show upd c.H p o (c.ι n) = some u
      rw [upd_ne (ne n l)]; exact h2
    · have ey : x = y := by
        have : (c.μ ++ [some x])[c.μ.length]? = some (some x) := by simp
        have e2 : (c.μ ++ [some x])[c.μ.length]? = some (some y) := e
        rw [this] at e2
        exact Option.some.inj (Option.some.inj e2)
      subst ey
      rw [top]
      exact ⟨gp, o, upd_same, hx.mono le_add trivial⟩
  · rcases live_app ln with l | ⟨rfl, _⟩
    · rcases live_app lm with k | ⟨rfl, _⟩
      · rw [old n (live_lt l), old m (live_lt k)] at e
        exact h.inj n m l k e
      · rw [old n (live_lt l), top] at e
        exact absurd e (ne n l)
    · rcases live_app lm with k | ⟨rfl, _⟩
      · rw [old m (live_lt k), top] at e
        exact absurd e.symm (ne m k)
      · rfl
  · rcases live_app ⟨y, e⟩ with l | ⟨rfl, _⟩
    · have e' : c.μ[n]? = some (some y) := by rw [← e]; exact (List.getElem?_append_left (live_lt l)).symm
      rw [old n (live_lt l)]
      exact h.lc n y e' hy
    · have e2 : (c.μ ++ [some x])[c.μ.length]? = some (some y) := e
      simp at e2
      rw [← e2, nx] at hy; cases hy
  · rcases live_app l with l | ⟨rfl, _⟩
    · exact l
    · omega
  · rcases live_app l with l | ⟨rfl, _⟩
    · exact absurd (live_lt l) (Nat.not_lt_of_le hn)
    · rw [top]; exact hp
def Cf.put (c : Cf) (n : Nat) (o : HO) (x : Cell) : Cf := ⟨c.ι, c.μ.set n (some x), c.G, upd c.H (c.ι n) o, c.L, c.T⟩
theorem le_put {c : Cf} {n : Nat} {o : HO} {x : Cell} : Le c (c.put n o x) := ⟨Same.refl _, by simp [Cf.put], fun _ _ => rfl⟩
theorem live_set {μ : Store} {x : Cell} {n m : Nat} (l : live μ n) (h : live (μ.set n (some x)) m) : live μ m := by
  obtain ⟨y, h⟩ := h
  by_cases e : n = m
  · subst e; exact l
  · rw [List.getElem?_set_ne e] at h; exact ⟨y, h⟩
theorem CellAt.noF {W : Wd} {c : Cf} {o : HO} {x : Cell} (h : CellAt W c o x) (n : x.isL = false) : ∀ od u, o ≠ .frz od u := by
  intro od u e
  subst e
  cases x with
  | lst ds => obtain ⟨xs, h1, h2⟩ := h; cases h1
  | dct ks ds => obtain ⟨xs, h1, h2⟩ := h; cases h1
  | lck ks ds => cases n
  | obj C ks ds => obtain ⟨g, dx, xs, h0, h1, h2⟩ := h; cases h1
theorem CellAt.noC {W : Wd} {c : Cf} {o : HO} {x : Cell} {a : Addr} (h : CellAt W c o x) : ∀ q, o ≠ LamX.CodeO a q := by
  intro q e
  unfold LamX.CodeO at e
  subst e
  cases x with
  | lst ds => obtain ⟨xs, h1, h2⟩ := h; cases h1
  | dct ks ds => obtain ⟨xs, h1, h2⟩ := h; cases h1
  | lck ks ds => obtain ⟨xs, od, h1, h2⟩ := h; cases h1
  | obj C ks ds => obtain ⟨g, dx, xs, h0, h1, h2⟩ := h; cases h1
theorem step_put {W : Wd} {c : Cf} {n : Nat} {o : HO} {x y0 : Cell} (h : Ok W c) (hy0 : c.μ[n]? = some (some y0)) (ny0 : y0.isL = false) (hx : CellAt W c o x) (nx : x.isL = false := by rfl) : Ok W (c.put n o x) ∧ Step c (c.put n o x) := by
  have l : live c.μ n := ⟨y0, hy0⟩
  have gn : c.G (c.ι n) = none := (h.at' n y0 hy0).1
  refine ⟨⟨fun b u e => ?_, fun a u e => ⟨?_, (h.lk a u e).2⟩, fun m y e => ?_, fun a b la lb e => h.inj a b (live_set l la) (live_set l lb) e, fun m y e hy => ?_, h.tb.mono rfl (codeO_upd fun q z => by
    obtain ⟨_, o', ho', hc'⟩ := h.at' n y0 hy0
    rw [ho'] at z
    exact hc'.noC q (Option.some.inj z)) (fun _ _ e => e) (tbl_upd hx.noT) fun q _ ps e => by
    show upd c.H (c.ι n) o q.1 = some (.tbl ps)
    rw [upd_ne (fun z => ?_)]
    · exact e
    · obtain ⟨_, o', ho', hc'⟩ := h.at' n y0 hy0
      rw [z, ho'] at e
      exact hc'.noT ps (Option.some.inj e)⟩, ⟨(Grow.refl h.s).put (.inr (.inl ⟨n, l, rfl⟩)) gn hx.noT, by simp [Cf.put], fun _ _ => rfl, fun m _ k => live_set l k, fun m hm k => ?_, rfl, rfl⟩⟩
  · show upd c.H (c.ι n) o b = some u
    rw [upd_ne (ne_of_none e gn)]; exact h.s b u e
  · show upd c.H (c.ι n) o a = some u
    obtain ⟨h1, od, u', h2⟩ := h.lk a u e
    obtain ⟨_, o', ho', hc'⟩ := h.at' n y0 hy0
    have : a ≠ c.ι n := fun z => by
      rw [z, ho'] at h1
      exact hc'.noF ny0 od u' ((Option.some.inj h1).trans h2)
    rw [upd_ne this]; exact h1
  · show c.G (c.ι m) = none ∧ ∃ u, upd c.H (c.ι n) o (c.ι m) = some u ∧ _
    by_cases em : n = m
    · subst em
      have : x = y := by
        have e2 : (c.μ.set n (some x))[n]? = some (some y) := e
        rw [List.getElem?_set_self (live_lt l)] at e2
        exact Option.some.inj (Option.some.inj e2)
      subst this
      exact ⟨gn, o, upd_same, hx.mono le_put trivial⟩
    · have e2 : (c.μ.set n (some x))[m]? = some (some y) := e
      rw [List.getElem?_set_ne em] at e2
      obtain ⟨h1, u, h2, h3⟩ := h.at' m y e2
      refine ⟨h1, u, ?_, h3.mono le_put trivial⟩
      rw [upd_ne (fun z => em (h.inj m n ⟨y, e2⟩ l z).symm)]; exact h2
  · by_cases em : n = m
    · subst em
      have e2 : (c.μ.set n (some x))[n]? = some (some y) := e
      rw [List.getElem?_set_self (live_lt l)] at e2
      cases e2
      rw [nx] at hy; cases hy
    · have e2 : (c.μ.set n (some x))[m]? = some (some y) := e
      rw [List.getElem?_set_ne em] at e2
      exact h.lc m y e2 hy
  · have := live_lt k
    have e : (c.put n o x).μ.length = c.μ.length := by simp [Cf.put]
    rw [e] at this
    omega
def Cf.frz (c : Cf) (n : Nat) (o : HO) : Cf := ⟨c.ι, c.μ.set n none, upd c.G (c.ι n) o, c.H, c.L, c.T⟩
def ExcAt (W : Wd) (c : Cf) (u : Value) (o : Option Addr) (x : Exc) : Prop := ∃ g, W.cm x.C = some g ∧ u = .ref g ∧ ((o = none ∧ x.ks = [] ∧ x.ds = []) ∨ ∃ dx xs, o = some dx ∧ c.G dx = some (.xd (fsL x.ks xs)) ∧ x.ks.length = xs.length ∧ DpA W c xs x.ds)
def Wp {β α : Type} (W : Wd) (R : Cf → β → α → Prop) (r : Res α) (c : Cf) (Q : β → Hp → Prop) (E : XK) : Prop :=
  match r with
  | .ok d μ' => ∀ v c', c'.μ = μ' → Step c c' → Ok W c' → R c' v d → Q v c'.H
  | .exc x μ' => ∀ u o c', c'.μ = μ' → Step c c' → Ok W c' → ExcAt W c' u o x → E u o c'.H
  | .bad => False
def Res.bind {α β : Type} (r : Res α) (f : α → Store → Res β) : Res β :=
  match r with
  | .ok a μ => f a μ
  | .exc x μ => .exc x μ
  | .bad => .bad
theorem Wp.from {β α : Type} {W : Wd} {R : Cf → β → α → Prop} {r : Res α} {c c1 : Cf} {Q : β → Hp → Prop} {E : XK} (h : Wp W R r c Q E) (s : Step c c1) : Wp W R r c1 Q E := by
  cases r with
  | ok d μ => exact fun v c' e st => h v c' e (s.trans st)
  | exc x μ => exact fun u o c' e st => h u o c' e (s.trans st)
  | bad => exact h
theorem wp_bind {β β' α α' : Type} {W : Wd} {R : Cf → β → α → Prop} {R' : Cf → β' → α' → Prop} {r : Res α} {f : α → Store → Res α'} {c : Cf} {Q : β' → Hp → Prop} {Q1 : β → Hp → Prop} {E : XK} (h : Wp W R' (r.bind f) c Q E)
    (k : ∀ v d c1, Step c c1 → Ok W c1 → R c1 v d → Wp W R' (f d c1.μ) c1 Q E → Q1 v c1.H) : Wp W R r c Q1 E := by
  cases r with
  | ok d μ => exact fun v c' e st ok r => k v d c' st ok r (by rw [e]; exact h.from st)
  | exc x μ => exact h
  | bad => exact h
theorem wp_ret {β α : Type} {W : Wd} {R : Cf → β → α → Prop} {a : α} {v : β} {c : Cf} {Q : β → Hp → Prop} {E : XK} (h : Wp W R (.ok a c.μ) c Q E) (ok : Ok W c) (r : R c v a) : Q v c.H := h v c rfl (.refl ok) ok r
end Mi
namespace Mi
open PySem PySem.Spec L2
mutual
def D.pdW (f : Nat → Option PyData) : D → Option PyData
  | .non => some .none
  | .bl b => some (.bool b)
  | .int i => some (.int i)
  | .str s => some (.str s)
  | .lst ds => (pdsW f ds).map .list
  | .tup ds => (pdsW f ds).map .tuple
  | .dct ks ds => (pdsW f ds).map fun ps => .dict (Cs.dctD ks ps)
  | .own n => f n
  | _ => none
def pdsW (f : Nat → Option PyData) : List D → Option (List PyData)
  | [] => some []
  | d :: ds => match d.pdW f, pdsW f ds with
    | some p, some ps => some (p :: ps)
    | _, _ => none
end
def cellV (f : Nat → Option PyData) : Cell → Option PyData
  | .lst ds => (pdsW f ds).map .list
  | .dct ks ds => (pdsW f ds).map fun ps => .dict (Cs.dctD ks ps)
  | .lck ks ds => (pdsW f ds).map fun ps => .dict (Cs.dctD ks ps)
  | .obj .. => none
def vf : Nat → Store → Nat → Option PyData
  | 0, _, _ => none
  | k + 1, μ, n => match μ[n]? with
    | some (some x) => cellV (vf k μ) x
    | _ => none
def D.view (μ : Store) (d : D) : Option PyData := d.pdW (vf 4 μ)
section
variable {W : Wd} {c : Cf}
mutual
theorem dp_pdW {f : Nat → Option PyData} (s : Same c.G c.H) (hf : ∀ n p, n < c.μ.length → f n = some p → Cs.Dp W.K c.H (.ref (c.ι n)) p) : ∀ {d : D} {v : V} {p : PyData}, Dp W c v d → d.pdW f = some p → Cs.Dp W.K c.H v p
  | _, _, _, .non, e => by cases Option.some.inj e; exact .non
  | _, _, _, .bl b, e => by cases Option.some.inj e; exact .bl b
  | _, _, _, .int i, e => by cases Option.some.inj e; exact .int i
  | _, _, _, .str i, e => by cases Option.some.inj e; exact .str i
  | _, _, _, .ty n, e => by cases e
  | .lst ds, _, p, .lst hs ha, e => by
    unfold D.pdW at e
    cases q : pdsW f ds with
    | none => rw [q] at e; cases e
    | some ps =>
      rw [q] at e
      cases Option.some.inj e
      exact .lst (s.seq hs) (dpa_pdW s hf ha q)
  | .tup ds, _, p, .tup hs ha, e => by
    unfold D.pdW at e
    cases q : pdsW f ds with
    | none => rw [q] at e; cases e
    | some ps =>
      rw [q] at e
      cases Option.some.inj e
      exact .tup (Cs.sqt_mono s hs) (dpa_pdW s hf ha q)
  | .dct ks ds, _, p, .dct hr hl hn ha, e => by
    unfold D.pdW at e
    cases q : pdsW f ds with
    | none => rw [q] at e; cases e
    | some ps =>
      rw [q] at e
      cases Option.some.inj e
      exact .dct (Cs.rd_same s hr) hl hn (dpa_pdW s hf ha q)
  | _, _, _, .obj .., e => by cases e
  | _, _, _, .exc .., e => by cases e
  | _, _, _, .cls .., e => by cases e
  | _, _, _, .own hn, e => hf _ _ hn e
theorem dpa_pdW {f : Nat → Option PyData} (s : Same c.G c.H) (hf : ∀ n p, n < c.μ.length → f n = some p → Cs.Dp W.K c.H (.ref (c.ι n)) p) : ∀ {ds : List D} {vs : List V} {ps : List PyData}, DpA W c vs ds → pdsW f ds = some ps → Cs.DpAll W.K c.H vs ps
  | _, _, _, .nil, e => by cases Option.some.inj e; exact .nil
  | d :: ds, _, _, .cons h t, e => by
    unfold pdsW at e
    split at e
    · rename_i p ps h1 h2
      cases Option.some.inj e
      exact .cons (dp_pdW s hf h h1) (dpa_pdW s hf t h2)
    · cases e
end
theorem vf_ok (ok : Ok W c) : ∀ k n p, n < c.μ.length → vf k c.μ n = some p → Cs.Dp W.K c.H (.ref (c.ι n)) p
  | 0, _, _, _, e => by cases e
  | k + 1, n, p, hn, e => by
    unfold vf at e
    split at e
    · rename_i x hx
      obtain ⟨_, o, ho, hc⟩ := ok.at' n x hx
      cases x with
      | lst ds =>
        obtain ⟨xs, rfl, ha⟩ := hc
        unfold cellV at e
        dsimp only at e
        cases q : pdsW (vf k c.μ) ds with
        | none => rw [q] at e; cases e
        | some ps =>
          rw [q] at e
          cases Option.some.inj e
          exact .lst (.inl (.inl ho)) (dpa_pdW ok.s (vf_ok ok k) ha q)
      | dct ks ds =>
        obtain ⟨xs, rfl, hl, hnd, ha⟩ := hc
        unfold cellV at e
        dsimp only at e
        cases q : pdsW (vf k c.μ) ds with
        | none => rw [q] at e; cases e
        | some ps =>
          rw [q] at e
          cases Option.some.inj e
          exact .dct (.inl ho) hl hnd (dpa_pdW ok.s (vf_ok ok k) ha q)
      | lck ks ds =>
        obtain ⟨xs, od, rfl, hl, hnd, ha⟩ := hc
        unfold cellV at e
        dsimp only at e
        cases q : pdsW (vf k c.μ) ds with
        | none => rw [q] at e; cases e
        | some ps =>
          rw [q] at e
          cases Option.some.inj e
          exact .dct (.inr ⟨od, ho⟩) hl hnd (dpa_pdW ok.s (vf_ok ok k) ha q)
      | obj C ks ds => cases e
    · cases e
theorem dp_view (ok : Ok W c) {d : D} {v : V} {p : PyData} (h : Dp W c v d) (e : d.view c.μ = some p) : Cs.Dp W.K c.H v p := dp_pdW ok.s (vf_ok ok 4) h e
def seqL (μ : Store) : D → Option (List D)
  | .lst ds => some ds
  | .own n => match μ[n]? with
    | some (some (.lst ds)) => some ds
    | _ => none
  | _ => none
def seqT : D → Option (List D)
  | .tup ds => some ds
  | _ => none
def dctOf (μ : Store) : D → Option (List Key × List D)
  | .dct ks ds => some (ks, ds)
  | .own n => match μ[n]? with
    | some (some (.dct ks ds)) => some (ks, ds)
    | some (some (.lck ks ds)) => some (ks, ds)
    | _ => none
  | _ => none
def objOf (μ : Store) : D → Option (String × List Str × List D)
  | .obj C ks ds => some (C, ks, ds)
  | .own n => match μ[n]? with
    | some (some (.obj C ks ds)) => some (C, ks, ds)
    | _ => none
  | _ => none
theorem seqL_ok (ok : Ok W c) {d : D} {v : V} {ds : List D} (h : Dp W c v d) (e : seqL c.μ d = some ds) : ∃ a xs, v = .ref a ∧ SqL W.K c.H a xs ∧ DpA W c xs ds := by
  cases h with
  | lst hs ha =>
    cases Option.some.inj e
    exact ⟨_, _, rfl, ok.s.seq hs, ha⟩
  | own hn =>
    unfold seqL at e
    dsimp only at e
    split at e
    · rename_i x hx
      cases Option.some.inj e
      obtain ⟨_, o, ho, xs, rfl, ha⟩ := ok.at' _ _ hx
      exact ⟨_, xs, rfl, .inl (.inl ho), ha⟩
    · cases e
  | _ => cases e
theorem seqT_ok (ok : Ok W c) {d : D} {v : V} {ds : List D} (h : Dp W c v d) (e : seqT d = some ds) : ∃ a xs, v = .ref a ∧ SqT W.K c.H a xs ∧ DpA W c xs ds := by
  cases h with
  | tup hs ha =>
    cases Option.some.inj e
    exact ⟨_, _, rfl, Cs.sqt_mono ok.s hs, ha⟩
  | _ => cases e
theorem dct_ok (ok : Ok W c) {d : D} {v : V} {ks : List Key} {ds : List D} (h : Dp W c v d) (e : dctOf c.μ d = some (ks, ds)) : ∃ a xs, v = .ref a ∧ Rd c.H a (.dK (Cs.kvL ks xs)) ∧ ks.length = xs.length ∧ ks.Nodup ∧ DpA W c xs ds := by
  cases h with
  | dct hr hl hn ha =>
    cases Option.some.inj e
    exact ⟨_, _, rfl, Cs.rd_same ok.s hr, hl, hn, ha⟩
  | own hn =>
    unfold dctOf at e
    dsimp only at e
    split at e
    · rename_i x hx
      cases Option.some.inj e
      obtain ⟨_, o, ho, xs, rfl, hl, hnd, ha⟩ := ok.at' _ _ hx
      exact ⟨_, xs, rfl, .inl ho, hl, hnd, ha⟩
    · rename_i x hx
      cases Option.some.inj e
      obtain ⟨_, o, ho, xs, od, rfl, hl, hnd, ha⟩ := ok.at' _ _ hx
      exact ⟨_, xs, rfl, .inr ⟨od, ho⟩, hl, hnd, ha⟩
    · cases e
  | _ => cases e
def newL (b : Bool) (ds : List D) (μ : Store) : Res D := if b = true then .ok (.own μ.length) (μ ++ [some (.lst ds)]) else .ok (.lst ds) μ
def newK (b : Bool) (ks : List Key) (ds : List D) (μ : Store) : Res D := if b = true then .ok (.own μ.length) (μ ++ [some (.dct ks ds)]) else .ok (.dct ks ds) μ
variable {Q : VK} {E : XK}
theorem own_top {p : Addr} {o : HO} {x : Cell} : Dp W (c.add p o x) (.ref p) (.own c.μ.length) := by
  have e : (c.add p o x).ι c.μ.length = p := by simp [Cf.add]
  have := Dp.own (W := W) (c := c.add p o x) (n := c.μ.length) (by simp [Cf.add])
  rw [e] at this; exact this
theorem wp_newL {b : Bool} {ds : List D} {xs : List V} {p : Addr} (h : Wp W (Dp W) (newL b ds c.μ) c Q E) (ok : Ok W c) (ha : DpA W c xs ds) (hp : c.H p = none) : Q (.ref p) (upd c.H p (.lst xs)) := by
  cases b with
  | true =>
    obtain ⟨h1, h2⟩ := step_add (x := .lst ds) ok hp ⟨xs, rfl, ha⟩
    exact h (.ref p) _ rfl h2 h1 own_top
  | false =>
    obtain ⟨h1, h2⟩ := step_new (o := .lst xs) ok hp
    exact h (.ref p) (c.to (upd c.G p (.lst xs)) (upd c.H p (.lst xs))) rfl h2 h1 (.lst (.inl (.inl upd_same)) (dpa_mono h2.le ha))
theorem wp_newK {b : Bool} {ks : List Key} {ds : List D} {xs : List V} {p : Addr} (h : Wp W (Dp W) (newK b ks ds c.μ) c Q E) (ok : Ok W c) (ha : DpA W c xs ds) (hl : ks.length = xs.length) (hn : ks.Nodup) (hp : c.H p = none) : Q (.ref p) (upd c.H p (.dK (Cs.kvL ks xs))) := by
  cases b with
  | true =>
    obtain ⟨h1, h2⟩ := step_add (x := .dct ks ds) ok hp ⟨xs, rfl, hl, hn, ha⟩
    exact h (.ref p) _ rfl h2 h1 own_top
  | false =>
    obtain ⟨h1, h2⟩ := step_new (o := .dK (Cs.kvL ks xs)) ok hp
    exact h (.ref p) (c.to (upd c.G p (.dK (Cs.kvL ks xs))) (upd c.H p (.dK (Cs.kvL ks xs)))) rfl h2 h1 (.dct (.inl upd_same) hl hn (dpa_mono h2.le ha))
theorem wp_newT {ds : List D} {xs : List V} {p : Addr} (h : Wp W (Dp W) (.ok (.tup ds) c.μ) c Q E) (ok : Ok W c) (ha : DpA W c xs ds) (hp : c.H p = none) : Q (.ref p) (upd c.H p (.tup xs)) := by
  obtain ⟨h1, h2⟩ := step_new (o := .tup xs) ok hp
  exact h (.ref p) (c.to (upd c.G p (.tup xs)) (upd c.H p (.tup xs))) rfl h2 h1 (.tup (.inl (.inl upd_same)) (dpa_mono h2.le ha))
end
def EnvR (W : Wd) (c : Cf) (σ : L2.St) (ρ : Env) : Prop := σ.length = ρ.length ∧ ∀ (i : Nat) (d : D), ρ[i]? = some (some d) → ∃ v, σ[i]? = some (some v) ∧ Dp W c v d
theorem EnvR.mono {W : Wd} {c c' : Cf} {σ : L2.St} {ρ : Env} (e : Le c c') (h : EnvR W c σ ρ) : EnvR W c' σ ρ := ⟨h.1, fun i d q => by
  obtain ⟨v, h1, h2⟩ := h.2 i d q
  exact ⟨v, h1, dp_mono e h2⟩⟩
theorem EnvR.set {W : Wd} {c : Cf} {σ : L2.St} {ρ : Env} {v : V} {d : D} (i : Nat) (h : EnvR W c σ ρ) (r : Dp W c v d) : EnvR W c (σ.set i (some v)) (ρ.set i (some d)) := by
  refine ⟨by rw [List.length_set, List.length_set]; exact h.1, fun j e q => ?_⟩
  by_cases hj : i = j
  · subst hj
    have hl : i < ρ.length := by
      have := (List.getElem?_eq_some_iff.mp q).1
      rwa [List.length_set] at this
    rw [List.getElem?_set_self hl] at q
    cases Option.some.inj (Option.some.inj q)
    exact ⟨v, List.getElem?_set_self (by rw [h.1]; exact hl), r⟩
  · rw [List.getElem?_set_ne hj] at q
    obtain ⟨u, h1, h2⟩ := h.2 j e q
    exact ⟨u, by rw [List.getElem?_set_ne hj]; exact h1, h2⟩
theorem EnvR.unset {W : Wd} {c : Cf} {σ : L2.St} {ρ : Env} (i : Nat) (h : EnvR W c σ ρ) : EnvR W c (σ.set i none) (ρ.set i none) := by
  refine ⟨by rw [List.length_set, List.length_set]; exact h.1, fun j e q => ?_⟩
  by_cases hj : i = j
  · subst hj
    have hl : i < ρ.length := by
      have := (List.getElem?_eq_some_iff.mp q).1
      rwa [List.length_set] at this
    rw [List.getElem?_set_self hl] at q
    cases Option.some.inj q
  · rw [List.getElem?_set_ne hj] at q
    obtain ⟨u, h1, h2⟩ := h.2 j e q
    exact ⟨u, by rw [List.getElem?_set_ne hj]; exact h1, h2⟩
def wipeD (ρ : Env) : List Nat → Env
  | [] => ρ
  | v :: vs => (wipeD ρ vs).set v none
theorem EnvR.wipe {W : Wd} {c : Cf} {σ : L2.St} {ρ : Env} (h : EnvR W c σ ρ) : ∀ vs : List Nat, EnvR W c (L2.wipe σ vs) (wipeD ρ vs)
  | [] => h
  | v :: vs => (EnvR.wipe h vs).unset v
def startD (n : Nat) (ds : List D) : Env := ds.map some ++ List.replicate (n - ds.length) none
theorem EnvR.start {W : Wd} {c : Cf} {N : List Str} {vs : List V} {ds : List D} (h : DpA W c vs ds) : EnvR W c (L2.start N vs) (startD N.length ds) := by
  have hl := dpa_len h
  refine ⟨by simp [L2.start, startD, hl], fun i d q => ?_⟩
  unfold startD at q
  by_cases hi : i < ds.length
  · rw [List.getElem?_append_left (by simpa using hi), List.getElem?_map] at q
    cases e : ds[i]? with
    | none => rw [e] at q; cases q
    | some d' =>
      rw [e] at q
      cases Option.some.inj (Option.some.inj q)
      obtain ⟨v, h1, h2⟩ := dpa_get h e
      refine ⟨v, ?_, h2⟩
      unfold L2.start
      rw [List.getElem?_append_left (by simp; omega), List.getElem?_map, h1]; rfl
  · rw [List.getElem?_append_right (by simp; omega)] at q
    rw [List.getElem?_replicate] at q
    split at q
    · cases Option.some.inj q
    · cases q
section
variable (W : Wd) (E : XK)
def tE (m : ME) : TE := fun σ H Q => ∃ ρ c, c.H = H ∧ Ok W c ∧ EnvR W c σ ρ ∧ Wp W (Dp W) (m ρ c.μ) c Q E
def tT (m : MT) : TT := fun σ H Q => ∃ ρ c, c.H = H ∧ Ok W c ∧ EnvR W c σ ρ ∧ Wp W (fun _ (b d : Bool) => b = d) (m ρ c.μ) c Q E
def tA (m : MA) : TA := fun σ H Q => ∃ ρ c, c.H = H ∧ Ok W c ∧ EnvR W c σ ρ ∧ Wp W (DpA W) (m ρ c.μ) c Q E
end
section
variable {W : Wd} {E : XK} {X : Cx} {e : Expr} {es : List Expr}
theorem pe_weak {t t' : TE} (h : PE X e t) (f : ∀ σ H Q, t' σ H Q → t σ H Q) : PE X e t' := ⟨fun pins s σ H Q I q => h.run pins s σ H Q I (f _ _ _ q)⟩
theorem pt_weak {t t' : TT} (h : PT X e t) (f : ∀ σ H Q, t' σ H Q → t σ H Q) : PT X e t' := ⟨fun pins s σ H Q I q => h.run pins s σ H Q I (f _ _ _ q)⟩
theorem pw_weak {t t' : TT} (h : PW X e t) (f : ∀ σ H Q, t' σ H Q → t σ H Q) : PW X e t' := ⟨fun wh pins s σ H Q I q => h.run wh pins s σ H Q I (f _ _ _ q)⟩
theorem pa_weak {t t' : TA} (h : PA X es t) (f : ∀ σ H Q, t' σ H Q → t σ H Q) : PA X es t' := ⟨fun p pins s σ H Q I q => h.run p pins s σ H Q I (f _ _ _ q)⟩
def mVar (i : Nat) : ME := fun ρ μ => match ρ[i]? with
  | some (some d) => .ok d μ
  | _ => .bad
theorem me_var {i : Nat} (h : PE X e (tVar i)) : PE X e (tE W E (mVar i)) := pe_weak h fun σ H Q ⟨ρ, c, hH, ok, env, w⟩ => by
  subst hH
  unfold mVar at w
  split at w
  · rename_i d hd
    obtain ⟨v, h1, h2⟩ := env.2 i d hd
    exact ⟨v, h1, wp_ret w ok h2⟩
  · exact w.elim
def mC (d : D) : ME := fun _ μ => .ok d μ
theorem me_c {v : V} {d : D} (h : PE X e (tC v)) (hd : ∀ c, Dp W c v d) : PE X e (tE W E (mC d)) := pe_weak h fun σ H Q ⟨ρ, c, hH, ok, env, w⟩ => by
  subst hH
  exact wp_ret w ok (hd c)
theorem me_non (h : PE X e (tC .non)) : PE X e (tE W E (mC .non)) := me_c h fun _ => .non
theorem me_bl {b : Bool} (h : PE X e (tC (.bl b))) : PE X e (tE W E (mC (.bl b))) := me_c h fun _ => .bl b
theorem me_int {i : Int} (h : PE X e (tC (.int i))) : PE X e (tE W E (mC (.int i))) := me_c h fun _ => .int i
theorem me_str {x : Str} (h : PE X e (tC (.str x))) : PE X e (tE W E (mC (.str x))) := me_c h fun _ => .str x
def OpM (W : Wd) (E : XK) (r : R2) (f : D → D → Store → Res D) : Prop := ∀ c x y v u Q, Ok W c → Dp W c v x → Dp W c u y → Wp W (Dp W) (f x y c.μ) c Q E → r v u c.H Q
def mOp (f : D → D → Store → Res D) (a b : ME) : ME := fun ρ μ => (a ρ μ).bind fun x μ => (b ρ μ).bind fun y μ => f x y μ
theorem te_op {r : R2} {f : D → D → Store → Res D} {a b : ME} {σ : L2.St} {H : Hp} {Q : VK} (hf : OpM W E r f) (h : tE W E (mOp f a b) σ H Q) : tOp r (tE W E a) (tE W E b) σ H Q := by
  obtain ⟨ρ, c, hH, ok, env, w⟩ := h
  exact ⟨ρ, c, hH, ok, env, wp_bind w fun v x c1 s1 ok1 r1 w1 => ⟨ρ, c1, rfl, ok1, env.mono s1.le, wp_bind w1 fun u y c2 s2 ok2 r2 w2 => hf c2 x y v u Q ok2 (dp_mono s2.le r1) r2 w2⟩⟩
theorem me_op {r : R2} {f : D → D → Store → Res D} {a b : ME} (hf : OpM W E r f) (h : PE X e (tOp r (tE W E a) (tE W E b))) : PE X e (tE W E (mOp f a b)) := pe_weak h fun _ _ _ => te_op hf
def UnM (W : Wd) (E : XK) (r : V → Hp → VK → Prop) (f : D → Store → Res D) : Prop := ∀ c x v Q, Ok W c → Dp W c v x → Wp W (Dp W) (f x c.μ) c Q E → r v c.H Q
def mUn (f : D → Store → Res D) (a : ME) : ME := fun ρ μ => (a ρ μ).bind f
theorem me_un {r : V → Hp → VK → Prop} {f : D → Store → Res D} {a : ME} (hf : UnM W E r f) (h : PE X e (tUn r (tE W E a))) : PE X e (tE W E (mUn f a)) := pe_weak h fun σ H Q ⟨ρ, c, hH, ok, env, w⟩ =>
  ⟨ρ, c, hH, ok, env, wp_bind w fun v x c1 s1 ok1 r1 w1 => hf c1 x v Q ok1 r1 w1⟩
def CbM (W : Wd) (E : XK) (r : List V → Hp → VK → Prop) (f : List D → Store → Res D) : Prop := ∀ c xs vs Q, Ok W c → DpA W c vs xs → Wp W (Dp W) (f xs c.μ) c Q E → r vs c.H Q
def mCb (f : List D → Store → Res D) (a : MA) : ME := fun ρ μ => (a ρ μ).bind f
theorem me_cb {r : List V → Hp → VK → Prop} {f : List D → Store → Res D} {a : MA} (hf : CbM W E r f) (h : PE X e (tCB r (tA W E a))) : PE X e (tE W E (mCb f a)) := pe_weak h fun σ H Q ⟨ρ, c, hH, ok, env, w⟩ =>
  ⟨ρ, c, hH, ok, env, wp_bind w fun v x c1 s1 ok1 r1 w1 => hf c1 x v Q ok1 r1 w1⟩
def mChain (f g : D → D → Store → Res D) (a b d : ME) : ME := fun ρ μ => (a ρ μ).bind fun x μ => (b ρ μ).bind fun y μ => (f x y μ).bind fun z μ => match z with
  | .bl true => (d ρ μ).bind fun w μ => g y w μ
  | .bl false => .ok (.bl false) μ
  | _ => .bad
def mAndV (a b : ME) : ME := fun ρ μ => (a ρ μ).bind fun x μ => match x with
  | .bl true => b ρ μ
  | .bl false => .ok (.bl false) μ
  | _ => .bad
def mOrV (a b : ME) : ME := fun ρ μ => (a ρ μ).bind fun x μ => match x with
  | .bl false => b ρ μ
  | .bl true => .ok (.bl true) μ
  | _ => .bad
def mNotV (a : ME) : ME := fun ρ μ => (a ρ μ).bind fun x μ => match x with
  | .bl k => .ok (.bl (!k)) μ
  | _ => .bad
def truD (μ : Store) : D → Option Bool
  | .non => some false
  | .bl b => some b
  | .int i => some (i != 0)
  | .str x => if x.length ≤ sizeLine then some ((x.length : Int) != 0) else none
  | .lst ds => some (!ds.isEmpty)
  | .tup ds => some (!ds.isEmpty)
  | .own n => match μ[n]? with
    | some (some (.lst ds)) => some (!ds.isEmpty)
    | some (some (.dct ks _)) => some (!ks.isEmpty)
    | _ => none
  | _ => none
theorem isEmpty_len {α β : Type} {xs : List α} {ys : List β} (h : xs.length = ys.length) : xs.isEmpty = ys.isEmpty := by
  cases xs <;> cases ys <;> simp_all
theorem kvL_len {ks : List Key} {xs : List V} (h : ks.length = xs.length) : (Cs.kvL ks xs).length = ks.length := by simp [Cs.kvL, h]
theorem tru_of {c : Cf} {v : V} {d : D} {k : Bool} (ok : Ok W c) (h : Dp W c v d) (e : truD c.μ d = some k) : TruV W.K v c.H k := by
  cases h with
  | non => cases Option.some.inj e; rfl
  | bl b => cases Option.some.inj e; rfl
  | int i => cases Option.some.inj e; rfl
  | str x =>
    unfold truD at e
    dsimp only at e
    split at e
    · rename_i hx
      cases Option.some.inj e
      exact ⟨hx, rfl⟩
    · cases e
  | lst hs ha => cases Option.some.inj e; exact .inl ⟨_, ok.s.seq hs, by rw [isEmpty_len (dpa_len ha)]⟩
  | tup hs ha => cases Option.some.inj e; exact .inr (.inl ⟨_, Cs.sqt_mono ok.s hs, by rw [isEmpty_len (dpa_len ha)]⟩)
  | own hn =>
    unfold truD at e
    dsimp only at e
    split at e
    · rename_i ds hx
      cases Option.some.inj e
      obtain ⟨_, o, ho, xs, rfl, ha⟩ := ok.at' _ _ hx
      exact .inl ⟨xs, .inl (.inl ho), by rw [isEmpty_len (dpa_len ha)]⟩
    · rename_i ks ds hx
      cases Option.some.inj e
      obtain ⟨_, o, ho, xs, rfl, hl, _, ha⟩ := ok.at' _ _ hx
      exact .inr (.inr ⟨_, ho, by rw [isEmpty_len (kvL_len hl)]⟩)
    · cases e
  | _ => cases e
def mOrT (a b : ME) : ME := fun ρ μ => (a ρ μ).bind fun x μ => match truD μ x with
  | some false => b ρ μ
  | some true => .ok x μ
  | none => .bad
theorem me_orT {a b : ME} (h : PE X e (tOrT W.K (tE W E a) (tE W E b))) : PE X e (tE W E (mOrT a b)) := pe_weak h fun σ H Q ⟨ρ, c, hH, ok, env, w⟩ =>
  ⟨ρ, c, hH, ok, env, wp_bind w fun v x c1 s1 ok1 r1 w1 => by
    split at w1
    · rename_i e; exact ⟨false, tru_of ok1 r1 e, by rw [if_neg Bool.false_ne_true]; exact ⟨ρ, c1, rfl, ok1, env.mono s1.le, w1⟩⟩
    · rename_i e; exact ⟨true, tru_of ok1 r1 e, by rw [if_pos rfl]; exact wp_ret w1 ok1 r1⟩
    · exact w1.elim⟩
def mB (a : ME) : MT := fun ρ μ => (a ρ μ).bind fun x μ => match x with
  | .bl k => .ok k μ
  | _ => .bad
def mTru (a : ME) : MT := fun ρ μ => (a ρ μ).bind fun x μ => match truD μ x with
  | some k => .ok k μ
  | none => .bad
theorem tb_of {a : ME} {σ : L2.St} {H : Hp} {Q : Bool → Hp → Prop} (h : tT W E (mB a) σ H Q) : tE W E a σ H fun x H1 => ∃ k, x = .bl k ∧ Q k H1 := by
  obtain ⟨ρ, c, hH, ok, env, w⟩ := h
  refine ⟨ρ, c, hH, ok, env, wp_bind w fun v x c1 s1 ok1 r1 w1 => ?_⟩
  cases r1 with
  | bl k => exact ⟨k, rfl, wp_ret w1 ok1 rfl⟩
  | _ => exact w1.elim
theorem mt_val {a : ME} (h : PT X e (tB (tE W E a))) : PT X e (tT W E (mB a)) := pt_weak h fun _ _ _ => tb_of
theorem mt_cmp {r : R2} {f : D → D → Store → Res D} {a b : ME} (hf : OpM W E r f) (h : PT X e (tTest (tOp r (tE W E a) (tE W E b)))) : PT X e (tT W E (mB (mOp f a b))) := pt_weak h fun _ _ _ q => te_op hf (tb_of q)
def mAnd (a b : MT) : MT := fun ρ μ => (a ρ μ).bind fun x μ => if x = true then b ρ μ else .ok false μ
def mOr (a b : MT) : MT := fun ρ μ => (a ρ μ).bind fun x μ => if x = true then .ok true μ else b ρ μ
def mNot (a : MT) : MT := fun ρ μ => (a ρ μ).bind fun x μ => .ok (!x) μ
theorem tt_or {a b : MT} {σ : L2.St} {H : Hp} {Q : Bool → Hp → Prop} (h : tT W E (mOr a b) σ H Q) : L2.tOr (tT W E a) (tT W E b) σ H Q := by
  obtain ⟨ρ, c, hH, ok, env, w⟩ := h
  refine ⟨ρ, c, hH, ok, env, wp_bind w fun v x c1 s1 ok1 r1 w1 => ?_⟩
  subst r1
  cases v with
  | false => rw [if_neg Bool.false_ne_true] at w1 ⊢; exact ⟨ρ, c1, rfl, ok1, env.mono s1.le, w1⟩
  | true => rw [if_pos rfl] at w1 ⊢; exact wp_ret w1 ok1 rfl
theorem mw_or {a b : MT} (h : PW X e (L2.tOr (tT W E a) (tT W E b))) : PW X e (tT W E (mOr a b)) := pw_weak h fun _ _ _ => tt_or
theorem mt_not {a : MT} (h : PT X e (L2.tNot (tT W E a))) : PT X e (tT W E (mNot a)) := pt_weak h fun σ H Q ⟨ρ, c, hH, ok, env, w⟩ =>
  ⟨ρ, c, hH, ok, env, wp_bind w fun v x c1 s1 ok1 r1 w1 => by
    subst r1
    exact wp_ret w1 ok1 rfl⟩
def mIf (t : MT) (a b : ME) : ME := fun ρ μ => (t ρ μ).bind fun x μ => if x = true then a ρ μ else b ρ μ
def mNil : MA := fun _ μ => .ok [] μ
def mCons (a : ME) (b : MA) : MA := fun ρ μ => (a ρ μ).bind fun x μ => (b ρ μ).bind fun xs μ => .ok (x :: xs) μ
theorem ma_nil (h : PA X es tNil) : PA X es (tA W E mNil) := pa_weak h fun σ H Q ⟨ρ, c, hH, ok, env, w⟩ => by
  subst hH
  exact wp_ret w ok .nil
theorem ma_cons {a : ME} {b : MA} (h : PA X es (tCons (tE W E a) (tA W E b))) : PA X es (tA W E (mCons a b)) := pa_weak h fun σ H Q ⟨ρ, c, hH, ok, env, w⟩ =>
  ⟨ρ, c, hH, ok, env, wp_bind w fun v x c1 s1 ok1 r1 w1 => ⟨ρ, c1, rfl, ok1, env.mono s1.le, wp_bind w1 fun vs xs c2 s2 ok2 r2 w2 => wp_ret w2 ok2 (.cons (dp_mono s2.le r1) r2)⟩⟩
def mTup (a : MA) : ME := fun ρ μ => (a ρ μ).bind fun xs μ => if xs.length ≤ sizeLine then .ok (.tup xs) μ else .bad
def mLst (b : Bool) (a : MA) : ME := fun ρ μ => (a ρ μ).bind fun xs μ => if xs.length ≤ sizeLine then newL b xs μ else .bad
theorem me_tup {a : MA} (h : PE X e (tTup (tA W E a))) : PE X e (tE W E (mTup a)) := pe_weak h fun σ H Q ⟨ρ, c, hH, ok, env, w⟩ =>
  ⟨ρ, c, hH, ok, env, wp_bind w fun v x c1 s1 ok1 r1 w1 => by
    split at w1
    · rename_i hl; exact ⟨by rw [dpa_len r1]; exact hl, fun p hp => wp_newT w1 ok1 r1 hp⟩
    · exact w1.elim⟩
theorem me_lst {b : Bool} {a : MA} (h : PE X e (tLst (tA W E a))) : PE X e (tE W E (mLst b a)) := pe_weak h fun σ H Q ⟨ρ, c, hH, ok, env, w⟩ =>
  ⟨ρ, c, hH, ok, env, wp_bind w fun v x c1 s1 ok1 r1 w1 => by
    split at w1
    · rename_i hl; exact ⟨by rw [dpa_len r1]; exact hl, fun p hp => wp_newL w1 ok1 r1 hp⟩
    · exact w1.elim⟩
end
end Mi
namespace Mi
open PySem PySem.Spec L2
def WpS (W : Wd) (r : ResS) (c0 cs : Cf) (D : Ends) (E : XK) : Prop :=
  match r with
  | .nx ρ μ => ∀ σ c, c.μ = μ → Step c0 c → Le cs c → Ok W c → EnvR W c σ ρ → D.nx σ c.H
  | .rt d μ => ∀ v c, c.μ = μ → Step c0 c → Ok W c → Dp W c v d → D.rt v c.H
  | .bk ρ μ => ∀ σ c, c.μ = μ → Step c0 c → Le cs c → Ok W c → EnvR W c σ ρ → D.bk σ c.H
  | .ct ρ μ => ∀ σ c, c.μ = μ → Step c0 c → Le cs c → Ok W c → EnvR W c σ ρ → D.ct σ c.H
  | .exc x μ => ∀ u o c, c.μ = μ → Step c0 c → Ok W c → ExcAt W c u o x → E u o c.H
  | .bad => False
def Res.st {α : Type} (r : Res α) (f : α → Store → ResS) : ResS :=
  match r with
  | .ok a μ => f a μ
  | .exc x μ => .exc x μ
  | .bad => .bad
theorem wps_bind {β α : Type} {W : Wd} {R : Cf → β → α → Prop} {r : Res α} {f : α → Store → ResS} {c0 cs c : Cf} {D : Ends} {Q1 : β → Hp → Prop} {E : XK} (h : WpS W (r.st f) c0 cs D E) (s0 : Step c0 c)
    (k : ∀ v d c1, Step c0 c1 → Step c c1 → Ok W c1 → R c1 v d → WpS W (f d c1.μ) c0 cs D E → Q1 v c1.H) : Wp W R r c Q1 E := by
  cases r with
  | ok d μ => exact fun v c' e st ok r => k v d c' (s0.trans st) st ok r (by rw [e]; exact h)
  | exc x μ => exact fun u o c' e st ok r => h u o c' e (s0.trans st) ok r
  | bad => exact h
def tS (W : Wd) (E : XK) (m : MS) : TS := fun D σ H => ∃ c0 cs ρ c, c.H = H ∧ Ok W c ∧ Step c0 c ∧ Le cs c ∧ EnvR W c σ ρ ∧ WpS W (m c0.μ.length ρ c.μ) c0 cs D E
section
variable {W : Wd} {E : XK} {X : Cx} {st : Stmt} {ss : List Stmt} {e tg iter : Expr}
theorem ps_weak {t t' : TS} (h : PS X st t) (f : ∀ D σ H, t' D σ H → t D σ H) : PS X st t' := ⟨fun pins s σ H D I q => h.run pins s σ H D I (f _ _ _ q)⟩
theorem pss_weak {t t' : TS} (h : PSs X ss t) (f : ∀ D σ H, t' D σ H → t D σ H) : PSs X ss t' := ⟨fun pins s σ H D I q => h.run pins s σ H D I (f _ _ _ q)⟩
def mNext : MS := fun _ ρ μ => .nx ρ μ
def mSeq (a b : MS) : MS := fun n ρ μ => match a n ρ μ with
  | .nx ρ μ => b n ρ μ
  | r => r
theorem ts_nil {D : Ends} {σ : L2.St} {H : Hp} (h : tS W E mNext D σ H) : tNext D σ H := by
  obtain ⟨c0, cs, ρ, c, hH, ok, s, le, env, w⟩ := h
  subst hH
  exact w σ c rfl s le ok env
theorem mss_nil (h : PSs X ss tNext) : PSs X ss (tS W E mNext) := pss_weak h fun _ _ _ => ts_nil
theorem mss_cons {a b : MS} (h : PSs X ss (tSeq (tS W E a) (tS W E b))) : PSs X ss (tS W E (mSeq a b)) := pss_weak h fun D σ H ⟨c0, cs, ρ, c, hH, ok, s, le, env, w⟩ => by
  refine ⟨c0, cs, ρ, c, hH, ok, s, le, env, ?_⟩
  unfold mSeq at w
  cases e : a c0.μ.length ρ c.μ with
  | nx ρ' μ' => rw [e] at w; exact fun σ' c' e' s' le' ok' env' => ⟨c0, cs, ρ', c', rfl, ok', s', le', env', by rw [e']; exact w⟩
  | rt d μ' => rw [e] at w; exact w
  | bk ρ' μ' => rw [e] at w; exact w
  | ct ρ' μ' => rw [e] at w; exact w
  | exc x μ' => rw [e] at w; exact w
  | bad => rw [e] at w; exact w
def mRet (a : ME) : MS := fun _ ρ μ => (a ρ μ).st fun d μ => .rt d μ
def mRetN : MS := fun _ _ μ => .rt .non μ
def mDrop (a : ME) : MS := fun _ ρ μ => (a ρ μ).st fun _ μ => .nx ρ μ
theorem ms_ret {a : ME} (h : PS X st (tRet (tE W E a))) : PS X st (tS W E (mRet a)) := ps_weak h fun D σ H ⟨c0, cs, ρ, c, hH, ok, s, le, env, w⟩ =>
  ⟨ρ, c, hH, ok, env, wps_bind w s fun v d c1 s1 _ ok1 r1 w1 => w1 v c1 rfl s1 ok1 r1⟩
def mBrk : MS := fun _ ρ μ => .bk ρ μ
def mCnt : MS := fun _ ρ μ => .ct ρ μ
def mIfS (t : MT) (a b : MS) : MS := fun n ρ μ => (t ρ μ).st fun k μ => if k = true then a n ρ μ else b n ρ μ
theorem ms_if {t : MT} {a b : MS} (h : PS X st (tIfS (tT W E t) (tS W E a) (tS W E b))) : PS X st (tS W E (mIfS t a b)) := ps_weak h fun D σ H ⟨c0, cs, ρ, c, hH, ok, s, le, env, w⟩ =>
  ⟨ρ, c, hH, ok, env, wps_bind w s fun v d c1 s1 s2 ok1 r1 w1 => by
    subst r1
    cases v with
    | true => rw [if_pos rfl] at w1 ⊢; exact ⟨c0, cs, ρ, c1, rfl, ok1, s1, le.trans s2.le, env.mono s2.le, w1⟩
    | false => rw [if_neg Bool.false_ne_true] at w1 ⊢; exact ⟨c0, cs, ρ, c1, rfl, ok1, s1, le.trans s2.le, env.mono s2.le, w1⟩⟩
abbrev MG := D → Env → Store → Res Env
abbrev MGs := List D → Env → Store → Res Env
def tG (W : Wd) (E : XK) (g : MG) : TG := fun v σ H k => ∃ ρ c d, c.H = H ∧ Ok W c ∧ EnvR W c σ ρ ∧ Dp W c v d ∧ Wp W (EnvR W) (g d ρ c.μ) c k E
def tGs (W : Wd) (E : XK) (g : MGs) : TGs := fun vs σ H k => ∃ ρ c ds, c.H = H ∧ Ok W c ∧ EnvR W c σ ρ ∧ DpA W c vs ds ∧ Wp W (EnvR W) (g ds ρ c.μ) c k E
theorem pg_weak {t t' : TG} (h : PG X e t) (f : ∀ v σ H Q, t' v σ H Q → t v σ H Q) : PG X e t' := ⟨fun pins s σ H v u Q I r q => h.run pins s σ H v u Q I r (f _ _ _ _ q)⟩
theorem pgs_weak {es : List Expr} {t t' : TGs} (h : PGs X es t) (f : ∀ v σ H Q, t' v σ H Q → t v σ H Q) : PGs X es t' := ⟨fun pins s σ H v u Q I r q => h.run pins s σ H v u Q I r (f _ _ _ _ q)⟩
def mgName (i : Nat) : MG := fun d ρ μ => .ok (ρ.set i (some d)) μ
theorem mg_name {i : Nat} (h : PG X e (gName i)) : PG X e (tG W E (mgName i)) := pg_weak h fun v σ H Q ⟨ρ, c, d, hH, ok, env, r, w⟩ => by
  subst hH
  exact wp_ret w ok (env.set i r)
def mgNil : MGs := fun ds ρ μ => match ds with
  | [] => .ok ρ μ
  | _ => .bad
def mgCons (a : MG) (b : MGs) : MGs := fun ds ρ μ => match ds with
  | d :: ds => (a d ρ μ).bind fun ρ μ => b ds ρ μ
  | [] => .bad
theorem mgs_nil {es : List Expr} (h : PGs X es gNil) : PGs X es (tGs W E mgNil) := pgs_weak h fun v σ H Q ⟨ρ, c, ds, hH, ok, env, r, w⟩ => by
  subst hH
  cases r with
  | nil => exact ⟨rfl, wp_ret w ok env⟩
  | cons => exact w.elim
theorem mgs_cons {es : List Expr} {a : MG} {b : MGs} (h : PGs X es (gCons (tG W E a) (tGs W E b))) : PGs X es (tGs W E (mgCons a b)) := pgs_weak h fun v σ H Q ⟨ρ, c, ds, hH, ok, env, r, w⟩ => by
  cases r with
  | nil => exact w.elim
  | cons h1 h2 => exact ⟨_, _, rfl, ρ, c, _, hH, ok, env, h1, wp_bind w fun σ1 ρ1 c1 s1 ok1 r1 w1 => ⟨ρ1, c1, _, rfl, ok1, r1, dpa_mono s1.le h2, w1⟩⟩
def mgTup (n : Nat) (g : MGs) : MG := fun d ρ μ => match d with
  | .tup ds => if ds.length = n then g ds ρ μ else .bad
  | _ => .bad
theorem mg_tup {n : Nat} {g : MGs} (h : PG X e (gTup W.K n (tGs W E g))) : PG X e (tG W E (mgTup n g)) := pg_weak h fun v σ H Q ⟨ρ, c, d, hH, ok, env, r, w⟩ => by
  cases r with
  | tup hs ha =>
    unfold mgTup at w
    dsimp only at w
    split at w
    · rename_i hn
      exact ⟨_, _, rfl, by rw [← hH]; exact Cs.sqt_mono ok.s hs, by rw [dpa_len ha]; exact hn, ρ, c, _, hH, ok, env, ha, w⟩
    · exact w.elim
  | _ => exact w.elim
def mAsg (a : ME) (g : MG) : MS := fun _ ρ μ => (a ρ μ).st fun d μ => (g d ρ μ).st fun ρ μ => .nx ρ μ
theorem ms_asg {a : ME} {g : MG} (h : PS X st (tAsg (tE W E a) (tG W E g))) : PS X st (tS W E (mAsg a g)) := ps_weak h fun D σ H ⟨c0, cs, ρ, c, hH, ok, s, le, env, w⟩ =>
  ⟨ρ, c, hH, ok, env, wps_bind w s fun v d c1 s1 s2 ok1 r1 w1 => ⟨ρ, c1, d, rfl, ok1, env.mono s2.le, r1, wps_bind w1 s1 fun σ2 ρ2 c2 s3 s4 ok2 r2 w2 => w2 σ2 c2 rfl s3 (le.trans (s2.le.trans s4.le)) ok2 r2⟩⟩
def mSet (i : Nat) (a : ME) : MS := fun _ ρ μ => (a ρ μ).st fun d μ => .nx (ρ.set i (some d)) μ
theorem ms_set {i : Nat} {a : ME} (h : PS X st (tAsg (tE W E a) (gName i))) : PS X st (tS W E (mSet i a)) := ps_weak h fun D σ H ⟨c0, cs, ρ, c, hH, ok, s, le, env, w⟩ =>
  ⟨ρ, c, hH, ok, env, wps_bind w s fun v d c1 s1 s2 ok1 r1 w1 => w1 _ c1 rfl s1 (le.trans s2.le) ok1 ((env.mono s2.le).set i r1)⟩
def mPar (i j : Nat) (a : MA) : MS := fun _ ρ μ => (a ρ μ).st fun ds μ => match ds with
  | [x, y] => .nx ((ρ.set i (some x)).set j (some y)) μ
  | _ => .bad
def frzC : Cell → Option D
  | .lst ds => some (.lst ds)
  | .dct ks ds => some (.dct ks ds)
  | .obj C ks ds => some (.obj C ks ds)
  | .lck _ _ => none
def mFrz (i : Nat) (m : MS) : MS := fun n ρ μ => match ρ[i]? with
  | some (some (.own k)) => if n ≤ k then match μ[k]? with
      | some (some x) => match frzC x with
        | some d => m n (ρ.set i (some d)) (μ.set k none)
        | none => .bad
      | _ => .bad
    else .bad
  | _ => .bad
structure Src where
  items : List D
  w : List Nat
def watch (w : List Nat) (μ μ' : Store) : Prop := ∀ n ∈ w, μ'[n]? = μ[n]?
theorem watch_nil {μ μ' : Store} : watch [] μ μ' := fun _ h => by cases h
structure WalksM (W : Wd) (J : It) (c : Cf) (s : Src) : Prop where
  ex : ∃ (Gd : Hp → Prop) (Y : Nat → Hp → V → Hp → Prop), Walk J s.items.length Gd Y ∧ (∀ c', Le c c' → c'.L = c.L → Ok W c' → watch s.w c.μ c'.μ → Gd c'.H) ∧
    ∀ i x c2 H', i < s.items.length → Le c c2 → c2.L = c.L → Ok W c2 → watch s.w c.μ c2.μ → Y i c2.H x H' → ∃ d G3, s.items[i]? = some d ∧ Cs.Grow Cs.NoM c2.G c2.H G3 H' ∧ Dp W (c2.to G3 H') x d
abbrev MI := Env → Store → Res Src
def tI (W : Wd) (E : XK) (m : MI) : TI := fun σ H R => ∃ ρ c, c.H = H ∧ Ok W c ∧ EnvR W c σ ρ ∧ Wp W (fun c J s => WalksM W J c s) (m ρ c.μ) c R E
theorem pi_weak {t t' : TI} (h : PI X tg iter t) (f : ∀ σ H Q, t' σ H Q → t σ H Q) : PI X tg iter t' := ⟨fun pins s σ H R I q => h.run pins s σ H R I (f _ _ _ q)⟩
open Classical in
noncomputable def forS (w : List Nat) (μ0 : Store) (g : MG) (body : MS) (n : Nat) : List D → Env → Store → ResS
  | [], ρ, μ => if watch w μ0 μ then .nx ρ μ else .bad
  | d :: ds, ρ, μ => if watch w μ0 μ then match g d ρ μ with
      | .ok ρ μ => match body n ρ μ with
        | .nx ρ μ => forS w μ0 g body n ds ρ μ
        | .ct ρ μ => forS w μ0 g body n ds ρ μ
        | .bk ρ μ => .nx ρ μ
        | r => r
      | .exc x μ => .exc x μ
      | .bad => .bad
    else .bad
noncomputable def mFor (i : MI) (g : MG) (body : MS) : MS := fun n ρ μ => (i ρ μ).st fun s μ => forS s.w μ g body n s.items ρ μ
theorem forS_watch {w : List Nat} {μ0 : Store} {g : MG} {body : MS} {n : Nat} {ds : List D} {ρ : Env} {μ : Store} {c0 cs : Cf} {D : Ends} (h : WpS W (forS w μ0 g body n ds ρ μ) c0 cs D E) : watch w μ0 μ := by
  cases ds with
  | nil =>
    unfold forS at h
    split at h
    · assumption
    · exact h.elim
  | cons d ds =>
    unfold forS at h
    split at h
    · assumption
    · exact h.elim
theorem ms_for {i : MI} {g : MG} {body : MS} (h : PS X st (tFor (tI W E i) (tG W E g) (tS W E body))) : PS X st (tS W E (mFor i g body)) := ps_weak h fun D σ H ⟨c0, cs, ρ, c, hH, ok, s, le, env, w⟩ => by
  refine ⟨ρ, c, hH, ok, env, wps_bind w s fun J src c1 s1 s2 ok1 hw w1 => ?_⟩
  obtain ⟨Gd, Y, wk, hG, hY⟩ := hw.ex
  refine for_it wk (fun i σ' H' => ∃ ρ' c', c'.H = H' ∧ Ok W c' ∧ Step c0 c' ∧ Le c1 c' ∧ EnvR W c' σ' ρ' ∧ WpS W (forS src.w c1.μ g body c0.μ.length (src.items.drop i) ρ' c'.μ) c0 cs D E)
    ⟨ρ, c1, rfl, ok1, s1, .refl _, env.mono s2.le, w1⟩ (fun i σ' H' _ ⟨ρ', c', hH', ok', st', le', env', w'⟩ => by rw [← hH']; exact hG c' le' (st'.lk.trans s1.lk.symm) ok' (forS_watch w')) ?_ ?_
  · rintro i x σ' H2 H3 hi ⟨ρ', c', rfl, ok', st', le', env', w'⟩ hy
    obtain ⟨d, G3, hd, g3, hx⟩ := hY i x c' H3 hi le' (st'.lk.trans s1.lk.symm) ok' (forS_watch w') hy
    have hdrop : src.items.drop i = d :: src.items.drop (i + 1) := by
      rw [List.drop_eq_getElem_cons hi]
      congr 1
      rw [List.getElem?_eq_getElem hi] at hd
      exact Option.some.inj hd
    obtain ⟨ok3, st3⟩ := step_grow ok' g3
    rw [hdrop] at w'
    unfold forS at w'
    split at w'
    · refine ⟨ρ', c'.to G3 H3, d, rfl, ok3, env'.mono st3.le, hx, ?_⟩
      have s3 := st'.trans st3
      have le3 := le'.trans st3.le
      revert w'
      show WpS W (match g d ρ' (c'.to G3 H3).μ with
        | .ok ρ μ => match body c0.μ.length ρ μ with
          | .nx ρ μ => forS src.w c1.μ g body c0.μ.length (src.items.drop (i + 1)) ρ μ
          | .ct ρ μ => forS src.w c1.μ g body c0.μ.length (src.items.drop (i + 1)) ρ μ
          | .bk ρ μ => .nx ρ μ
          | r => r
        | .exc x μ => .exc x μ
        | .bad => .bad) c0 cs D E → _
      cases g d ρ' (c'.to G3 H3).μ with
      | ok ρ4 μ4 =>
        intro w4 σ4 c4 e4 st4 ok4 r4
        refine ⟨c0, c1, ρ4, c4, rfl, ok4, s3.trans st4, le3.trans st4.le, r4, ?_⟩
        dsimp only at w4
        rw [e4]
        cases hb : body c0.μ.length ρ4 μ4 with
        | nx ρ5 μ5 =>
          rw [hb] at w4
          exact fun σ5 c5 e5 st5 le5 ok5 env5 => ⟨ρ5, c5, rfl, ok5, st5, le5, env5, by rw [e5]; exact w4⟩
        | ct ρ5 μ5 =>
          rw [hb] at w4
          exact fun σ5 c5 e5 st5 le5 ok5 env5 => ⟨ρ5, c5, rfl, ok5, st5, le5, env5, by rw [e5]; exact w4⟩
        | bk ρ5 μ5 => rw [hb] at w4; exact fun σ5 c5 e5 st5 le5 ok5 env5 => w4 σ5 c5 e5 st5 (le.trans (s2.le.trans le5)) ok5 env5
        | rt d μ5 => rw [hb] at w4; exact w4
        | exc x μ5 => rw [hb] at w4; exact w4
        | bad => rw [hb] at w4; exact w4
      | exc x μ4 => exact fun w4 u o c4 e4 st4 ok4 r4 => w4 u o c4 e4 (s3.trans st4) ok4 r4
      | bad => exact fun w4 => w4
    · exact w'.elim
  · rintro σ' H' ⟨ρ', c', rfl, ok', st', le', env', w'⟩
    rw [List.drop_length] at w'
    unfold forS at w'
    split at w'
    · exact w' σ' c' rfl st' (le.trans (s2.le.trans le')) ok' env'
    · exact w'.elim
end
end Mi
namespace Mi
open PySem PySem.Spec L2
section
variable {W : Wd} {E : XK} {X : Cx} {st : Stmt} {ss : List Stmt} {e tg iter : Expr}
open Classical in
theorem le_to {c : Cf} {G' H' : Hp} (g : Same c.G G') : Le c (c.to G' H') := ⟨g, Nat.le_refl _, fun _ _ => rfl⟩
def D.cell : D → List Nat
  | .own n => [n]
  | _ => []
theorem seqL_watch {μ μ' : Store} {d : D} (h : watch d.cell μ μ') : seqL μ' d = seqL μ d := by
  cases d with
  | own n =>
    unfold seqL
    dsimp only
    rw [h n (by simp [D.cell])]
  | _ => rfl
variable {c : Cf} {v : V} {d : D} {ds : List D} {a : Addr}
theorem walksL (ok : Ok W c) (h : Dp W c (.ref a) d) (e : seqL c.μ d = some ds) : WalksM W (Itl W.K a) c ⟨ds, d.cell⟩ := by
  have at2 : ∀ c2, Le c c2 → Ok W c2 → watch d.cell c.μ c2.μ → ∃ xs, SqL W.K c2.H a xs ∧ DpA W c2 xs ds := fun c2 le ok2 hw => by
    obtain ⟨a', xs, ea, hs, ha⟩ := seqL_ok ok2 (dp_mono le h) (by rw [seqL_watch hw]; exact e)
    cases ea
    exact ⟨xs, hs, ha⟩
  refine ⟨fun H => ∃ xs, SqL W.K H a xs ∧ xs.length = ds.length, fun i H x H' => H' = H ∧ ∀ xs, SqL W.K H a xs → xs[i]? = some x, ⟨?_, ?_, ?_⟩, ?_, ?_⟩
  · rintro i H hi ⟨xs, hs, hl⟩
    exact ⟨xs, xs[i]'(by rw [hl]; exact hi), hs, by rw [List.getElem?_eq_getElem]⟩
  · rintro H ⟨xs, hs, hl⟩
    exact ⟨xs, hs, by rw [hl]; exact Nat.le_refl _⟩
  · exact fun _ _ _ _ _ _ y => y
  · intro c2 le _ ok2 hw
    obtain ⟨xs, hs, ha⟩ := at2 c2 le ok2 hw
    exact ⟨xs, hs, dpa_len ha⟩
  · rintro i x c2 H' hi le _ ok2 hw ⟨rfl, hx⟩
    obtain ⟨xs, hs, ha⟩ := at2 c2 le ok2 hw
    obtain ⟨d, h1, h2⟩ := dpa_getV ha (hx xs hs)
    exact ⟨d, c2.G, h1, .refl ok2.s, h2⟩
theorem walksT (ok : Ok W c) (h : Dp W c (.ref a) d) (e : seqT d = some ds) : WalksM W (Itt W.K a) c ⟨ds, []⟩ := by
  cases h with
  | tup hs ha =>
    cases Option.some.inj e
    refine ⟨_, _, (dpa_len ha) ▸ walk_tup, fun c' le _ ok' _ => Cs.sqt_mono ok'.s (Cs.sqt_mono le.g hs), ?_⟩
    rintro i x c2 H' hi le _ ok2 _ ⟨rfl, hx⟩
    obtain ⟨d, h1, h2⟩ := dpa_getV ha hx
    exact ⟨d, c2.G, h1, .refl ok2.s, dp_mono le h2⟩
  | _ => cases e
def chars (z : Str) : List D := z.cps.toList.map fun k => .str ⟨#[k]⟩
theorem walksS {z : Str} : WalksM W (Its z) c ⟨chars z, []⟩ := by
  refine ⟨_, _, (show (chars z).length = z.cps.size by simp [chars]) ▸ walk_str (z := z), fun _ _ _ _ _ => True.intro, ?_⟩
  rintro i x c2 H' hi le _ ok2 _ ⟨rfl, k, hk, rfl⟩
  refine ⟨.str ⟨#[k]⟩, c2.G, ?_, .refl ok2.s, .str _⟩
  show (chars z)[i]? = _
  unfold chars
  rw [List.getElem?_map, Array.getElem?_toList, hk]; rfl
def rangeD (lo : Int) (n : Nat) : List D := (List.range n).map fun i => .int (lo + (i : Nat))
theorem rangeD_len {lo : Int} {n : Nat} : (rangeD lo n).length = n := by simp [rangeD]
theorem walksR {lo : Int} {n : Nat} : WalksM W (Itr lo n) c ⟨rangeD lo n, []⟩ := by
  refine ⟨fun _ => True, YFn fun i => .int (lo + i), by show Walk _ (rangeD lo n).length _ _; rw [rangeD_len]; exact walk_range, fun _ _ _ _ _ => True.intro, ?_⟩
  rintro i x c2 H' hi le _ ok2 _ ⟨rfl, rfl⟩
  have hi' : i < n := Nat.lt_of_lt_of_eq hi rangeD_len
  exact ⟨.int (lo + (i : Nat)), c2.G, by simp [rangeD, hi'], .refl ok2.s, .int _⟩
def anyItems (μ : Store) (d : D) : Option (List D × List Nat) := match seqL μ d with
  | some ds => some (ds, d.cell)
  | none => match d with
    | .tup ds => some (ds, [])
    | .str z => some (chars z, [])
    | _ => none
def miAny (a : ME) : MI := fun ρ μ => (a ρ μ).bind fun d μ => match anyItems μ d with
  | some (ds, w) => .ok ⟨ds, w⟩ μ
  | none => .bad
theorem mi_any {m : ME} (h : PI X tg iter (Cs.iAny W.K (tE W E m))) : PI X tg iter (tI W E (miAny m)) := pi_weak h fun σ H R ⟨ρ, c, hH, ok, env, w⟩ => by
  unfold miAny at w
  cases em : m ρ c.μ with
  | exc x μ =>
    rw [em] at w
    exact .inl ⟨ρ, c, hH, ok, env, by rw [em]; exact w⟩
  | bad => rw [em] at w; exact w.elim
  | ok d μ =>
    rw [em] at w
    unfold Res.bind at w
    dsimp only at w
    cases ei : anyItems μ d with
    | none => rw [ei] at w; exact w.elim
    | some p =>
      rw [ei] at w
      unfold anyItems at ei
      split at ei
      · rename_i ds hs
        cases Option.some.inj ei
        refine .inl ⟨ρ, c, hH, ok, env, ?_⟩
        rw [em]
        intro v c1 e1 s1 ok1 r1
        subst e1
        obtain ⟨a, xs, rfl, h1, h2⟩ := seqL_ok ok1 r1 hs
        exact ⟨a, rfl, ⟨xs, h1⟩, w _ c1 rfl s1 ok1 (walksL ok1 r1 hs)⟩
      · split at ei
        · cases Option.some.inj ei
          refine .inr (.inl ⟨ρ, c, hH, ok, env, ?_⟩)
          rw [em]
          intro v c1 e1 s1 ok1 r1
          subst e1
          obtain ⟨a, xs, rfl, h1, h2⟩ := seqT_ok ok1 r1 rfl
          exact ⟨a, rfl, ⟨xs, h1⟩, w _ c1 rfl s1 ok1 (walksT ok1 r1 rfl)⟩
        · cases Option.some.inj ei
          refine .inr (.inr ⟨ρ, c, hH, ok, env, ?_⟩)
          rw [em]
          intro v c1 e1 s1 ok1 r1
          subst e1
          cases r1
          exact ⟨_, rfl, w _ c1 rfl s1 ok1 walksS⟩
        · cases ei
def miRng1 (a : MA) : MI := fun ρ μ => (a ρ μ).bind fun ds μ => match ds with
  | [.int j] => if -(2 ^ 62) ≤ j ∧ j < 2 ^ 62 then .ok ⟨rangeD 0 j.toNat, []⟩ μ else .bad
  | _ => .bad
theorem mi_rng1 {m : MA} (h : PI X tg iter (iRng1 (tA W E m))) : PI X tg iter (tI W E (miRng1 m)) := pi_weak h fun σ H R ⟨ρ, c, hH, ok, env, w⟩ =>
  ⟨ρ, c, hH, ok, env, wp_bind w fun vs ds c1 s1 ok1 r1 w1 => by
    split at w1
    · cases r1 with
      | cons h1 h2 =>
        cases h1; cases h2
        split at w1
        · rename_i hj
          exact ⟨_, rfl, hj.1, hj.2, wp_ret w1 ok1 walksR⟩
        · exact w1.elim
    · exact w1.elim⟩
def miRng2 (a : MA) : MI := fun ρ μ => (a ρ μ).bind fun ds μ => match ds with
  | [.int i, .int j] => if -(2 ^ 62) ≤ i ∧ i < 2 ^ 62 ∧ -(2 ^ 62) ≤ j ∧ j < 2 ^ 62 then .ok ⟨rangeD i (j - i).toNat, []⟩ μ else .bad
  | _ => .bad
end
end Mi
namespace Mi
open PySem PySem.Spec L2
section
variable {W : Wd} {E : XK} {X : Cx} {st : Stmt} {ss : List Stmt} {e tg iter : Expr} {c : Cf} {v : V} {d : D} {ds : List D} {a : Addr}
def enumD (ds : List D) : List D := (List.range ds.length).map fun i => .tup [.int (i : Nat), ds.getD i .non]
def zipD (ds es : List D) : List D := (ds.zip es).map fun p => .tup [p.1, p.2]
theorem enumD_len : (enumD ds).length = ds.length := by simp [enumD]
theorem enumD_get {i : Nat} {d : D} (hi : ds[i]? = some d) : (enumD ds)[i]? = some (.tup [.int (i : Nat), d]) := by
  have hl := (List.getElem?_eq_some_iff.mp hi).1
  unfold enumD
  rw [List.getElem?_map, List.getElem?_range hl, Option.map_some]
  simp [List.getD, hi]
theorem pair_new {c2 : Cf} {T : Addr} {x y : V} {d e : D} (ok : Ok W c2) (hT : c2.H T = none) (hx : Dp W c2 x d) (hy : Dp W c2 y e) :
    ∃ G3, Cs.Grow Cs.NoM c2.G c2.H G3 (upd c2.H T (.tup [x, y])) ∧ Dp W (c2.to G3 (upd c2.H T (.tup [x, y]))) (.ref T) (.tup [d, e]) := by
  have le : Le c2 (c2.to (upd c2.G T (.tup [x, y])) (upd c2.H T (.tup [x, y]))) := le_to (Cs.same_new (Cs.same_none ok.s hT))
  exact ⟨_, .new ok.s hT, .tup (.inl (.inl upd_same)) (.cons (dp_mono le hx) (.cons (dp_mono le hy) .nil))⟩
theorem walksEL (ok : Ok W c) (h : Dp W c (.ref a) d) (e : seqL c.μ d = some ds) : WalksM W (Ite W.K a) c ⟨enumD ds, d.cell⟩ := by
  have at2 : ∀ c2, Le c c2 → Ok W c2 → watch d.cell c.μ c2.μ → ∃ xs, SqL W.K c2.H a xs ∧ DpA W c2 xs ds := fun c2 le ok2 hw => by
    obtain ⟨a', xs, ea, hs, ha⟩ := seqL_ok ok2 (dp_mono le h) (by rw [seqL_watch hw]; exact e)
    cases ea
    exact ⟨xs, hs, ha⟩
  refine ⟨fun H => ∃ xs, SqL W.K H a xs ∧ xs.length = ds.length, fun i H v H' => ∃ T x, v = .ref T ∧ H T = none ∧ H' = upd H T (.tup [.int (i : Nat), x]) ∧ ∀ xs, SqL W.K H a xs → xs[i]? = some x, ⟨?_, ?_, ?_⟩, ?_, ?_⟩
  · rintro i H hi ⟨xs, hs, hl⟩
    have hi' : i < ds.length := Nat.lt_of_lt_of_eq hi enumD_len
    exact ⟨xs, xs[i]'(by rw [hl]; exact hi'), hs, by rw [List.getElem?_eq_getElem]⟩
  · rintro H ⟨xs, hs, hl⟩
    exact ⟨xs, hs, by rw [hl]; exact Nat.le_of_eq enumD_len.symm⟩
  · exact fun _ _ _ _ _ _ y => y
  · intro c2 le _ ok2 hw
    obtain ⟨xs, hs, ha⟩ := at2 c2 le ok2 hw
    exact ⟨xs, hs, dpa_len ha⟩
  · rintro i x c2 H' hi le _ ok2 hw ⟨T, y, rfl, hT, rfl, hx⟩
    obtain ⟨xs, hs, ha⟩ := at2 c2 le ok2 hw
    obtain ⟨d, h1, h2⟩ := dpa_getV ha (hx xs hs)
    obtain ⟨G3, g, r⟩ := pair_new ok2 hT (.int (i : Nat)) h2
    exact ⟨_, G3, enumD_get h1, g, r⟩
theorem walksET (ok : Ok W c) (h : Dp W c (.ref a) d) (e : seqT d = some ds) : WalksM W (Cs.IteT W.K a) c ⟨enumD ds, []⟩ := by
  cases h with
  | @tup _ xs _ hs ha =>
    cases Option.some.inj e
    refine ⟨fun H => SqT W.K H a xs, fun i H v H' => ∃ T x, v = .ref T ∧ H T = none ∧ H' = upd H T (.tup [.int (i : Nat), x]) ∧ xs[i]? = some x, ⟨?_, ?_, ?_⟩, fun c' le _ ok' _ => Cs.sqt_mono ok'.s (Cs.sqt_mono le.g hs), ?_⟩
    · intro i H hi hs
      have hi' : i < xs.length := Nat.lt_of_lt_of_eq hi (enumD_len.trans (dpa_len ha).symm)
      exact ⟨_, _, hs, List.getElem?_eq_getElem hi'⟩
    · exact fun H hs => ⟨_, hs, (dpa_len ha).trans enumD_len.symm⟩
    · rintro i H x H' hi hs ⟨T, y, h1, h2, h3, h4⟩
      exact ⟨T, y, h1, h2, h3, h4 _ hs⟩
    · rintro i x c2 H' hi le _ ok2 hw ⟨T, y, rfl, hT, rfl, hx⟩
      obtain ⟨d, h1, h2⟩ := dpa_getV ha hx
      obtain ⟨G3, g, r⟩ := pair_new ok2 hT (.int (i : Nat)) (dp_mono le h2)
      exact ⟨_, G3, enumD_get h1, g, r⟩
  | _ => cases e
def miEnum (a : MA) : MI := fun ρ μ => (a ρ μ).bind fun xs μ => match xs with
  | [d] => match seqL μ d with
    | some ds => .ok ⟨enumD ds, d.cell⟩ μ
    | none => match seqT d with
      | some ds => .ok ⟨enumD ds, []⟩ μ
      | none => .bad
  | _ => .bad
theorem mi_enum {m : MA} (h : PI X tg iter (Cs.iEnumA W.K (tA W E m))) : PI X tg iter (tI W E (miEnum m)) := pi_weak h fun σ H R ⟨ρ, c, hH, ok, env, w⟩ => by
  unfold miEnum at w
  cases em : m ρ c.μ with
  | exc x μ =>
    rw [em] at w
    exact .inl ⟨ρ, c, hH, ok, env, by rw [em]; exact w⟩
  | bad => rw [em] at w; exact w.elim
  | ok xs μ =>
    rw [em] at w
    unfold Res.bind at w
    dsimp only at w
    split at w
    · rename_i d
      split at w
      · rename_i ds hs
        refine .inl ⟨ρ, c, hH, ok, env, ?_⟩
        rw [em]
        intro v c1 e1 s1 ok1 r1
        subst e1
        cases r1 with
        | cons r1 r2 =>
          cases r2
          obtain ⟨a, xs, rfl, h1, h2⟩ := seqL_ok ok1 r1 hs
          exact ⟨a, xs, rfl, h1, w _ c1 rfl s1 ok1 (walksEL ok1 r1 hs)⟩
      · split at w
        · rename_i ds hs
          refine .inr ⟨ρ, c, hH, ok, env, ?_⟩
          rw [em]
          intro v c1 e1 s1 ok1 r1
          subst e1
          cases r1 with
          | cons r1 r2 =>
            cases r2
            obtain ⟨a, xs, rfl, h1, h2⟩ := seqT_ok ok1 r1 hs
            exact ⟨a, xs, rfl, h1, w _ c1 rfl s1 ok1 (walksET ok1 r1 hs)⟩
        · exact w.elim
    · exact w.elim
theorem wipe_set {i : Nat} {x : Option V} : ∀ {vs : List Nat} {σ : L2.St}, i ∈ vs → L2.wipe (σ.set i x) vs = L2.wipe σ vs
  | v :: vs, σ, h => by
    by_cases hv : i ∈ vs
    · show (L2.wipe (σ.set i x) vs).set v none = (L2.wipe σ vs).set v none
      rw [wipe_set hv]
    · have e : i = v := by
        rcases List.mem_cons.mp h with z | z
        · exact z
        · exact absurd z hv
      subst e
      show (L2.wipe (σ.set i x) vs).set i none = (L2.wipe σ vs).set i none
      have : ∀ {us : List Nat} {σ : L2.St}, i ∉ us → L2.wipe (σ.set i x) us = (L2.wipe σ us).set i x := by
        intro us
        induction us with
        | nil => intro σ _; rfl
        | cons u us ih =>
          intro σ hu
          show (L2.wipe (σ.set i x) us).set u none = ((L2.wipe σ us).set u none).set i x
          rw [ih (fun z => hu (List.mem_cons_of_mem _ z)), List.set_comm _ _ (fun z => hu (by rw [z]; exact List.mem_cons_self))]
      rw [this hv, List.set_set]
theorem wipe_idem {vs : List Nat} {σ : L2.St} : L2.wipe (L2.wipe σ vs) vs = L2.wipe σ vs := by
  have : ∀ us : List Nat, (∀ u ∈ us, u ∈ vs) → L2.wipe (L2.wipe σ us) vs = L2.wipe σ vs := by
    intro us
    induction us with
    | nil => intro _; rfl
    | cons u us ih =>
      intro h
      show L2.wipe ((L2.wipe σ us).set u none) vs = _
      rw [wipe_set (h u List.mem_cons_self)]
      exact ih fun z hz => h z (List.mem_cons_of_mem _ hz)
  exact this vs fun _ h => h
def LcT (W : Wd) (g : TG) (vs : List Nat) (m : D → Env → Option Env) : Prop := ∀ c v d σ ρ ρ2 (k : L2.St → Hp → Prop), Ok W c → EnvR W c σ ρ → Dp W c v d → m d ρ = some ρ2 → (∀ σ2, EnvR W c σ2 ρ2 → L2.wipe σ2 vs = L2.wipe σ vs → k σ2 c.H) → g v σ c.H k
def lgName (i : Nat) : D → Env → Option Env := fun d ρ => some (ρ.set i (some d))
def lgTup2 (i j : Nat) : D → Env → Option Env := fun d ρ => match d with
  | .tup [x, y] => some ((ρ.set i (some x)).set j (some y))
  | _ => none
theorem lct_name {i : Nat} {vs : List Nat} (hi : i ∈ vs) : LcT W (gName i) vs (lgName i) := fun c v d σ ρ ρ2 k ok env r e q => by
  cases Option.some.inj e
  exact q _ (env.set i r) (wipe_set hi)
theorem lct_tup2 {i j : Nat} {vs : List Nat} (hi : i ∈ vs) (hj : j ∈ vs) : LcT W (gTup W.K 2 (gCons (gName i) (gCons (gName j) gNil))) vs (lgTup2 i j) := fun c v d σ ρ ρ2 k ok env r e q => by
  unfold lgTup2 at e
  split at e
  · cases Option.some.inj e
    cases r with
    | tup hs ha =>
      cases ha with
      | cons h1 h2 =>
        cases h2 with
        | cons h2 h3 =>
          cases h3
          exact ⟨_, _, rfl, Cs.sqt_mono ok.s hs, rfl, _, _, rfl, _, _, rfl, rfl, q _ ((env.set i h1).set j h2) (by rw [wipe_set hj, wipe_set hi])⟩
  · cases e
def E0' : XK := fun _ _ _ => False
open Classical in
noncomputable def lcA (w : List Nat) (μ0 : Store) (g : D → Env → Option Env) (t : MT) (el : ME) (ρ : Env) : List D → List D → Store → Res (List D)
  | [], acc, μ => if watch w μ0 μ then .ok acc μ else .bad
  | d :: ds, acc, μ => if watch w μ0 μ then match g d ρ with
      | some ρ2 => match t ρ2 μ with
        | .ok true μ => match el ρ2 μ with
          | .ok y μ => if acc.length < sizeLine then lcA w μ0 g t el ρ ds (acc ++ [y]) μ else .bad
          | _ => .bad
        | .ok false μ => lcA w μ0 g t el ρ ds acc μ
        | _ => .bad
      | none => .bad
    else .bad
noncomputable def mLc (b : Bool) (i : MI) (g : D → Env → Option Env) (t : MT) (el : ME) (vs : List Nat) : ME := fun ρ μ => (i ρ μ).bind fun s μ => (lcA s.w μ g t el (wipeD ρ vs) s.items [] μ).bind fun xs μ => newL b xs μ
theorem lcA_watch {w : List Nat} {μ0 : Store} {g : D → Env → Option Env} {t : MT} {el : ME} {ρ : Env} {ds acc : List D} {μ : Store} (h : lcA w μ0 g t el ρ ds acc μ ≠ .bad) : watch w μ0 μ := by
  cases ds with
  | nil =>
    unfold lcA at h
    split at h
    · assumption
    · exact absurd rfl h
  | cons d ds =>
    unfold lcA at h
    split at h
    · assumption
    · exact absurd rfl h
theorem lcA_noexc {w : List Nat} {μ0 : Store} {g : D → Env → Option Env} {t : MT} {el : ME} {ρ : Env} {x : Exc} {μ' : Store} : ∀ {ds acc : List D} {μ : Store}, lcA w μ0 g t el ρ ds acc μ ≠ .exc x μ'
  | [], acc, μ => by
    unfold lcA
    split
    · exact fun z => by cases z
    · exact fun z => by cases z
  | d :: ds, acc, μ => by
    unfold lcA
    split
    · split
      · split
        · split
          · split
            · exact lcA_noexc
            · exact fun z => by cases z
          · exact fun z => by cases z
        · exact lcA_noexc
        · exact fun z => by cases z
      · exact fun z => by cases z
    · exact fun z => by cases z
theorem ok_raw {p : Addr} {o : HO} (ok : Ok W c) (gp : c.G p = none) (hl : c.L p = none) (hm : ∀ n, live c.μ n → c.ι n ≠ p) (ht : ∀ q, (p, q) ∉ c.T) (hx : ∀ q, c.H p ≠ some (LamX.CodeO p q)) (no : ∀ ps, o ≠ .tbl ps) : Ok W (c.to c.G (upd c.H p o)) := by
  refine ⟨fun b u e => ?_, fun a u e => ⟨?_, (ok.lk a u e).2⟩, fun n x e => ?_, ok.inj, ok.lc, ok.tb.mono rfl (codeO_upd hx) (fun _ _ e => e) (tbl_upd no) fun q hq ps e => by
    show upd c.H p o q.1 = some (.tbl ps)
    rw [upd_ne (fun z => ht q.2 (by rw [← z]; exact hq))]; exact e⟩
  · show upd c.H p o b = some u
    rw [upd_ne (ne_of_none e gp)]; exact ok.s b u e
  · show upd c.H p o a = some u
    have : a ≠ p := fun z => by
      have e' : c.L a = some u := e
      rw [z, hl] at e'; cases e'
    rw [upd_ne this]; exact (ok.lk a u e).1
  · obtain ⟨h1, u, h2, h3⟩ := ok.at' n x e
    refine ⟨h1, u, ?_, h3.mono (c' := c.to c.G (upd c.H p o)) (le_to (Same.refl _)) trivial⟩
    show upd c.H p o (c.ι n) = some u
    rw [upd_ne (hm n ⟨x, e⟩)]; exact h2
theorem ok_noL {p : Addr} (ok : Ok W c) (hp : c.H p = none) : c.L p = none := by
  cases e : c.L p with
  | none => rfl
  | some o => have := (ok.lk p o e).1; rw [hp] at this; cases this
structure Aside (W : Wd) (c1 c : Cf) (p : Addr) : Prop where
  ok : Ok W c
  st : Step c1 c
  g : c.G p = none
  m : ∀ n, live c.μ n → c.ι n ≠ p
  t : ∀ q, (p, q) ∉ c.T
  x : ∀ q, c.H p ≠ some (LamX.CodeO p q)
theorem noT_new {p : Addr} (ok : Ok W c) (hp : c.H p = none) : ∀ q, (p, q) ∉ c.T := fun q m => by
  obtain ⟨ps, h, _⟩ := ok.tb.t _ m
  rw [hp] at h; cases h
theorem Aside.step {c1 c c' : Cf} {p : Addr} {o : HO} (h : Aside W c1 c p) (hp : c.H p = some o) (ok : Ok W c') (s : Step c c') (no : ∀ ps, o ≠ .tbl ps := by intro _ z; cases z) : Aside W c1 c' p ∧ c'.H p = some o := by
  have hm : ¬ Mo c p := fun z => z.elim (fun ⟨n, l, e⟩ => h.m n l e.symm) fun ⟨ps, m⟩ => no ps (Option.some.inj (hp.symm.trans m))
  have hne : c.H p ≠ none := by rw [hp]; exact fun z => by cases z
  refine ⟨⟨ok, h.st.trans s, by rw [s.g.n p hne]; exact h.g, fun n l e => ?_, by rw [s.tk]; exact h.t, by rw [s.g.h p o hm hp, ← hp]; exact h.x⟩, s.g.h p o hm hp⟩
  rcases Nat.lt_or_ge n c.μ.length with hn | hn
  · rw [s.ag n hn] at e
    exact h.m n (s.dead n hn l) e
  · have := s.fresh n hn l
    rw [e, hp] at this; cases this
theorem Aside.put {c1 c : Cf} {p : Addr} {o : HO} (h : Aside W c1 c p) (h1 : c1.H p = none) (ok1 : Ok W c1) (no : ∀ q, o ≠ LamX.CodeO p q := by intro _ z; unfold LamX.CodeO at z; cases z) (nt : ∀ ps, o ≠ .tbl ps := by intro _ z; cases z) : Aside W c1 (c.to c.G (upd c.H p o)) p := by
  have hL : c.L p = none := by rw [h.st.lk]; exact ok_noL ok1 h1
  refine ⟨ok_raw h.ok h.g hL h.m h.t h.x nt, ⟨h.st.g.put (.inl h1) h.g nt, h.st.len, h.st.ag, h.st.dead, h.st.fresh, h.st.lk, h.st.tk⟩, h.g, h.m, h.t, fun q z => by
    have z' : upd c.H p o p = some (LamX.CodeO p q) := z
    rw [upd_same] at z'
    exact no q (Option.some.inj z')⟩
theorem Aside.done {c1 c : Cf} {p : Addr} {xs : List V} {ds : List D} {b : Bool} {Q : VK} {E : XK} (h : Aside W c1 c p) (h1 : c1.H p = none) (hp : c.H p = some (.lst xs)) (ha : DpA W c xs ds) (w : Wp W (Dp W) (newL b ds c.μ) c1 Q E) : Q (.ref p) c.H := by
  cases b with
  | false =>
    have le : Le c (⟨c.ι, c.μ, upd c.G p (.lst xs), c.H, c.L, c.T⟩ : Cf) := ⟨Cs.same_new h.g, Nat.le_refl _, fun _ _ => rfl⟩
    refine w (.ref p) ⟨c.ι, c.μ, upd c.G p (.lst xs), c.H, c.L, c.T⟩ rfl ⟨h.st.g.freeze h1 h.g hp, h.st.len, h.st.ag, h.st.dead, h.st.fresh, h.st.lk, h.st.tk⟩ ⟨fun q u e => ?_, h.ok.lk, fun n x e => ?_, h.ok.inj, h.ok.lc, h.ok.tb.mono rfl (fun _ _ e => e) (fun b ps e => by
      by_cases eb : b = p
      · subst eb
        have e' : upd c.G b (.lst xs) b = some (.tbl ps) := e
        rw [upd_same] at e'; cases e'
      · have e' : upd c.G p (.lst xs) b = some (.tbl ps) := e
        rw [upd_ne eb] at e'; exact e') (fun _ _ e => ⟨_, e⟩) fun _ _ _ e => e⟩ (.lst (.inl (.inl upd_same)) (dpa_mono le ha))
    · by_cases eb : q = p
      · subst eb
        have e' : upd c.G q (.lst xs) q = some u := e
        rw [upd_same] at e'
        rw [← e']; exact hp
      · have e' : upd c.G p (.lst xs) q = some u := e
        rw [upd_ne eb] at e'
        exact h.ok.s q u e'
    · obtain ⟨k1, u, k2, k3⟩ := h.ok.at' n x e
      refine ⟨?_, u, k2, k3.mono le trivial⟩
      show upd c.G p (.lst xs) (c.ι n) = none
      rw [upd_ne (h.m n ⟨x, e⟩)]; exact k1
  | true =>
    have old : ∀ n, n < c.μ.length → (if n = c.μ.length then p else c.ι n) = c.ι n := fun n hn => by rw [if_neg (Nat.ne_of_lt hn)]
    have le : Le c (⟨fun n => if n = c.μ.length then p else c.ι n, c.μ ++ [some (.lst ds)], c.G, c.H, c.L, c.T⟩ : Cf) := ⟨Same.refl _, by simp, old⟩
    have fr : ∀ n, live (c.μ ++ [some (Cell.lst ds)]) n → live c.μ n ∨ n = c.μ.length := fun n l => by
      rcases live_app l with z | ⟨z, _⟩
      · exact .inl z
      · exact .inr z
    have top : Dp W (⟨fun n => if n = c.μ.length then p else c.ι n, c.μ ++ [some (.lst ds)], c.G, c.H, c.L, c.T⟩ : Cf) (.ref p) (.own c.μ.length) := by
      have := Dp.own (W := W) (c := (⟨fun n => if n = c.μ.length then p else c.ι n, c.μ ++ [some (.lst ds)], c.G, c.H, c.L, c.T⟩ : Cf)) (n := c.μ.length) (by simp)
      simpa using this
    refine w (.ref p) ⟨fun n => if n = c.μ.length then p else c.ι n, c.μ ++ [some (.lst ds)], c.G, c.H, c.L, c.T⟩ rfl ⟨h.st.g, Nat.le_trans h.st.len (by simp), fun n hn => (old n (Nat.lt_of_lt_of_le hn h.st.len)).trans (h.st.ag n hn), fun n hn l => ?_, fun n hn l => ?_, h.st.lk, h.st.tk⟩ ⟨h.ok.s, h.ok.lk, fun n y e => ?_, fun n m ln lm e => ?_, fun n y e hy => ?_, h.ok.tb.mono rfl (fun _ _ e => e) (fun _ _ e => e) (fun _ _ e => ⟨_, e⟩) fun _ _ _ e => e⟩ top
    · rcases fr n l with l | rfl
      · exact h.st.dead n hn l
      · exact absurd hn (Nat.not_lt_of_le h.st.len)
    · rcases fr n l with l | rfl
      · show c1.H (if n = c.μ.length then p else c.ι n) = none
        rw [old n (live_lt l)]
        exact h.st.fresh n hn l
      · show c1.H (if c.μ.length = c.μ.length then p else _) = none
        rw [if_pos rfl]; exact h1
    · show c.G (if n = c.μ.length then p else c.ι n) = none ∧ ∃ o, c.H (if n = c.μ.length then p else c.ι n) = some o ∧ _
      rcases fr n ⟨y, e⟩ with l | rfl
      · have e' : c.μ[n]? = some (some y) := by rw [← e]; exact (List.getElem?_append_left (live_lt l)).symm
        obtain ⟨k1, u, k2, k3⟩ := h.ok.at' n y e'
        rw [old n (live_lt l)]
        exact ⟨k1, u, k2, k3.mono le trivial⟩
      · have ey : Cell.lst ds = y := by
          have e2 : (c.μ ++ [some (Cell.lst ds)])[c.μ.length]? = some (some y) := e
          simp at e2
          exact e2
        subst ey
        rw [if_pos rfl]
        exact ⟨h.g, _, hp, xs, rfl, dpa_mono le ha⟩
    · have e' : (if n = c.μ.length then p else c.ι n) = (if m = c.μ.length then p else c.ι m) := e
      rcases fr n ln with l | rfl
      · rcases fr m lm with k | rfl
        · rw [old n (live_lt l), old m (live_lt k)] at e'
          exact h.ok.inj n m l k e'
        · rw [old n (live_lt l), if_pos rfl] at e'
          exact absurd e' (h.m n l)
      · rcases fr m lm with k | rfl
        · rw [old m (live_lt k), if_pos rfl] at e'
          exact absurd e'.symm (h.m m k)
        · rfl
    · show c.L (if n = c.μ.length then p else c.ι n) ≠ none
      rcases fr n ⟨y, e⟩ with l | rfl
      · have e' : c.μ[n]? = some (some y) := by rw [← e]; exact (List.getElem?_append_left (live_lt l)).symm
        rw [old n (live_lt l)]
        exact h.ok.lc n y e' hy
      · have e2 : (c.μ ++ [some (Cell.lst ds)])[c.μ.length]? = some (some y) := e
        simp at e2
        rw [← e2] at hy; cases hy
theorem lc_run {b : Bool} {g : TG} {gm : D → Env → Option Env} {t : MT} {el : ME} {vs : List Nat} {J : It} {src : Src} {ρ : Env} {σ : L2.St} {c1 : Cf} {Q : VK} (hg : LcT W g vs gm) (ok1 : Ok W c1) (env : EnvR W c1 σ ρ) (hw : WalksM W J c1 src)
    (w1 : Wp W (Dp W) ((lcA src.w c1.μ gm t el (wipeD ρ vs) src.items [] c1.μ).bind fun xs μ => newL b xs μ) c1 Q E) : ∀ D, c1.H D = none → ∃ W' : Nat → Nat → Hp → Prop, (∃ m, W' 0 m (upd c1.H D (.lst []))) ∧ ∀ i m H, W' i m H →
  (J.stop i H ∧ Q (.ref D) H) ∨ (J.go i H ∧ ∃ Nx : Hp → Prop, (∀ H', Nx H' → ∃ m', m' < m ∧ W' (i + 1) m' H') ∧ ∀ x H', J.yld i H x H' → g x (L2.wipe σ vs) H' fun σ2 H2 => L2.wipe σ2 vs = L2.wipe σ vs ∧ tT W E0' t σ2 H2 fun b H3 =>
    if b = true then tE W E0' el σ2 H3 fun y H4 => ∃ acc, H4 D = some (.lst acc) ∧ acc.length < sizeLine ∧ Nx (upd H4 D (.lst (acc ++ [y]))) else Nx H3) := by
  intro p hp
  obtain ⟨Gd, Y, wk, hG, hY⟩ := hw.ex
  have env1 := env.wipe vs
  cases el0 : lcA src.w c1.μ gm t el (wipeD ρ vs) src.items [] c1.μ with
  | bad => rw [el0] at w1; exact w1.elim
  | exc x μ' => exact absurd el0 lcA_noexc
  | ok xs μ' =>
    rw [el0] at w1
    have w1' : Wp W (Dp W) (newL b xs μ') c1 Q E := w1
    have as0 : Aside W c1 (c1.to c1.G (upd c1.H p (.lst []))) p := by
      have z : Aside W c1 c1 p := ⟨ok1, .refl ok1, Cs.same_none ok1.s hp, fun n l e => ok1.hcell l (by rw [e]; exact hp), noT_new ok1 hp, codeO_none hp⟩
      exact z.put hp ok1
    refine lc_it wk (fun i H' => ∃ c' acc ac, c'.H = H' ∧ Aside W c1 c' p ∧ c'.H p = some (.lst ac) ∧ DpA W c' ac acc ∧ lcA src.w c1.μ gm t el (wipeD ρ vs) (src.items.drop i) acc c'.μ = .ok xs μ')
      ⟨c1.to c1.G (upd c1.H p (.lst [])), [], [], rfl, as0, upd_same, .nil, el0⟩ (fun i H' _ ⟨c', acc, ac, e, as, _, _, q⟩ => by
        rw [← e]; exact hG c' as.st.le as.st.lk as.ok (lcA_watch (by rw [q]; exact fun z => by cases z))) ?_ ?_
    · rintro i x H2 H3 hi ⟨c', acc, ac, rfl, as, hp', ha, q⟩ hy
      have hw' : watch src.w c1.μ c'.μ := lcA_watch (by rw [q]; exact fun z => by cases z)
      obtain ⟨d, G3, hd, g3, hx⟩ := hY i x c' H3 hi as.st.le as.st.lk as.ok hw' hy
      have hdrop : src.items.drop i = d :: src.items.drop (i + 1) := by
        rw [List.drop_eq_getElem_cons hi]
        congr 1
        rw [List.getElem?_eq_getElem hi] at hd
        exact Option.some.inj hd
      obtain ⟨ok3, st3⟩ := step_grow as.ok g3
      obtain ⟨as3, hp3⟩ := as.step hp' ok3 st3
      rw [hdrop] at q
      unfold lcA at q
      rw [if_pos hw'] at q
      cases eg : gm d (wipeD ρ vs) with
      | none => rw [eg] at q; cases q
      | some ρ2 =>
        rw [eg] at q
        dsimp only at q
        refine hg (c'.to G3 H3) x d (L2.wipe σ vs) (wipeD ρ vs) ρ2 _ ok3 (env1.mono (as.st.le.trans st3.le)) hx eg fun σ2 env2 hwp => ⟨hwp.trans wipe_idem, ?_⟩
        refine ⟨ρ2, c'.to G3 H3, rfl, ok3, env2, ?_⟩
        show Wp W _ (t ρ2 c'.μ) _ _ _
        cases et : t ρ2 c'.μ with
        | bad => rw [et] at q; cases q
        | exc y μ2 => rw [et] at q; cases q
        | ok k μ2 =>
          rw [et] at q
          intro k' c4 e4 s4 ok4 hk
          subst hk
          obtain ⟨as4, hp4⟩ := as3.step hp3 ok4 s4
          cases k' with
          | false =>
            rw [if_neg Bool.false_ne_true]
            exact ⟨c4, acc, ac, rfl, as4, hp4, dpa_mono (st3.le.trans s4.le) ha, by rw [e4]; exact q⟩
          | true =>
            rw [if_pos rfl]
            dsimp only at q
            refine ⟨ρ2, c4, rfl, ok4, env2.mono s4.le, ?_⟩
            rw [e4]
            cases ee : el ρ2 μ2 with
            | bad => rw [ee] at q; cases q
            | exc y μ5 => rw [ee] at q; cases q
            | ok y μ5 =>
              rw [ee] at q
              dsimp only at q
              intro u c5 e5 s5 ok5 r5
              obtain ⟨as5, hp5⟩ := as4.step hp4 ok5 s5
              have ha5 := dpa_mono ((st3.le.trans s4.le).trans s5.le) ha
              split at q
              · rename_i hl
                refine ⟨ac, hp5, by rw [dpa_len ha]; exact hl, c5.to c5.G (upd c5.H p (.lst (ac ++ [u]))), acc ++ [y], ac ++ [u], rfl, as5.put hp ok1, upd_same, dpa_mono (le_to (Same.refl _)) (dpa_app ha5 (.cons r5 .nil)), ?_⟩
                show lcA _ _ _ _ _ _ _ _ c5.μ = _
                rw [e5]; exact q
              · cases q
    · rintro H' ⟨c', acc, ac, rfl, as, hp', ha, q⟩
      rw [List.drop_length] at q
      unfold lcA at q
      split at q
      · cases q
        exact as.done hp hp' ha w1'
      · cases q
theorem me_lc {b : Bool} {i : MI} {g : TG} {gm : D → Env → Option Env} {t : MT} {el : ME} {vs : List Nat} (hg : LcT W g vs gm) (h : PE X e (tLc (tI W E i) g (tT W E0' t) (tE W E0' el) vs)) : PE X e (tE W E (mLc b i gm t el vs)) := pe_weak h fun σ H Q ⟨ρ, c, hH, ok, env, w⟩ =>
  ⟨ρ, c, hH, ok, env, wp_bind w fun J src c1 s1 ok1 hw w1 => lc_run hg ok1 (env.mono s1.le) hw w1⟩
theorem mt_yes {es : List Expr} (h : PTs X es tYes) : PTs X es (tT W E (fun _ μ => .ok true μ)) := ⟨fun pins s σ H Q I ⟨ρ, c, hH, ok, env, w⟩ => h.run pins s σ H Q I (by subst hH; exact wp_ret w ok rfl)⟩
end
end Mi
namespace Mi
open PySem PySem.Spec L2
open Classical
section
variable {W : Wd} {E : XK} {X : Cx} {c : Cf} {v u : V} {d : D} {ds : List D} {Q : VK}
theorem dpa_cut {vs : List V} {ds : List D} (h : DpA W c vs ds) (lo hi : Option Int) : DpA W c (cutV vs lo hi) ((ds.drop (HT.sIx ds.length 0 lo)).take (HT.sIx ds.length ds.length hi - HT.sIx ds.length 0 lo)) := by
  unfold cutV
  rw [dpa_len h]
  exact dpa_take _ (dpa_drop _ h)
def cutD (ds : List D) (lo hi : Option Int) : List D := (ds.drop (HT.sIx ds.length 0 lo)).take (HT.sIx ds.length ds.length hi - HT.sIx ds.length 0 lo)
noncomputable def fAdd (b : Bool) : D → D → Store → Res D := fun x y μ => match x, y with
  | .int i, .int j => .ok (.int (i + j)) μ
  | .str i, .str j => if i.length + j.length ≤ sizeLine then .ok (.str (i ++ j)) μ else .bad
  | .tup xs, .tup ys => if xs.length + ys.length ≤ sizeLine then .ok (.tup (xs ++ ys)) μ else .bad
  | x, y => match seqL μ x, seqL μ y with
    | some xs, some ys => if xs.length + ys.length ≤ sizeLine then newL b (xs ++ ys) μ else .bad
    | _, _ => .bad
theorem opm_add {b : Bool} : OpM W E (Cs.rAddD W.K) (fAdd b) := fun c x y v u Q ok hx hy w => by
  have lists : ∀ xs ys, seqL c.μ x = some xs → seqL c.μ y = some ys → xs.length + ys.length ≤ sizeLine → Wp W (Dp W) (newL b (xs ++ ys) c.μ) c Q E → Cs.rAddD W.K v u c.H Q := by
    intro xs ys e1 e2 hl w
    obtain ⟨a, vs, rfl, h1, h2⟩ := seqL_ok ok hx e1
    obtain ⟨a', ws, rfl, h3, h4⟩ := seqL_ok ok hy e2
    exact .inr (.inr (.inl ⟨a, a', vs, ws, rfl, rfl, h1, h3, by rw [dpa_len h2, dpa_len h4]; exact hl, fun p hp => wp_newL w ok (dpa_app h2 h4) hp⟩))
  unfold fAdd at w
  split at w
  · cases hx; cases hy
    exact .inl ⟨_, _, rfl, rfl, wp_ret w ok (.int _)⟩
  · cases hx; cases hy
    split at w
    · rename_i hl; exact .inr (.inl ⟨_, _, rfl, rfl, hl, wp_ret w ok (.str _)⟩)
    · exact w.elim
  · split at w
    · rename_i hl
      cases hx with
      | tup h1 h2 =>
        cases hy with
        | tup h3 h4 =>
          refine .inr (.inr (.inr ⟨_, _, _, _, rfl, rfl, Cs.sqt_mono ok.s h1, Cs.sqt_mono ok.s h3, by rw [dpa_len h2, dpa_len h4]; exact hl, fun e => ?_, fun _ e => ?_, fun _ _ p hp => wp_newT w ok (dpa_app h2 h4) hp⟩))
          · subst e
            cases h2
            exact wp_ret w ok (.tup h3 h4)
          · subst e
            cases h4
            rw [List.append_nil] at w
            exact wp_ret w ok (.tup h1 h2)
    · exact w.elim
  · split at w
    · rename_i e1 e2
      split at w
      · rename_i hl; exact lists _ _ e1 e2 hl w
      · exact w.elim
    · exact w.elim
def fI2 (g : Int → Int → D) : D → D → Store → Res D := fun x y μ => match x, y with
  | .int i, .int j => .ok (g i j) μ
  | _, _ => .bad
theorem opm_I0 {g : Int → Int → V} {gd : Int → Int → D} (hg : ∀ c i j, Dp W c (g i j) (gd i j)) : OpM W E (rI0 g) (fI2 gd) := fun c x y v u Q ok hx hy w => by
  unfold fI2 at w
  split at w
  · cases hx; cases hy
    exact ⟨_, _, rfl, rfl, wp_ret w ok (hg _ _ _)⟩
  · exact w.elim
theorem opm_sub : OpM W E Cs.rSubI (fI2 fun i j => .int (i - j)) := opm_I0 fun _ _ _ => .int _
theorem opm_gt : OpM W E Cs.rGtI (fI2 fun i j => .bl (decide (j < i))) := opm_I0 fun _ _ _ => .bl _
noncomputable def fI2c (C : Int → Int → Prop) (g : Int → Int → D) : D → D → Store → Res D := fun x y μ => match x, y with
  | .int i, .int j => if C i j then .ok (g i j) μ else .bad
  | _, _ => .bad
theorem opm_I {C : Int → Int → Prop} {g : Int → Int → V} {gd : Int → Int → D} (hg : ∀ c i j, Dp W c (g i j) (gd i j)) : OpM W E (rI C g) (fI2c C gd) := fun c x y v u Q ok hx hy w => by
  unfold fI2c at w
  split at w
  · cases hx; cases hy
    split at w
    · rename_i hc; exact ⟨_, _, rfl, rfl, hc, wp_ret w ok (hg _ _ _)⟩
    · exact w.elim
  · exact w.elim
theorem opm_mod : OpM W E Cs.rModI (fI2c (fun _ j => j ≠ 0) fun i j => .int (i.fmod j)) := opm_I fun _ _ _ => .int _
theorem opm_div : OpM W E Cs.rDivI (fI2c CDivN fun i j => .int (i.fdiv j)) := opm_I fun _ _ _ => .int _
theorem opm_pow : OpM W E Cs.rPowI (fI2c Cs.CPowW fun i j => .int (i ^ j.toNat)) := opm_I fun _ _ _ => .int _
def ownL (μ : Store) : D → Option (Nat × List D)
  | .own n => match μ[n]? with
    | some (some (.lst ds)) => some (n, ds)
    | _ => none
  | _ => none
theorem ownL_ok {n : Nat} (ok : Ok W c) (h : Dp W c v d) (e : ownL c.μ d = some (n, ds)) : d = .own n ∧ c.μ[n]? = some (some (.lst ds)) ∧ v = .ref (c.ι n) ∧ ∃ xs, c.H (c.ι n) = some (.lst xs) ∧ DpA W c xs ds := by
  cases h with
  | own hn =>
    unfold ownL at e
    dsimp only at e
    split at e
    · rename_i x hx
      cases Option.some.inj e
      obtain ⟨_, o, ho, xs, rfl, ha⟩ := ok.at' _ _ hx
      exact ⟨rfl, hx, rfl, xs, ho, ha⟩
    · cases e
  | _ => cases e
def ownK (μ : Store) : D → Option (Nat × List Key × List D)
  | .own n => match μ[n]? with
    | some (some (.dct ks ds)) => some (n, ks, ds)
    | _ => none
  | _ => none
noncomputable def fMul (b : Bool) : D → D → Store → Res D := fun x y μ => match x, y with
  | .int i, .int j => if CMulW i j then .ok (.int (i * j)) μ else .bad
  | x, .int k => match ownL μ x with
    | some (_, xs) => if -(2 ^ 63) ≤ k ∧ k < 2 ^ 63 ∧ xs.length * k.toNat ≤ sizeLine then newL b (List.replicate k.toNat xs).flatten μ else .bad
    | none => .bad
  | _, _ => .bad
theorem dpa_rep {vs : List V} {ds : List D} (h : DpA W c vs ds) : ∀ n, DpA W c (List.replicate n vs).flatten (List.replicate n ds).flatten
  | 0 => .nil
  | n + 1 => by
    rw [List.replicate_succ, List.replicate_succ, List.flatten_cons, List.flatten_cons]
    exact dpa_app h (dpa_rep h n)
theorem opm_mul {b : Bool} : OpM W E Cs.rMulD (fMul b) := fun c x y v u Q ok hx hy w => by
  unfold fMul at w
  split at w
  · cases hx; cases hy
    split at w
    · rename_i hc; exact .inl ⟨_, _, rfl, rfl, hc, wp_ret w ok (.int _)⟩
    · exact w.elim
  · split at w
    · rename_i n xs e
      split at w
      · rename_i hc
        cases hy
        obtain ⟨rfl, _, rfl, vs, h1, h2⟩ := ownL_ok ok hx e
        exact .inr ⟨_, _, vs, rfl, rfl, h1, hc.1, hc.2.1, by rw [dpa_len h2]; exact hc.2.2, fun p hp => wp_newL w ok (dpa_rep h2 _) hp⟩
      · exact w.elim
    · exact w.elim
  · exact w.elim
noncomputable def eqView (neg : Bool) : D → D → Store → Res D := fun x y μ => match x.view μ, y.view μ with
  | some p, some q => if SeqAt.shaped p = true ∧ SeqAt.shaped q = true then .ok (.bl (if neg = true then !PyData.eqv p q else PyData.eqv p q)) μ else .bad
  | _, _ => .bad
noncomputable def eqOne (neg : Bool) : D → D → Store → Res D := fun x y μ => match x, y with
  | .str a, .str b => .ok (.bl (if neg = true then !(a == b) else a == b)) μ
  | _, _ => eqView neg x y μ
noncomputable def fEq (neg : Bool) : D → D → Store → Res D := fun x y μ => match seqL μ x, seqL μ y with
  | some xs, some ys => if xs.length = ys.length then eqView neg x y μ else .ok (.bl neg) μ
  | _, _ => eqOne neg x y μ
def rEqZ (K : PySem.W.Frag) (b : Bool) (r : R2) : R2 := fun x y H Q => (r x y H Q ∨ ∃ p q xs ys, x = .ref p ∧ y = .ref q ∧ SqL K H p xs ∧ SqL K H q ys ∧ xs.length ≠ ys.length ∧ Q (.bl b) H) ∨ ∃ i j : Str, x = .str i ∧ y = .str j ∧ Q (.bl (if b = true then !(i == j) else i == j)) H
theorem op_neZ {X : Cx} (hu : X.A.units + 64 < cLine) : OpR X (compareOp .NotEq) (rEqZ X.K true (rNeD X.K)) := fun pins s σ H x y v u Q I rx ry h => by
  rcases h with (h | ⟨p, q, xs, ys, rfl, rfl, hp, hq, hn, w⟩) | ⟨i, j, rfl, rfl, w⟩
  rotate_left 2
  · refine op_ne pins s σ H _ _ v u Q I rx ry ⟨rfl, ?_⟩
    rw [dec_str]
    exact w
  · exact op_neD hu pins s σ H x y v u Q I rx ry h
  · cases rx; cases ry
    obtain ⟨i1, r1, l1, _⟩ := I.list hp
    obtain ⟨i2, r2, l2, _⟩ := I.list hq
    exact SeqAt.RcNeAt.lists_lengths l1.isList l2.isList (by simp only [List.size_toArray, bne_iff_ne]; rw [← r1.length, ← r2.length]; exact hn) (by omega) X.prog X.w _ _ ⟨.bl _, H, I, rfl, w⟩
theorem eqv_ok {neg : Bool} {x y : D} (ok : Ok W c) (hx : Dp W c v x) (hy : Dp W c u y) (w : Wp W (Dp W) (eqView neg x y c.μ) c Q E) :
    ∃ p q, Cs.Dp W.K c.H v p ∧ Cs.Dp W.K c.H u q ∧ SeqAt.shaped p = true ∧ SeqAt.shaped q = true ∧ Q (.bl (if neg = true then !PyData.eqv p q else PyData.eqv p q)) c.H := by
  unfold eqView at w
  split at w
  · rename_i p q e1 e2
    split at w
    · rename_i hs
      exact ⟨p, q, dp_view ok hx e1, dp_view ok hy e2, hs.1, hs.2, wp_ret w ok (.bl _)⟩
    · exact w.elim
  · exact w.elim
theorem opm_ne : OpM W E (rEqZ W.K true (rNeD W.K)) (fEq true) := fun c x y v u Q ok hx hy w => by
  have fin : Wp W (Dp W) (eqView true x y c.μ) c Q E → rEqZ W.K true (rNeD W.K) v u c.H Q := fun w => by
    obtain ⟨p, q, h1, h2, s1, s2, k⟩ := eqv_ok ok hx hy w
    exact .inl (.inl ⟨p, q, h1.old _ _ (Cs.noDict_shaped s1), h2.old _ _ (Cs.noDict_shaped s2), s1, s2, k⟩)
  unfold fEq at w
  split at w
  · rename_i xs ys e1 e2
    split at w
    · exact fin w
    · rename_i hn
      obtain ⟨a, us, rfl, h1, h2⟩ := seqL_ok ok hx e1
      obtain ⟨b, ws, rfl, h3, h4⟩ := seqL_ok ok hy e2
      exact .inl (.inr ⟨a, b, us, ws, rfl, rfl, h1, h3, by rw [dpa_len h2, dpa_len h4]; exact hn, wp_ret w ok (.bl _)⟩)
  · unfold eqOne at w
    split at w
    · cases hx; cases hy
      exact .inr ⟨_, _, rfl, rfl, wp_ret w ok (.bl _)⟩
    · exact fin w
noncomputable def fLt : D → D → Store → Res D := fun x y μ => match x.view μ, y.view μ with
  | some p, some q => if p.hasDict = false ∧ q.hasDict = false ∧ PySem.W.alike p q = true ∧ p ≠ .none ∧ p.depth ≤ 64 then .ok (.bl (PySem.W.dataLt p q)) μ else .bad
  | _, _ => .bad
def fLeS : D → D → Store → Res D := fun x y μ => match x, y with
  | .str i, .str j => .ok (.bl (!decide (j.cps.toList < i.cps.toList))) μ
  | _, _ => .bad
def isNonD : D → Bool
  | .non => true
  | _ => false
def fIsN (neg : Bool) : D → D → Store → Res D := fun x y μ => match y with
  | .non => .ok (.bl (if neg = true then !isNonD x else isNonD x)) μ
  | _ => .bad
def flatD : D → Bool
  | .non => true
  | .bl _ => true
  | .int _ => true
  | .str _ => true
  | _ => false
def eqF : D → D → Bool
  | .non, .non => true
  | .bl a, .bl b => a == b
  | .bl a, .int b => (if a then 1 else 0) == b
  | .int a, .bl b => a == (if b then 1 else 0)
  | .int a, .int b => a == b
  | .str a, .str b => a == b
  | _, _ => false
def inF (x : D) (ds : List D) : Bool := ds.any fun y => eqF y x
def inS (i j : Str) : Bool := !(Builtin.Str.occurrences j i 0 j.length 1).isEmpty
noncomputable def fIn (neg : Bool) : D → D → Store → Res D := fun x y μ => match x, y with
  | .str i, .str j => .ok (.bl (if neg = true then !inS i j else inS i j)) μ
  | x, y => match (match seqL μ y with
      | some ds => some ds
      | none => seqT y) with
    | some ds => if flatD x = true ∧ ds.all flatD = true then .ok (.bl (if neg = true then !inF x ds else inF x ds)) μ else .bad
    | none => .bad
theorem in_seq {x y : D} {ds : List D} (ok : Ok W c) (hy : Dp W c u y) (e : (match seqL c.μ y with
      | some ds => some ds
      | none => seqT y) = some ds) : ∃ a xs, u = .ref a ∧ (SqL W.K c.H a xs ∨ SqT W.K c.H a xs) ∧ DpA W c xs ds := by
  split at e
  · rename_i ds' h
    cases Option.some.inj e
    obtain ⟨a, xs, rfl, h1, h2⟩ := seqL_ok ok hy h
    exact ⟨a, xs, rfl, .inl h1, h2⟩
  · obtain ⟨a, xs, rfl, h1, h2⟩ := seqT_ok ok hy e
    exact ⟨a, xs, rfl, .inr h1, h2⟩
noncomputable def fIx : D → D → Store → Res D := fun x y μ => match x, y with
  | .str z, .int i => if z.length ≤ sizeLine then match atI z.cps.toList i with
      | some k => .ok (.str ⟨#[k]⟩) μ
      | none => .bad
    else .bad
  | x, .int i => match (match seqL μ x with
      | some ds => some ds
      | none => seqT x) with
    | some ds => match atI ds i with
      | some d => .ok d μ
      | none => .bad
    | none => .bad
  | _, _ => .bad
theorem dpa_at {vs : List V} {ds : List D} {i : Int} {d : D} (h : DpA W c vs ds) (e : atI ds i = some d) : ∃ v, atI vs i = some v ∧ Dp W c v d := by
  obtain ⟨j, h1, h2⟩ := Cs.atI_map (dpa_len h) e
  obtain ⟨v, h3, h4⟩ := dpa_get h h1
  exact ⟨v, h2 v h3, h4⟩
theorem opm_ix : OpM W E (rIx W.K) fIx := fun c x y v u Q ok hx hy w => by
  unfold fIx at w
  split at w
  · cases hx; cases hy
    split at w
    · rename_i hl
      split at w
      · rename_i k hk; exact .inr (.inr ⟨_, _, k, rfl, rfl, hl, hk, wp_ret w ok (.str _)⟩)
      · exact w.elim
    · exact w.elim
  · split at w
    · rename_i ds e
      split at w
      · rename_i d hd
        cases hy
        obtain ⟨a, xs, rfl, h1, h2⟩ := in_seq (x := x) ok hx e
        obtain ⟨z, h3, h4⟩ := dpa_at h2 hd
        rcases h1 with h1 | h1
        · exact .inl ⟨a, xs, _, z, rfl, rfl, h1, h3, wp_ret w ok h4⟩
        · exact .inr (.inl ⟨a, xs, _, z, rfl, rfl, h1, h3, wp_ret w ok h4⟩)
      · exact w.elim
    · exact w.elim
  · exact w.elim
abbrev MO := Env → Store → Res (Option Int)
def tO (W : Wd) (E : XK) (m : MO) : St → Hp → (Option Int → Hp → Prop) → Prop := fun σ H Q => ∃ ρ c, c.H = H ∧ Ok W c ∧ EnvR W c σ ρ ∧ Wp W (fun _ (b d : Option Int) => b = d) (m ρ c.μ) c Q E
def moNone : MO := fun _ μ => .ok none μ
def moSome (a : ME) : MO := fun ρ μ => (a ρ μ).bind fun d μ => match d with
  | .int i => .ok (some i) μ
  | _ => .bad
theorem po_weak {o : Option Expr} {t t' : St → Hp → (Option Int → Hp → Prop) → Prop} (h : PO X o t) (f : ∀ σ H Q, t' σ H Q → t σ H Q) : PO X o t' := ⟨fun pins s σ H Q I q => h.run pins s σ H Q I (f _ _ _ q)⟩
theorem mo_none {o : Option Expr} (h : PO X o tNoPart) : PO X o (tO W E moNone) := po_weak h fun σ H Q ⟨ρ, c, hH, ok, env, w⟩ => by
  subst hH
  exact wp_ret w ok rfl
theorem mo_some {o : Option Expr} {a : ME} (h : PO X o (tPart (tE W E a))) : PO X o (tO W E (moSome a)) := po_weak h fun σ H Q ⟨ρ, c, hH, ok, env, w⟩ =>
  ⟨ρ, c, hH, ok, env, wp_bind w fun v x c1 s1 ok1 r1 w1 => by
    split at w1
    · cases r1; exact ⟨_, rfl, wp_ret w1 ok1 rfl⟩
    · exact w1.elim⟩
noncomputable def fSl (b : Bool) (x : D) (lo hi : Option Int) (μ : Store) : Res D := match x with
  | .str z => if z.length ≤ sizeLine then .ok (.str (cutS z lo hi)) μ else .bad
  | .tup ds => .ok (.tup (cutD ds lo hi)) μ
  | x => match seqL μ x with
    | some ds => newL b (cutD ds lo hi) μ
    | none => .bad
noncomputable def mSl (b : Bool) (a : ME) (l h : MO) : ME := fun ρ μ => (a ρ μ).bind fun x μ => (l ρ μ).bind fun lo μ => (h ρ μ).bind fun hi μ => fSl b x lo hi μ
theorem cut_whole {ds : List D} {lo hi : Option Int} (h : HT.sIx ds.length 0 lo = 0 ∧ HT.sIx ds.length ds.length hi = ds.length) : cutD ds lo hi = ds := by
  unfold cutD
  rw [h.1, h.2]
  simp
theorem me_slice {e : Expr} {b : Bool} {a : ME} {l h' : MO} (h : PE X e (tSl (Cs.rSlD W.K) (tE W E a) (tO W E l) (tO W E h'))) : PE X e (tE W E (mSl b a l h')) := pe_weak h fun σ H Q ⟨ρ, c, hH, ok, env, w⟩ => by
  refine ⟨ρ, c, hH, ok, env, wp_bind w fun v x c1 s1 ok1 r1 w1 => ⟨ρ, c1, rfl, ok1, env.mono s1.le, wp_bind w1 fun lo' lo c2 s2 ok2 r2 w2 => ⟨ρ, c2, rfl, ok2, env.mono (s1.le.trans s2.le), wp_bind w2 fun hi' hi c3 s3 ok3 r3 w3 => ?_⟩⟩⟩
  subst r2 r3
  have r := dp_mono (s2.le.trans s3.le) r1
  unfold fSl at w3
  split at w3
  · cases r
    split at w3
    · rename_i hl; exact .inr (.inr ⟨_, rfl, hl, wp_ret w3 ok3 (.str _)⟩)
    · exact w3.elim
  · cases r with
    | tup hs ha =>
      refine .inr (.inl ⟨_, _, rfl, Cs.sqt_mono ok3.s hs, fun hw => ?_, fun _ p hp => ?_⟩)
      · rw [dpa_len ha] at hw
        rw [cut_whole hw] at w3
        exact wp_ret w3 ok3 (.tup hs ha)
      · exact wp_newT w3 ok3 (dpa_cut ha _ _) hp
  · split at w3
    · rename_i ds e
      obtain ⟨a, xs, rfl, h1, h2⟩ := seqL_ok ok3 r e
      exact .inl ⟨a, xs, rfl, h1, fun p hp => wp_newL w3 ok3 (dpa_cut h2 _ _) hp⟩
    · exact w3.elim
def fNeg : D → Store → Res D := fun x μ => match x with
  | .int i => .ok (.int (-i)) μ
  | _ => .bad
theorem unm_neg : UnM W E (rU fun i => .int (-i)) fNeg := fun c x v Q ok hx w => by
  unfold fNeg at w
  split at w
  · cases hx; exact ⟨_, rfl, wp_ret w ok (.int _)⟩
  · exact w.elim
theorem rLenK_call {X : Cx} : CallR X (.builtin "len") (fun xs H Q => ∃ a kvs, xs = [.ref a] ∧ Rd H a (.dK kvs) ∧ Q (.int kvs.length) H) := by
  intro pins s σ H xs us Q I r h
  obtain ⟨a, kvs, rfl, e, q⟩ := h
  obtain ⟨u, rfl, rx⟩ := vals1 r
  cases rx
  exact d_len I e fun t s' I' => ⟨.int kvs.length, H, I', ⟨t, rfl⟩, q⟩
def rLenA (K : PySem.W.Frag) : List V → Hp → VK → Prop := fun xs H Q => Cs.rLenD K xs H Q ∨ ∃ a kvs, xs = [.ref a] ∧ Rd H a (.dK kvs) ∧ Q (.int kvs.length) H
theorem call_lenA {X : Cx} : CallR X (.builtin "len") (rLenA X.K) := CallR.or Cs.call_lenX rLenK_call
noncomputable def fLen : List D → Store → Res D := fun xs μ => match xs with
  | [.str z] => if z.length ≤ sizeLine then .ok (.int z.length) μ else .bad
  | [x] => match (match seqL μ x with
      | some ds => some ds
      | none => seqT x) with
    | some ds => .ok (.int ds.length) μ
    | none => match dctOf μ x with
      | some (ks, _) => .ok (.int ks.length) μ
      | none => .bad
  | _ => .bad
theorem cbm_len : CbM W E (rLenA W.K) fLen := fun c xs vs Q ok hx w => by
  unfold fLen at w
  split at w
  · cases hx with
    | cons h1 h2 =>
      cases h1; cases h2
      split at w
      · rename_i hl; exact .inl ⟨_, _, rfl, ⟨hl, rfl⟩, wp_ret w ok (.int _)⟩
      · exact w.elim
  · cases hx with
    | cons h1 h2 =>
      cases h2
      split at w
      · rename_i ds e
        obtain ⟨a, xs, rfl, h3, h4⟩ := in_seq (x := .non) ok h1 e
        refine .inl ⟨_, _, rfl, ?_, by rw [← dpa_len h4] at w; exact wp_ret w ok (.int _)⟩
        rcases h3 with h3 | h3
        · exact .inl ⟨xs, h3, rfl⟩
        · exact .inr ⟨xs, h3, rfl⟩
      · split at w
        · rename_i ks ds e
          obtain ⟨a, xs, rfl, h3, h4, _, _⟩ := dct_ok ok h1 e
          refine .inr ⟨a, _, rfl, h3, ?_⟩
          rw [kvL_len h4]
          exact wp_ret w ok (.int _)
        · exact w.elim
  · exact w.elim
def keyDD : Key → D
  | .inl i => .int i
  | .inr x => .str x
noncomputable def fList (b : Bool) : List D → Store → Res D := fun xs μ => match xs with
  | [x] => match (match seqL μ x with
      | some ds => some ds
      | none => seqT x) with
    | some ds => newL b ds μ
    | none => match dctOf μ x with
      | some (ks, _) => newL b (ks.map keyDD) μ
      | none => .bad
  | _ => .bad
noncomputable def fTuple : List D → Store → Res D := fun xs μ => match xs with
  | [.tup ds] => .ok (.tup ds) μ
  | [x] => match seqL μ x with
    | some ds => .ok (.tup ds) μ
    | none => match dctOf μ x with
      | some (ks, _) => .ok (.tup (ks.map keyDD)) μ
      | none => .bad
  | _ => .bad
def strsD : List D → Option (List Str)
  | [] => some []
  | .str x :: ds => (strsD ds).map (x :: ·)
  | _ => none
noncomputable def sortS (ss : List Str) : List Str := if h : ∃ ys, Cs.SortOf ss ys then choose h else []
noncomputable def fRepr : List D → Store → Res D := fun xs μ => match xs with
  | [x] => match x.view μ with
    | some p => if p.showable = true ∧ p.shown.length ≤ sizeLine ∧ p.depth ≤ 64 then .ok (.str p.shown) μ else .bad
    | none => .bad
  | _ => .bad
theorem cbm_repr : CbM W E (Cs.rReprD W.K) fRepr := fun c xs vs Q ok hx w => by
  unfold fRepr at w
  split at w
  · split at w
    · rename_i p e
      split at w
      · rename_i hs
        cases hx with
        | cons h1 h2 =>
          cases h2
          exact ⟨_, p, rfl, dp_view ok h1 e, hs.1, hs.2.1, hs.2.2, wp_ret w ok (.str _)⟩
      · exact w.elim
    · exact w.elim
  · exact w.elim
def fMax2 : List D → Store → Res D := fun xs μ => match xs with
  | [.int i, .int j] => .ok (.int (if j > i then j else i)) μ
  | _ => .bad
theorem cbm_max2 : CbM W E Cs.rMax2 fMax2 := fun c xs vs Q ok hx w => by
  unfold fMax2 at w
  split at w
  · cases hx with
    | cons h1 h2 =>
      cases h2 with
      | cons h2 h3 =>
        cases h1; cases h2; cases h3
        exact ⟨_, _, rfl, wp_ret w ok (.int _)⟩
  · exact w.elim
end
end Mi
namespace Mi
open PySem PySem.Spec L2 PySem.W
section
variable {prog : Program} {w : World} {A : Around} {K : PySem.W.Frag} {x D : Addr} {ox od : Obj} {E : Value → Shared → Prop}
private abbrev gaB : Value := .builtin "BaseException.__getattribute__"
private abbrev gdB : Value := .builtin "getset_descriptor.__get__"
private abbrev ocB : Value := .builtin "object.__class__"
theorem xcls (C : ExcC K D) {Q : Option Value → Shared → Prop} : ∀ (s : Shared), K.In s.heap → InstAt s.heap x ox D (some od) → Q (some (.ref D)) { s with toks := s.toks + 1 } →
    wpAny (model prog w) A (getAttr? (.ref x) "__class__") Q E s := by
  rintro ⟨hp, gs, ds, tk, os⟩ kin inst q
  have isC : (clsIn K D).isSome = true := by
    obtain ⟨_, e, _⟩ := any_some C.hd
    rw [e]; rfl
  have found := findObj_data (od := od) isC C.ha C.hn C.ht
  have e1 : (gaB == Value.builtin "object.__getattribute__") = false := by decide +kernel
  have t1 := inst.type (M := model prog w)
  have t2 := looks_findIn (M := model prog w) kin C.hg
  have t3 := looks_findIn (M := model prog w) kin C.hk
  have t4 := looks_find (M := model prog w) kin inst found
  have t5 : Looks (model prog w) hp (isInstance (.ref x) (.type "BaseException")) true := t1.andThen (looks_subIn kin C.hs)
  have h1 : (onTheHeap (Value.ref D) && gaB == .builtin "object.__getattribute__") = false := by rw [e1]; rfl
  unfold getAttr? getAttrBy? getAttrBy
  refine wpAny_bind (wpAny_mkText (wpAny_bind (wpAny_attempt (wpAny_holding (wpAny_bind (t1.at (wpAny_bind (t2.at ?_))))))))
  change wpAny _ _ (if (onTheHeap (Value.ref D) && gaB == .builtin "object.__getattribute__") = true then _ else _) _ _ _
  rw [h1, if_neg Bool.false_ne_true]
  unfold getAttrByItsOwn hookBefore
  have h2 : onTheHeap (Value.ref D) = true := rfl
  rw [if_pos h2]
  refine wpAny_bind (t3.at (wpAny_bind (wpAny_attempt (wpAny_holding ?_))))
  unfold callGetattribute
  have h3 : (false && onTheHeap gaB) = false := rfl
  rw [h3, if_neg Bool.false_ne_true]
  unfold boundAndCalled
  rw [PySem.F.excAttr_ValueError.ga.bind (.ref x)]
  refine wpAny_bind (wpAny_pure ?_)
  change wpAny _ _ (call gaB [.ref x, .str "__class__" tk]) _ _ _
  refine wpAny_call (codeAny_call_builtin PySem.F.excAttr_ValueError.ga.plain PySem.F.entry_bexc_ga ?_)
  refine @check_slot (model prog w) _ _ ⟨hp, gs, ds, tk + 1, os⟩ _ "BaseException" "__getattribute__" (.ref x) [.str "__class__" tk] [] _
    (by decide +kernel) (by decide +kernel) t5 (PySem.F.args_bexc_ga _ _) ?_
  unfold Builtin.«object.__getattribute__»
  refine wpAny_bind (wpAny_of_eq (a := ((.ref x : Value), [Value.str "__class__" tk]))
    (by first | rfl | (simp only [slotArgs]; rfl)) (wpAny_bind (wpAny_pure (wpAny_bind (t1.at (wpAny_bind (t4.at ?_)))))))
  change wpAny _ _ (holding [ocB] (call gdB [ocB, .ref x, .ref D]) >>= ret) _ _ _
  refine wpAny_bind (wpAny_holding (wpAny_call (class_get (s := ⟨hp, gs, ds, tk + 1, os⟩) (ox := ox) (od := some od) kin inst C.hm ?_)))
  refine wpAny_pure ?_
  change wpAny _ _ (handedOut (.ref D)) _ _ _
  rw [handedOut_of (v := .ref D) rfl]
  first
    | exact wpAny_pure q
    | exact wpAny_pure (wpAny_pure q)
    | exact wpAny_pure (wpAny_bind (wpAny_pure (wpAny_pure q)))
end
theorem xkit {K : PySem.W.Frag} {D x : Addr} {ox od : Obj} (C : ExcC K D) : KitX K (.ref x) (.ref D) (fun h => InstAt h x ox D (some od)) := by
  have Z := handS_kitx_exc (x := x) (ox := ox) C.hg C.hk C.hs C.hd C.ha C.hn C.ht C.hm
  refine ⟨fun _ _ _ I => I.type, fun M h X I => ?_, Z.ne, fun X I k => xcls C _ X I k⟩
  obtain ⟨_, e, _⟩ := any_some C.hd
  unfold clsIn at e
  split at e
  · rename_i c' d' cd' sl' ho
    intro A1 Q1 E1 s1 k q
    unfold isType loadHead
    have there := k _ _ (X _ _ ho)
    exact wpAny_bind (wpAny_loadPart there (wpAny_pure q))
  · cases e
inductive TyM (K : PySem.W.Frag) (H : Hp) : V → Value → Prop
  | x {v : V} {t : Value} (h : TyX K H v t) : TyM K H v t
  | e0 {a g : Addr} (C : ExcC K g) (h : H a = some (Cs.XO (.ref g) none a)) : TyM K H (.ref a) (.ref g)
  | e1 {a g dx : Addr} {fs : List (Str × V)} (C : ExcC K g) (h : H a = some (Cs.XO (.ref g) (some dx) a)) (h2 : H dx = some (.xd fs)) : TyM K H (.ref a) (.ref g)
theorem TyM.kit {X : Cx} {pins : List (Addr × Obj)} {σ : L2.St} {H : Hp} {s : Shared} {v : V} {t u : Value} (I : Inv X pins σ H s) (r : RelV v u) (h : TyM X.K H v t) : ∃ P : Heap → Prop, KitX X.K u t P ∧ P s.heap ∧ u ≠ .builtin "__main__.__loader__#opaque" := by
  cases h with
  | x h => exact kit_of I r h
  | e0 C h =>
    cases r
    obtain ⟨oe, vs, hget, hz, hv⟩ := Cs.xo_at I.hok h
    refine ⟨_, handS_kitx_exc (ox := oe) C.hg C.hk C.hs C.hd C.ha C.hn C.ht C.hm, ?_, fun z => nomatch z⟩
    obtain ⟨oc, od, oda, osl⟩ := oe
    obtain ⟨h1, h2⟩ := hz
    dsimp only at h1 h2 hv
    subst h1 h2 hv
    exact ⟨hget, rfl, rfl, trivial⟩
  | @e1 _ _ dx fs C h h2 =>
    cases r
    obtain ⟨oe, vs, hget, hz, hv⟩ := Cs.xo_at I.hok h
    obtain ⟨mA, hns, _⟩ := (show ObjOk X.prog X.w H s.heap dx (.xd fs) from I.hok dx _ h2)
    obtain ⟨od, ho, _⟩ := lookIn_ns hns
    refine ⟨_, xkit (ox := oe) (od := od) C, ⟨hget, hz.1, by unfold PySem.W.notCls; rw [hv] <;> rfl, by rw [hz.2]; exact ho⟩, fun z => nomatch z⟩
def rIsM (K : PySem.W.Frag) : List V → Hp → VK → Prop := fun xs H Q => ∃ (x cl : V) (t u : Value) (b : Bool), xs = [x, cl] ∧ ClsV cl u ∧ TyM K H x t ∧ kitOne K t u = some b ∧ Q (.bl b) H
theorem call_isM {X : Cx} : CallR X (.builtin "isinstance") (rIsM X.K) := fun pins s σ H xs us Q I r ⟨x, cl, t, u, b, e0, k, ty, e, q⟩ => by
  subst e0
  obtain ⟨u1, u2, rfl, r1, r2⟩ := vals2 r
  cases k.eq r2
  obtain ⟨P, Z, p, hx⟩ := ty.kit I r1
  exact kia_one Z I.kIn p e hx fun tk => ⟨.bl b, H, I.tok tk, rfl, q⟩
inductive TN where
  | b (n : String) | o (C : String)
def tnC : Cell → TN
  | .lst _ => .b "list"
  | .dct _ _ => .b "dict"
  | .lck _ _ => .b "dict"
  | .obj C _ _ => .o C
def tnD (μ : Store) : D → Option TN
  | .non => some (.b "NoneType")
  | .bl _ => some (.b "bool")
  | .int _ => some (.b "int")
  | .str _ => some (.b "str")
  | .lst _ => some (.b "list")
  | .tup _ => some (.b "tuple")
  | .dct _ _ => some (.b "dict")
  | .obj C _ _ => some (.o C)
  | .exc C _ _ => some (.o C)
  | .own n => match μ[n]? with
    | some (some x) => some (tnC x)
    | _ => none
  | _ => none
def errs : List String := ["CallError", "BadParameter", "BadSignature", "NoName", "BadCall", "BadPiece", "Repeated", "Refused", "BadRow", "BadCounts", "NothingBinds", "BadChain", "Stopped", "BadVariants", "BadVersions", "BadMoves", "Breaks", "NoFunction", "NoSite", "BadEntry", "BadText"]
def isaC (C T : String) : Bool := C == T || (errs.contains C && T == "CallError")
def isaN (C m : String) : Bool := errs.contains C && ["ValueError", "Exception", "BaseException"].contains m
def btys : List String := ["NoneType", "bool", "int", "str", "list", "tuple", "dict"]
def isaT : TN → D → Option Bool
  | .b n, .ty m => kitB n m
  | .b _, .cls _ => some false
  | .o C, .cls T => some (isaC C T)
  | .o C, .ty m => some (isaN C m)
  | _, _ => none
structure IsF (W : Wd) (ts ms : List String) : Prop where
  oo : ∀ C g T t, T ∈ ts → W.cm C = some g → W.cm T = some t → kitOne W.K (.ref g) (.ref t) = some (isaC C T)
  bo : ∀ n T t, n ∈ btys → T ∈ ts → W.cm T = some t → kitOne W.K (.type n) (.ref t) = some false
  ob : ∀ C g m, m ∈ ms → W.cm C = some g → kitOne W.K (.ref g) (.type m) = some (isaN C m)
  ins : ∀ C g, errs.contains C = false → W.cm C = some g → Cs.IsC W.K g
  exc : ∀ C g, errs.contains C = true → W.cm C = some g → ExcC W.K g
section
variable {W : Wd} {E : XK} {X : Cx} {c : Cf} {v : V} {d : D} {ts ms : List String} {e : Expr}
theorem tn_b (ok : Ok W c) (h : Dp W c v d) {n : String} (e : tnD c.μ d = some (.b n)) : TyX W.K c.H v (.type n) ∧ n ∈ btys := by
  cases h with
  | non => cases Option.some.inj e; exact ⟨.base .non, by decide⟩
  | bl b => cases Option.some.inj e; exact ⟨.base (.bl b), by decide⟩
  | int i => cases Option.some.inj e; exact ⟨.base (.int i), by decide⟩
  | str i => cases Option.some.inj e; exact ⟨.base (.str i), by decide⟩
  | lst hs _ =>
    cases Option.some.inj e
    refine ⟨?_, by decide⟩
    rcases ok.s.seq hs with (h | ⟨o, h⟩) | ⟨o, its, n, h, hc, _⟩
    · exact .base (.lst h)
    · exact .base (.frz h)
    · exact .kList h hc
  | tup hs _ =>
    cases Option.some.inj e
    refine ⟨?_, by decide⟩
    rcases Cs.sqt_mono ok.s hs with (h | ⟨o, h⟩) | ⟨o, its, n, h, hc, _⟩
    · exact .base (.tup h)
    · exact .fTuple h
    · exact .kTuple h hc
  | dct hr _ _ _ =>
    cases Option.some.inj e
    refine ⟨?_, by decide⟩
    rcases Cs.rd_same ok.s hr with h | ⟨o, h⟩
    · exact .base (.dK h)
    · exact .fDict h
  | own hn =>
    unfold tnD at e
    dsimp only at e
    split at e
    · rename_i x hx
      obtain ⟨_, o, ho, hc⟩ := ok.at' _ _ hx
      cases x with
      | lst ds =>
        obtain ⟨xs, rfl, _⟩ := hc
        cases Option.some.inj e
        exact ⟨.base (.lst ho), by decide⟩
      | dct ks ds =>
        obtain ⟨xs, rfl, _⟩ := hc
        cases Option.some.inj e
        exact ⟨.base (.dK ho), by decide⟩
      | lck ks ds =>
        obtain ⟨xs, od, rfl, _⟩ := hc
        cases Option.some.inj e
        exact ⟨.fDict ho, by decide⟩
      | obj C ks ds => cases Option.some.inj e
    · cases e
  | _ => cases e
theorem tn_o (F : IsF W ts ms) (ok : Ok W c) (h : Dp W c v d) {C : String} (e : tnD c.μ d = some (.o C)) : ∃ g, W.cm C = some g ∧ (errs.contains C = false ∨ errs.contains C = true) ∧ ((∃ a dx fs, v = .ref a ∧ c.H a = some (.ins g dx fs)) ∨ ∃ a, v = .ref a ∧ (c.H a = some (Cs.XO (.ref g) none a) ∨ ∃ dx fs, c.H a = some (Cs.XO (.ref g) (some dx) a) ∧ c.H dx = some (.xd fs))) := by
  have tf : ∀ b : Bool, b = false ∨ b = true := fun b => by cases b <;> simp
  cases h with
  | obj hc hg hl ha => cases Option.some.inj e; exact ⟨_, hc, tf _, .inl ⟨_, _, _, rfl, ok.s _ _ hg⟩⟩
  | @exc _ _ _ d _ _ _ hc hg hd hn hl ha =>
    cases Option.some.inj e
    cases d with
    | none => exact ⟨_, hc, tf _, .inr ⟨_, rfl, .inl (ok.s _ _ hg)⟩⟩
    | some dx => exact ⟨_, hc, tf _, .inr ⟨_, rfl, .inr ⟨dx, _, ok.s _ _ hg, ok.s _ _ (hd dx rfl)⟩⟩⟩
  | own hn =>
    unfold tnD at e
    dsimp only at e
    split at e
    · rename_i x hx
      obtain ⟨_, o, ho, hc⟩ := ok.at' _ _ hx
      cases x with
      | obj C ks ds =>
        cases Option.some.inj e
        obtain ⟨g, dx, xs, h1, rfl, _⟩ := hc
        exact ⟨g, h1, tf _, .inl ⟨_, _, _, rfl, ho⟩⟩
      | _ => cases Option.some.inj e
    · cases e
  | _ => cases e
def isExcD : D → Bool
  | .exc _ _ _ => true
  | _ => false
def kindOk (μ : Store) (d : D) : Bool := match tnD μ d with
  | some (.o C) => errs.contains C == isExcD d
  | _ => true
theorem tn_any (F : IsF W ts ms) (ok : Ok W c) (h : Dp W c v d) (hk : kindOk c.μ d = true) {tn : TN} (e : tnD c.μ d = some tn) : ∃ t, TyM W.K c.H v t ∧ ∀ cl u b, ClsV (match cl with | .ty n => .ty n | .cls C => .ref ((W.cm C).getD 0) | _ => .non) u → isaT tn cl = some b → (∀ n, cl = .ty n → n ∈ ms ∨ ∃ m, tn = .b m) → (∀ T, cl = .cls T → T ∈ ts ∧ W.cm T ≠ none) → kitOne W.K t u = some b := by
  cases tn with
  | b n =>
    obtain ⟨h1, h2⟩ := tn_b ok h e
    refine ⟨_, .x h1, fun cl u b hu hb _ hT => ?_⟩
    cases cl with
    | ty m => cases hu; exact kit_ty hb
    | cls T =>
      obtain ⟨g, hg⟩ := Option.ne_none_iff_exists'.mp (hT T rfl).2
      dsimp only at hu
      rw [hg] at hu
      cases hu
      cases Option.some.inj hb
      exact F.bo n T g h2 (hT T rfl).1 hg
    | _ => cases hb
  | o C =>
    obtain ⟨g, hg, tf, hv⟩ := tn_o F ok h e
    have key : TyM W.K c.H v (.ref g) := by
      unfold kindOk at hk
      rw [e] at hk
      have hk' : errs.contains C = isExcD d := beq_iff_eq.mp hk
      cases h with
      | obj hc hg' hl ha =>
        cases Option.some.inj e
        rw [hg] at hc; cases hc
        exact .x ((F.ins C g hk' hg).ty (ok.s _ _ hg'))
      | @exc _ _ _ d _ _ _ hc hg' hd hn hl ha =>
        cases Option.some.inj e
        rw [hg] at hc; cases hc
        cases d with
        | none => exact .e0 (F.exc C g hk' hg) (ok.s _ _ hg')
        | some dx => exact .e1 (F.exc C g hk' hg) (ok.s _ _ hg') (ok.s _ _ (hd dx rfl))
      | @own n hn =>
        have e' := e
        unfold tnD at e'
        dsimp only at e'
        split at e'
        · rename_i x hx
          obtain ⟨_, o, ho, hc⟩ := ok.at' _ _ hx
          cases x with
          | obj C' ks ds =>
            cases Option.some.inj e'
            obtain ⟨g', dx, xs, h1, rfl, _⟩ := hc
            rw [hg] at h1; cases h1
            exact .x ((F.ins C g hk' hg).ty ho)
          | _ => cases Option.some.inj e'
        · cases e'
      | _ => cases e
    refine ⟨_, key, fun cl u b hu hb hm hT => ?_⟩
    cases cl with
    | ty m =>
      cases hu
      cases Option.some.inj hb
      rcases hm m rfl with z | ⟨_, z⟩
      · exact F.ob C g m z hg
      · cases z
    | cls T =>
      obtain ⟨t, ht⟩ := Option.ne_none_iff_exists'.mp (hT T rfl).2
      dsimp only at hu
      rw [ht] at hu
      cases hu
      cases Option.some.inj hb
      exact F.oo C g T t (hT T rfl).1 hg ht
    | _ => cases hb
end
end Mi
namespace Mi
open PySem PySem.Spec L2
open Classical
section
variable {W : Wd} {E : XK} {X : Cx} {c : Cf} {v : V} {d : D} {ds : List D} {e : Expr} {st : Stmt} {Q : VK}
def lookF {α : Type} (f : Str) : List Str → List α → Option α
  | k :: ks, x :: xs => if f = k then some x else lookF f ks xs
  | _, _ => none
theorem lookF_ok {f : Str} : ∀ {ks : List Str} {xs : List V} {ds : List D} {d : D}, DpA W c xs ds → lookF f ks ds = some d → ∃ v, (fsL ks xs).lookup f = some v ∧ Dp W c v d
  | [], _, _, _, _, e => by cases e
  | _ :: _, _, _, _, .nil, e => by cases e
  | k :: ks, _, _, d, .cons h1 h2, e => by
    unfold lookF at e
    show ∃ v, List.lookup f ((k, _) :: fsL ks _) = some v ∧ _
    by_cases hk : f = k
    · rw [if_pos hk] at e
      cases Option.some.inj e
      exact ⟨_, by rw [List.lookup_cons, hk, beq_self_eq_true], h1⟩
    · rw [if_neg hk] at e
      obtain ⟨v, h3, h4⟩ := lookF_ok h2 e
      refine ⟨v, ?_, h4⟩
      rw [List.lookup_cons]
      have : (f == k) = false := beq_eq_false_iff_ne.mpr hk
      rw [this]; exact h3
def mFld (Cs' : List String) (f : Str) (a : ME) : ME := fun ρ μ => (a ρ μ).bind fun x μ => match objOf μ x with
  | some (C, ks, ds) => if Cs'.contains C = true then match lookF f ks ds with
      | some d => .ok d μ
      | none => .bad
    else .bad
  | none => .bad
def putFK (f : Str) : List Str → List Str
  | [] => [f]
  | k :: ks => if k = f then k :: ks else k :: putFK f ks
def putFV {α : Type} (f : Str) (z : α) : List Str → List α → List α
  | [], xs => xs ++ [z]
  | k :: ks, x :: xs => if k = f then z :: xs else x :: putFV f z ks xs
  | _ :: _, [] => []
def ownO (μ : Store) : D → Option (Nat × String × List Str × List D)
  | .own n => match μ[n]? with
    | some (some (.obj C ks ds)) => some (n, C, ks, ds)
    | _ => none
  | _ => none
def mPutF (Cs' : List String) (f : Str) (o a : ME) : MS := fun _ ρ μ => (a ρ μ).st fun z μ => (o ρ μ).st fun x μ => match ownO μ x with
  | some (n, C, ks, ds) => if Cs'.contains C = true ∧ ks.length < 1000 then .nx ρ (μ.set n (some (.obj C (putFK f ks) (putFV f z ks ds)))) else .bad
  | none => .bad
def spM (W : Wd) (m : List D → Store → Res D) : Sp := fun vs H Q E => ∃ c ds, c.H = H ∧ Ok W c ∧ DpA W c vs ds ∧ Wp W (Dp W) (m ds c.μ) c Q E
def mFn (N P : Nat) (body : MS) : List D → Store → Res D := fun ds μ => if ds.length = P then match body μ.length (startD N ds) μ with
    | .nx _ μ => .ok .non μ
    | .rt d μ => .ok d μ
    | .exc x μ => .exc x μ
    | _ => .bad
  else .bad
theorem spM_len {N P : Nat} {body : MS} {vs : List V} {H : Hp} {E : XK} (h : spM W (mFn N P body) vs H Q E) : vs.length = P := by
  obtain ⟨c, ds, _, _, r, w⟩ := h
  unfold mFn at w
  split at w
  · rename_i hl; rw [dpa_len r]; exact hl
  · exact w.elim
theorem pureM {N : List Str} {P : Nat} {body : MS} {vs : List V} {H : Hp} (h : spM W (mFn N.length P body) vs H Q E) : tS W E body { nx := fun _ H' => Q .non H', rt := Q } (L2.start N vs) H := by
  obtain ⟨c, ds, hH, ok, r, w⟩ := h
  unfold mFn at w
  split at w
  · refine ⟨c, c, startD N.length ds, c, hH, ok, .refl ok, .refl c, EnvR.start r, ?_⟩
    cases eb : body c.μ.length (startD N.length ds) c.μ with
    | nx ρ μ => rw [eb] at w; exact fun σ c' e s _ ok' _ => w .non c' e s ok' .non
    | rt d μ => rw [eb] at w; exact w
    | bk ρ μ => rw [eb] at w; exact w.elim
    | ct ρ μ => rw [eb] at w; exact w.elim
    | exc x μ => rw [eb] at w; exact w
    | bad => rw [eb] at w; exact w.elim
  · exact w.elim
def mCall (m : List D → Store → Res D) (a : MA) : ME := fun ρ μ => (a ρ μ).bind m
theorem me_call {m : List D → Store → Res D} {a : MA} (h : PE X e (tCall (spM W m) [] E (tA W E a))) : PE X e (tE W E (mCall m a)) := pe_weak h fun σ H Q ⟨ρ, c, hH, ok, env, w⟩ =>
  ⟨ρ, c, hH, ok, env, wp_bind w fun vs ds c1 s1 ok1 r1 w1 => ⟨c1, ds, rfl, ok1, by rw [List.append_nil]; exact r1, w1⟩⟩
def mMeth (C : String) (f : Str) (m : List D → Store → Res D) (o : ME) (a : MA) : ME := fun ρ μ => (o ρ μ).bind fun x μ => match objOf μ x with
  | some (C', ks, _) => if C' = C ∧ f ∉ ks then (a ρ μ).bind fun ds μ => m (x :: ds) μ else .bad
  | none => .bad
def mProp (C : String) (m : List D → Store → Res D) (o : ME) : ME := fun ρ μ => (o ρ μ).bind fun x μ => match objOf μ x with
  | some (C', _, _) => if C' = C then m [x] μ else .bad
  | none => .bad
def mkObj (frz : Bool) (C : String) (m : List D → Store → Res D) (ds : List D) (μ : Store) : Res D :=
  match m (.own μ.length :: ds) (μ ++ [some (.obj C [] [])]) with
  | .ok .non μ' => if frz = true then match μ'[μ.length]? with
      | some (some x) => match frzC x with
        | some d => .ok d (μ'.set μ.length none)
        | none => .bad
      | _ => .bad
    else .ok (.own μ.length) μ'
  | .exc x μ' => .exc x μ'
  | _ => .bad
def mMake (frz : Bool) (C : String) (m : List D → Store → Res D) (a : MA) : ME := fun ρ μ => (a ρ μ).bind (mkObj frz C m)
def mRaise (C : String) : MS := fun _ _ μ => .exc ⟨C, [], []⟩ μ
end
end Mi
namespace Mi
open PySem PySem.Spec L2
open Classical
section
variable {W : Wd} {E : XK} {X : Cx} {c : Cf} {v : V} {d : D} {ds : List D} {e tg iter : Expr} {st : Stmt} {Q : VK}
def tyM (μ : Store) : D → Option String
  | .str _ => some "str"
  | .int _ => some "int"
  | .lst _ => some "list"
  | .own n => match μ[n]? with
    | some (some (.lst _)) => some "list"
    | some (some (.dct _ _)) => some "dict"
    | _ => none
  | _ => none
def mBm (T : String) (f : D → List D → Store → Res D) (o : ME) (a : MA) : ME := fun ρ μ => (o ρ μ).bind fun x μ => if tyM μ x = some T then (a ρ μ).bind fun xs μ => f x xs μ else .bad
def mgSubL (o i : ME) : MG := fun z ρ μ => (o ρ μ).bind fun x μ => (i ρ μ).bind fun y μ => match ownL μ x, y with
  | some (n, ds), .int k => match ixN ds.length k with
    | some j => .ok ρ (μ.set n (some (.lst (ds.set j z))))
    | none => .bad
  | _, _ => .bad
theorem mg_subL {o i : ME} (h : PG X e (gSub (tE W E o) (tE W E i) rSetL)) : PG X e (tG W E (mgSubL o i)) := pg_weak h fun v σ H Q ⟨ρ, c, z, hH, ok, env, rz, w⟩ =>
  ⟨ρ, c, hH, ok, env, wp_bind w fun u x c1 s1 ok1 r1 w1 => ⟨ρ, c1, rfl, ok1, env.mono s1.le, wp_bind w1 fun u2 y c2 s2 ok2 r2 w2 => by
    split at w2
    · rename_i n ds k e
      split at w2
      · rename_i j hj
        obtain ⟨rfl, hm, rfl, ws, h1, h2⟩ := ownL_ok ok2 (dp_mono s2.le r1) e
        cases r2
        have le := s1.le.trans s2.le
        have ha := dpa_set j h2 (dp_mono le rz)
        obtain ⟨ok3, s5⟩ := step_put (x := .lst (ds.set j z)) (o := .lst (ws.set j v)) ok2 hm rfl ⟨_, rfl, ha⟩
        exact ⟨_, ws, _, j, rfl, rfl, h1, by rw [dpa_len h2]; exact hj, w2 σ (c2.put n (.lst (ws.set j v)) (.lst (ds.set j z))) rfl s5 ok3 (env.mono (le.trans s5.le))⟩
      · exact w2.elim
    · exact w2.elim⟩⟩
def keyOf : D → Option Key
  | .int i => some (.inl i)
  | .str x => some (.inr x)
  | _ => none
theorem keyOf_ok {k : Key} (h : Dp W c v d) (e : keyOf d = some k) : v = kV k := by
  cases h <;> first | (cases Option.some.inj e; rfl) | cases e
def lookK {α : Type} (k : Key) : List Key → List α → Option α
  | k' :: ks, x :: xs => if k' = k then some x else lookK k ks xs
  | _, _ => none
def mDGet (o i : ME) : ME := fun ρ μ => (o ρ μ).bind fun x μ => (i ρ μ).bind fun y μ => match dctOf μ x, keyOf y with
  | some (ks, ds), some k => match lookK k ks ds with
    | some d => .ok d μ
    | none => .bad
  | _, _ => .bad
def mDIn (neg : Bool) (i o : ME) : ME := fun ρ μ => (i ρ μ).bind fun y μ => (o ρ μ).bind fun x μ => match dctOf μ x, keyOf y with
  | some (ks, ds), some k => .ok (.bl (if neg = true then !(lookK k ks ds).isSome else (lookK k ks ds).isSome)) μ
  | _, _ => .bad
noncomputable def putKK (ks : List Key) (k : Key) : List Key := if k ∈ ks then ks else ks ++ [k]
def putKV {α : Type} (k : Key) (z : α) : List Key → List α → List α
  | k' :: ks, x :: xs => if k' = k then z :: xs else x :: putKV k z ks xs
  | _, xs => xs ++ [z]
theorem kvL_any {k : Key} : ∀ {ks : List Key} {xs : List V}, ks.length = xs.length → (((Cs.kvL ks xs).any fun kv => decide (kv.1 = k)) = true ↔ k ∈ ks)
  | [], _, _ => by simp [Cs.kvL]
  | _ :: _, [], h => by simp at h
  | k' :: ks, x :: xs, h => by
    have ih := kvL_any (k := k) (ks := ks) (xs := xs) (by simpa using h)
    show (((k', x) :: Cs.kvL ks xs).any fun kv => decide (kv.1 = k)) = true ↔ _
    rw [List.any_cons, Bool.or_eq_true, ih, decide_eq_true_iff, List.mem_cons]
    exact ⟨fun z => z.elim (fun q => .inl q.symm) .inr, fun z => z.elim (fun q => .inl q.symm) .inr⟩
theorem kvL_app {k : Key} {z : V} : ∀ {ks : List Key} {xs : List V}, ks.length = xs.length → Cs.kvL ks xs ++ [(k, z)] = Cs.kvL (ks ++ [k]) (xs ++ [z])
  | [], [], _ => rfl
  | [], _ :: _, h => by simp at h
  | _ :: _, [], h => by simp at h
  | k' :: ks, x :: xs, h => by
    show (k', x) :: (Cs.kvL ks xs ++ [(k, z)]) = (k', x) :: Cs.kvL (ks ++ [k]) (xs ++ [z])
    rw [kvL_app (by simpa using h)]
theorem putKV_no {α : Type} {k : Key} {z : α} : ∀ {ks : List Key} {xs : List α}, ks.length = xs.length → k ∉ ks → putKV k z ks xs = xs ++ [z]
  | [], _, _, _ => by unfold putKV; rfl
  | _ :: _, [], h, _ => by simp at h
  | k' :: ks, x :: xs, h, n => by
    unfold putKV
    rw [if_neg (fun e => n (by rw [e]; exact List.mem_cons_self)), putKV_no (by simpa using h) (fun q => n (List.mem_cons_of_mem _ q))]
    rfl
theorem kvL_map_no {k : Key} {z : V} : ∀ {ks : List Key} {xs : List V}, ks.length = xs.length → k ∉ ks → (Cs.kvL ks xs).map (fun kv => if kv.1 = k then (kv.1, z) else kv) = Cs.kvL ks xs
  | [], _, _, _ => rfl
  | _ :: _, [], h, _ => by simp at h
  | k' :: ks, x :: xs, h, n => by
    show (if k' = k then (k', z) else (k', x)) :: (Cs.kvL ks xs).map _ = (k', x) :: Cs.kvL ks xs
    rw [if_neg (fun e => n (by rw [e]; exact List.mem_cons_self)), kvL_map_no (by simpa using h) (fun q => n (List.mem_cons_of_mem _ q))]
theorem kvL_map {k : Key} {z : V} : ∀ {ks : List Key} {xs : List V}, ks.length = xs.length → ks.Nodup → k ∈ ks → (Cs.kvL ks xs).map (fun kv => if kv.1 = k then (kv.1, z) else kv) = Cs.kvL ks (putKV k z ks xs) ∧ (putKV k z ks xs).length = ks.length
  | [], _, _, _, m => by cases m
  | _ :: _, [], h, _, _ => by simp at h
  | k' :: ks, x :: xs, h, nd, m => by
    have hl : ks.length = xs.length := by simpa using h
    have nd' := List.nodup_cons.mp nd
    show (if k' = k then (k', z) else (k', x)) :: (Cs.kvL ks xs).map _ = Cs.kvL (k' :: ks) (putKV k z (k' :: ks) (x :: xs)) ∧ _
    unfold putKV
    by_cases hk : k' = k
    · rw [if_pos hk, if_pos hk, kvL_map_no hl (by rw [← hk]; exact nd'.1)]
      exact ⟨rfl, by simp [hl]⟩
    · rw [if_neg hk, if_neg hk]
      have m' : k ∈ ks := by
        rcases List.mem_cons.mp m with e | e
        · exact absurd e.symm hk
        · exact e
      obtain ⟨h1, h2⟩ := kvL_map (z := z) hl nd'.2 m'
      rw [h1]
      exact ⟨rfl, by simp [h2]⟩
theorem putK_L {k : Key} {z : V} {ks : List Key} {xs : List V} (h : ks.length = xs.length) (nd : ks.Nodup) : putK (Cs.kvL ks xs) k z = Cs.kvL (putKK ks k) (putKV k z ks xs) ∧ (putKK ks k).length = (putKV k z ks xs).length ∧ (putKK ks k).Nodup := by
  unfold putK putKK
  by_cases hm : k ∈ ks
  · obtain ⟨h1, h2⟩ := kvL_map (z := z) h nd hm
    rw [if_pos ((kvL_any h).mpr hm), if_pos hm]
    exact ⟨h1, h2.symm, nd⟩
  · rw [if_neg (fun q => hm ((kvL_any h).mp q)), if_neg hm, putKV_no h hm]
    exact ⟨kvL_app h, by simp [h], List.nodup_append.mpr ⟨nd, by simp, fun a ha b hb => by
      rw [List.mem_singleton.mp hb]; exact fun z => hm (z ▸ ha)⟩⟩
theorem dpa_putK {k : Key} {z : V} {dz : D} (hz : Dp W c z dz) : ∀ {ks : List Key} {xs : List V} {ds : List D}, DpA W c xs ds → DpA W c (putKV k z ks xs) (putKV k dz ks ds)
  | [], _, _, h => by unfold putKV; exact dpa_app h (.cons hz .nil)
  | _ :: _, _, _, .nil => by unfold putKV; exact .cons hz .nil
  | k' :: ks, _, _, .cons h1 h2 => by
    unfold putKV
    by_cases hk : k' = k
    · rw [if_pos hk, if_pos hk]; exact .cons hz h2
    · rw [if_neg hk, if_neg hk]; exact .cons h1 (dpa_putK hz h2)
noncomputable def mgSubK (o i : ME) : MG := fun z ρ μ => (o ρ μ).bind fun x μ => (i ρ μ).bind fun y μ => match ownK μ x, keyOf y with
  | some (n, ks, ds), some k => if ks.length < sizeLine then .ok ρ (μ.set n (some (.dct (putKK ks k) (putKV k z ks ds)))) else .bad
  | _, _ => .bad
def mDNew (b : Bool) : ME := fun _ μ => newK b [] [] μ
theorem me_dnew {b : Bool} (h : PE X e tDNewK) : PE X e (tE W E (mDNew b)) := pe_weak h fun σ H Q ⟨ρ, c, hH, ok, env, w⟩ => by
  subst hH
  exact fun p hp => wp_newK (xs := []) w ok .nil rfl .nil hp
def mPairs : List (ME × ME) → Env → Store → Res (List (D × D))
  | [], _, μ => .ok [] μ
  | (a, b) :: r, ρ, μ => (a ρ μ).bind fun x μ => (b ρ μ).bind fun y μ => (mPairs r ρ μ).bind fun ps μ => .ok ((x, y) :: ps) μ
def pairsK : List (D × D) → Option (List (Key × D))
  | [] => some []
  | (x, y) :: ps => match keyOf x, pairsK ps with
    | some k, some qs => some ((k, y) :: qs)
    | _, _ => none
noncomputable def mergeD : List Key → List D → List (Key × D) → List Key × List D
  | ks, ds, [] => (ks, ds)
  | ks, ds, (k, d) :: r => mergeD (putKK ks k) (putKV k d ks ds) r
noncomputable def mDisp (b : Bool) (trs : List (ME × ME)) : ME := fun ρ μ => (mPairs trs ρ μ).bind fun ps μ => match pairsK ps with
  | some qs => if qs.length ≤ 15 then newK b (mergeD [] [] qs).1 (mergeD [] [] qs).2 μ else .bad
  | none => .bad
end
end Mi
namespace Mi
open PySem PySem.Spec L2
open Classical
section
variable {W : Wd} {E : XK} {X : Cx} {c : Cf} {v : V} {d : D} {ds : List D} {e tg iter : Expr} {st : Stmt} {Q : VK}
structure Lk (a : Addr) (kvs : List (Key × V)) (G1 G2 : Hp) : Prop where
  off : ∀ b, b ≠ a → G1 b = G2 b
  at1 : G1 a = some (.dK kvs) ∨ ∃ o, G1 a = some (.frz o (.dK kvs))
  at2 : G2 a = some (.dK kvs) ∨ ∃ o, G2 a = some (.frz o (.dK kvs))
theorem Lk.symm {a : Addr} {kvs : List (Key × V)} {G1 G2 : Hp} (h : Lk a kvs G1 G2) : Lk a kvs G2 G1 := ⟨fun b n => (h.off b n).symm, h.at2, h.at1⟩
section
variable {a : Addr} {kvs : List (Key × V)} {G1 G2 : Hp}
theorem Lk.ne {b : Addr} {u : HO} (h : Lk a kvs G1 G2) (e : G1 b = some u) (n1 : u ≠ .dK kvs) (n2 : ∀ o, u ≠ .frz o (.dK kvs)) : G2 b = some u := by
  by_cases hb : b = a
  · subst hb
    rcases h.at1 with q | ⟨o, q⟩
    · rw [q] at e; exact absurd (Option.some.inj e).symm n1
    · rw [q] at e; exact absurd (Option.some.inj e).symm (n2 o)
  · rw [← h.off b hb]; exact e
theorem Lk.seqL {b : Addr} {xs : List V} {K : PySem.W.Frag} (h : Lk a kvs G1 G2) (s : SqL K G1 b xs) : SqL K G2 b xs := by
  rcases s with (s | ⟨o, s⟩) | s
  · exact .inl (.inl (h.ne s (fun z => by cases z) (fun _ z => by cases z)))
  · exact .inl (.inr ⟨o, h.ne s (fun z => by cases z) (fun _ z => by cases z)⟩)
  · exact .inr s
theorem Lk.seqT {b : Addr} {xs : List V} {K : PySem.W.Frag} (h : Lk a kvs G1 G2) (s : SqT K G1 b xs) : SqT K G2 b xs := by
  rcases s with (s | ⟨o, s⟩) | s
  · exact .inl (.inl (h.ne s (fun z => by cases z) (fun _ z => by cases z)))
  · exact .inl (.inr ⟨o, h.ne s (fun z => by cases z) (fun _ z => by cases z)⟩)
  · exact .inr s
theorem Lk.rd {b : Addr} {l : List (Key × V)} (h : Lk a kvs G1 G2) (s : Rd G1 b (.dK l)) : Rd G2 b (.dK l) := by
  by_cases hb : b = a
  · subst hb
    have : l = kvs := by
      rcases h.at1 with q | ⟨o, q⟩
      · rcases s with s | ⟨o', s⟩ <;> rw [q] at s <;> cases s; rfl
      · rcases s with s | ⟨o', s⟩ <;> rw [q] at s <;> cases s; rfl
    subst this
    exact h.at2
  · rcases s with s | ⟨o, s⟩
    · exact .inl (by rw [← h.off b hb]; exact s)
    · exact .inr ⟨o, by rw [← h.off b hb]; exact s⟩
mutual
theorem dp_lk {c1 c2 : Cf} (hi : c2.ι = c1.ι) (hm : c2.μ.length = c1.μ.length) (h : Lk a kvs c1.G c2.G) : ∀ {d : D} {v : V}, Dp W c1 v d → Dp W c2 v d
  | _, _, .non => .non
  | _, _, .bl b => .bl b
  | _, _, .int i => .int i
  | _, _, .str x => .str x
  | _, _, .ty n => .ty n
  | _, _, .lst hs ha => .lst (h.seqL hs) (dpa_lk hi hm h ha)
  | _, _, .tup hs ha => .tup (h.seqT hs) (dpa_lk hi hm h ha)
  | _, _, .dct hr hl hn ha => .dct (h.rd hr) hl hn (dpa_lk hi hm h ha)
  | _, _, .obj hc q hl ha => .obj hc (h.ne q (fun z => by cases z) (fun _ z => by cases z)) hl (dpa_lk hi hm h ha)
  | _, _, .exc hc q hd hn hl ha => .exc hc (h.ne q (fun z => by cases z) (fun _ z => by cases z)) (fun dx r => h.ne (hd dx r) (fun z => by cases z) (fun _ z => by cases z)) hn hl (dpa_lk hi hm h ha)
  | _, _, .cls hc => .cls hc
  | _, _, .own hn => by
    rw [← hi]
    exact .own (by rw [hm]; exact hn)
theorem dpa_lk {c1 c2 : Cf} (hi : c2.ι = c1.ι) (hm : c2.μ.length = c1.μ.length) (h : Lk a kvs c1.G c2.G) : ∀ {ds : List D} {vs : List V}, DpA W c1 vs ds → DpA W c2 vs ds
  | _, _, .nil => .nil
  | _, _, .cons h1 h2 => .cons (dp_lk hi hm h h1) (dpa_lk hi hm h h2)
end
end
end
end Mi
namespace Mi
open PySem PySem.Spec L2
open Classical
section
variable {W : Wd} {E : XK} {X : Cx} {c : Cf} {v : V} {d : D} {ds : List D} {e tg iter : Expr} {st : Stmt} {Q : VK}
theorem Aside.known {c1 c : Cf} {p : Addr} {o : HO} (h : Aside W c1 c p) (h1 : c1.H p = none) (hp : c.H p = some o) (no : ∀ ps, o ≠ .tbl ps := by intro _ z; cases z) : Le c (⟨c.ι, c.μ, upd c.G p o, c.H, c.L, c.T⟩ : Cf) ∧ Step c1 (⟨c.ι, c.μ, upd c.G p o, c.H, c.L, c.T⟩ : Cf) ∧ Ok W (⟨c.ι, c.μ, upd c.G p o, c.H, c.L, c.T⟩ : Cf) := by
  have le : Le c (⟨c.ι, c.μ, upd c.G p o, c.H, c.L, c.T⟩ : Cf) := ⟨Cs.same_new h.g, Nat.le_refl _, fun _ _ => rfl⟩
  refine ⟨le, ⟨h.st.g.freeze h1 h.g hp no, h.st.len, h.st.ag, h.st.dead, h.st.fresh, h.st.lk, h.st.tk⟩, ⟨fun q u e => ?_, h.ok.lk, fun n x e => ?_, h.ok.inj, h.ok.lc, h.ok.tb.mono rfl (fun _ _ e => e) (fun b ps e => by
    by_cases eb : b = p
    · have e' : upd c.G p o b = some (.tbl ps) := e
      rw [eb, upd_same] at e'
      exact absurd (Option.some.inj e') (no ps)
    · have e' : upd c.G p o b = some (.tbl ps) := e
      rw [upd_ne eb] at e'; exact e') (fun _ _ e => ⟨_, e⟩) fun _ _ _ e => e⟩⟩
  · by_cases eb : q = p
    · have e' : upd c.G p o q = some u := e
      rw [eb, upd_same] at e'
      rw [eb, ← e']; exact hp
    · have e' : upd c.G p o q = some u := e
      rw [upd_ne eb] at e'
      exact h.ok.s q u e'
  · obtain ⟨k1, u, k2, k3⟩ := h.ok.at' n x e
    refine ⟨?_, u, k2, k3.mono le trivial⟩
    show upd c.G p o (c.ι n) = none
    rw [upd_ne (h.m n ⟨x, e⟩)]; exact k1
def Cf.lift (c : Cf) (p : Addr) (x : Cell) : Cf := ⟨fun n => if n = c.μ.length then p else c.ι n, c.μ ++ [some x], c.G, c.H, c.L, c.T⟩
theorem Aside.cell {c1 c : Cf} {p : Addr} {o : HO} {x : Cell} (h : Aside W c1 c p) (h1 : c1.H p = none) (hp : c.H p = some o) (hx : CellAt W c o x) (nx : x.isL = false) : Le c (c.lift p x) ∧ Step c1 (c.lift p x) ∧ Ok W (c.lift p x) ∧ Dp W (c.lift p x) (.ref p) (.own c.μ.length) := by
  have old : ∀ n, n < c.μ.length → (c.lift p x).ι n = c.ι n := fun n hn => by simp [Cf.lift, Nat.ne_of_lt hn]
  have new : (c.lift p x).ι c.μ.length = p := by simp [Cf.lift]
  have le : Le c (c.lift p x) := ⟨Same.refl _, by simp [Cf.lift], old⟩
  have fr : ∀ n, live (c.lift p x).μ n → live c.μ n ∨ n = c.μ.length := fun n l => by
    rcases live_app l with z | ⟨z, _⟩
    · exact .inl z
    · exact .inr z
  have top : Dp W (c.lift p x) (.ref p) (.own c.μ.length) := by
    have := Dp.own (W := W) (c := c.lift p x) (n := c.μ.length) (by simp [Cf.lift])
    rw [new] at this; exact this
  refine ⟨le, ⟨h.st.g, Nat.le_trans h.st.len le.len, fun n hn => (old n (Nat.lt_of_lt_of_le hn h.st.len)).trans (h.st.ag n hn), fun n hn l => ?_, fun n hn l => ?_, h.st.lk, h.st.tk⟩, ⟨h.ok.s, h.ok.lk, fun n y e => ?_, fun n m ln lm e => ?_, fun n y e hy => ?_, h.ok.tb.mono rfl (fun _ _ e => e) (fun _ _ e => e) (fun _ _ e => ⟨_, e⟩) fun _ _ _ e => e⟩, top⟩
  · rcases fr n l with l | rfl
    · exact h.st.dead n hn l
    · exact absurd hn (Nat.not_lt_of_le h.st.len)
  · rcases fr n l with l | rfl
    · rw [old n (live_lt l)]; exact h.st.fresh n hn l
    · rw [new]; exact h1
  · rcases fr n ⟨y, e⟩ with l | rfl
    · have e' : c.μ[n]? = some (some y) := by rw [← e]; exact (List.getElem?_append_left (live_lt l)).symm
      obtain ⟨k1, u, k2, k3⟩ := h.ok.at' n y e'
      rw [old n (live_lt l)]
      exact ⟨k1, u, k2, k3.mono le trivial⟩
    · have e2 : (c.μ ++ [some x])[c.μ.length]? = some (some y) := e
      simp at e2
      subst e2
      rw [new]
      exact ⟨h.g, o, hp, hx.mono le trivial⟩
  · rcases fr n ln with l | rfl
    · rcases fr m lm with k | rfl
      · rw [old n (live_lt l), old m (live_lt k)] at e
        exact h.ok.inj n m l k e
      · rw [old n (live_lt l), new] at e
        exact absurd e (h.m n l)
    · rcases fr m lm with k | rfl
      · rw [old m (live_lt k), new] at e
        exact absurd e.symm (h.m m k)
      · rfl
  · rcases fr n ⟨y, e⟩ with l | rfl
    · have e' : c.μ[n]? = some (some y) := by rw [← e]; exact (List.getElem?_append_left (live_lt l)).symm
      rw [old n (live_lt l)]
      exact h.ok.lc n y e' hy
    · have e2 : (c.μ ++ [some x])[c.μ.length]? = some (some y) := e
      simp at e2
      rw [← e2, nx] at hy; cases hy
theorem Aside.doneK {c1 c : Cf} {p : Addr} {ks : List Key} {xs : List V} {ds : List D} {b : Bool} (h : Aside W c1 c p) (h1 : c1.H p = none) (hp : c.H p = some (.dK (Cs.kvL ks xs))) (hl : ks.length = xs.length) (hn : ks.Nodup) (ha : DpA W c xs ds) (w : Wp W (Dp W) (newK b ks ds c.μ) c1 Q E) : Q (.ref p) c.H := by
  cases b with
  | false =>
    obtain ⟨le, s, ok⟩ := h.known h1 hp
    exact w (.ref p) (⟨c.ι, c.μ, upd c.G p (.dK (Cs.kvL ks xs)), c.H, c.L, c.T⟩ : Cf) rfl s ok (.dct (.inl upd_same) hl hn (dpa_mono le ha))
  | true =>
    obtain ⟨le, s, ok, t⟩ := h.cell (x := .dct ks ds) h1 hp ⟨xs, rfl, hl, hn, ha⟩ rfl
    exact w (.ref p) (c.lift p (.dct ks ds)) rfl s ok t
theorem Aside.begin {c1 : Cf} {p : Addr} {o : HO} (ok1 : Ok W c1) (hp : c1.H p = none) (no : ∀ q, o ≠ LamX.CodeO p q := by intro _ z; unfold LamX.CodeO at z; cases z) (nt : ∀ ps, o ≠ .tbl ps := by intro _ z; cases z) : Aside W c1 (c1.to c1.G (upd c1.H p o)) p := by
  have z : Aside W c1 c1 p := ⟨ok1, .refl ok1, Cs.same_none ok1.s hp, fun n l e => ok1.hcell l (by rw [e]; exact hp), noT_new ok1 hp, codeO_none hp⟩
  exact z.put hp ok1 no nt
noncomputable def dcA (w : List Nat) (μ0 : Store) (g : D → Env → Option Env) (t : MT) (ek ev : ME) (ρ : Env) : List D → List Key → List D → Store → Res (List Key × List D)
  | [], ks, vs, μ => if watch w μ0 μ then .ok (ks, vs) μ else .bad
  | d :: ds, ks, vs, μ => if watch w μ0 μ then match g d ρ with
      | some ρ2 => match t ρ2 μ with
        | .ok true μ => match ek ρ2 μ with
          | .ok y μ => match ev ρ2 μ with
            | .ok z μ => match keyOf y with
              | some k => if ks.length < sizeLine then dcA w μ0 g t ek ev ρ ds (putKK ks k) (putKV k z ks vs) μ else .bad
              | none => .bad
            | _ => .bad
          | _ => .bad
        | .ok false μ => dcA w μ0 g t ek ev ρ ds ks vs μ
        | _ => .bad
      | none => .bad
    else .bad
noncomputable def mDc (b : Bool) (i : MI) (g : D → Env → Option Env) (t : MT) (ek ev : ME) (vs : List Nat) : ME := fun ρ μ => (i ρ μ).bind fun s μ => (dcA s.w μ g t ek ev (wipeD ρ vs) s.items [] [] μ).bind fun p μ => newK b p.1 p.2 μ
theorem pairs_ok {ks0 : List Key} : ∀ {qs : List (Key × D)} {kvs : List (Key × V)} {ks : List Key} {xs : List V} {ds : List D}, qs.length = kvs.length → (∀ (i : Nat) (k : Key) (d : D), qs[i]? = some (k, d) → ∃ v, kvs[i]? = some (k, v) ∧ Dp W c v d) → ks.length = xs.length → ks.Nodup → DpA W c xs ds →
    ∃ ys, mergeK (Cs.kvL ks xs) kvs = Cs.kvL (mergeD ks ds qs).1 ys ∧ (mergeD ks ds qs).1.length = ys.length ∧ (mergeD ks ds qs).1.Nodup ∧ DpA W c ys (mergeD ks ds qs).2
  | [], [], ks, xs, ds, _, _, hl, hn, ha => ⟨xs, rfl, hl, hn, ha⟩
  | [], _ :: _, _, _, _, h, _, _, _, _ => by simp at h
  | _ :: _, [], _, _, _, h, _, _, _, _ => by simp at h
  | (k, d) :: qs, kv :: kvs, ks, xs, ds, h, hq, hl, hn, ha => by
    obtain ⟨v, h1, h2⟩ := hq 0 k d rfl
    cases Option.some.inj h1
    obtain ⟨p1, p2, p3⟩ := putK_L (k := k) (z := v) hl hn
    have ih := pairs_ok (ks0 := ks0) (qs := qs) (kvs := kvs) (by simpa using h) (fun i k d e => hq (i + 1) k d e) p2 p3 (dpa_putK h2 ha)
    unfold mergeD
    show ∃ ys, mergeK (putK (Cs.kvL ks xs) k v) kvs = _ ∧ _
    rw [p1]
    exact ih
def PairR (W : Wd) (c : Cf) (ps : List (V × V)) (ds : List (D × D)) : Prop := DpA W c (ps.map (·.1)) (ds.map (·.1)) ∧ DpA W c (ps.map (·.2)) (ds.map (·.2))
theorem tpairs_ok {σ : L2.St} {ρ : Env} : ∀ {trs : List (ME × ME)} {c : Cf} {Q : List (V × V) → Hp → Prop}, Ok W c → EnvR W c σ ρ → Wp W (PairR W) (mPairs trs ρ c.μ) c Q E → tPairs (trs.map fun t => (tE W E t.1, tE W E t.2)) σ c.H Q
  | [], c, Q, ok, env, w => wp_ret w ok ⟨.nil, .nil⟩
  | (a, b) :: r, c, Q, ok, env, w => ⟨ρ, c, rfl, ok, env, wp_bind w fun v x c1 s1 ok1 r1 w1 => ⟨ρ, c1, rfl, ok1, env.mono s1.le, wp_bind w1 fun u y c2 s2 ok2 r2 w2 =>
      tpairs_ok ok2 (env.mono (s1.le.trans s2.le)) (wp_bind w2 fun ps ds c3 s3 ok3 r3 w3 => wp_ret w3 ok3 ⟨.cons (dp_mono (s2.le.trans s3.le) r1) r3.1, .cons (dp_mono s3.le r2) r3.2⟩)⟩⟩
theorem pairsK_ok : ∀ {ds : List (D × D)} {ps : List (V × V)} {qs : List (Key × D)}, PairR W c ps ds → pairsK ds = some qs → ∃ kvs : List (Key × V), ps = kvs.map (fun kv => (kV kv.1, kv.2)) ∧ qs.length = kvs.length ∧ ∀ (i : Nat) (k : Key) (d : D), qs[i]? = some (k, d) → ∃ v, kvs[i]? = some (k, v) ∧ Dp W c v d
  | [], [], qs, r, e => by
    cases Option.some.inj e
    exact ⟨[], rfl, rfl, fun i k d z => by simp at z⟩
  | [], _ :: _, _, r, e => by cases r.1
  | _ :: _, [], _, r, e => by cases r.1
  | (x, y) :: ds, (v, u) :: ps, qs, r, e => by
    obtain ⟨r1, r2⟩ := r
    cases r1 with
    | cons h1 t1 =>
      cases r2 with
      | cons h2 t2 =>
        unfold pairsK at e
        split at e
        · rename_i k qs' e1 e2
          cases Option.some.inj e
          obtain ⟨kvs, p1, p2, p3⟩ := pairsK_ok (ds := ds) (ps := ps) ⟨t1, t2⟩ e2
          have hv := keyOf_ok h1 e1
          refine ⟨(k, u) :: kvs, by rw [p1, List.map_cons, ← hv], by simp [p2], fun i k' d z => ?_⟩
          cases i with
          | zero => cases Option.some.inj z; exact ⟨u, rfl, h2⟩
          | succ i => exact p3 i k' d z
        · cases e
theorem me_disp {b : Bool} {trs : List (ME × ME)} (h : PE X e (tDisp (trs.map fun t => (tE W E t.1, tE W E t.2)))) : PE X e (tE W E (mDisp b trs)) := pe_weak h fun σ H Q ⟨ρ, c, hH, ok, env, w⟩ p hp => by
  subst hH
  have as := Aside.begin (o := .dK []) ok hp
  refine tpairs_ok (c := c.to c.G (upd c.H p (.dK []))) as.ok (env.mono as.st.le) ?_
  unfold mDisp at w
  show Wp W _ (mPairs trs ρ c.μ) _ _ E
  cases em : mPairs trs ρ c.μ with
  | bad => rw [em] at w; exact w.elim
  | exc x μ' => rw [em] at w; exact fun u o c2 e2 s2 ok2 r2 => w u o c2 e2 (as.st.trans s2) ok2 r2
  | ok ps μ' =>
    rw [em] at w
    intro vs c2 e2 s2 ok2 r2
    obtain ⟨as2, hp2⟩ := as.step upd_same ok2 s2
    unfold Res.bind at w
    dsimp only at w
    cases ek : pairsK ps with
    | none => rw [ek] at w; exact w.elim
    | some qs =>
      rw [ek] at w
      dsimp only at w
      split at w
      · rename_i hl
        obtain ⟨kvs, p1, p2, p3⟩ := pairsK_ok r2 ek
        obtain ⟨ys, q1, q2, q3, q4⟩ := pairs_ok (ks0 := []) (c := c2) (ks := []) (xs := []) (ds := []) p2 p3 rfl .nil .nil
        refine ⟨hp2, kvs, p1, by rw [← p2]; exact hl, ?_⟩
        have q1' : mergeK [] kvs = _ := q1
        rw [q1']
        have as3 := as2.put (o := .dK (Cs.kvL (mergeD [] [] qs).1 ys)) hp ok
        refine as3.doneK (b := b) (E := E) hp upd_same q2 q3 (dpa_mono (le_to (Same.refl _)) q4) ?_
        show Wp W (Dp W) (newK b _ _ c2.μ) c Q E
        rw [e2]; exact w
      · exact w.elim
end
end Mi
namespace Mi
open PySem PySem.Spec L2 PyProof.Rows PySem.W
open Classical
section
variable {P : Program} {w : World} {K : PySem.W.Frag} {mg : Str → Option Value} {base : Heap} {k : Nat} {f : Addr} {fd : FuncData} {N ps : List Str} {sp : Sp} {x qual : Str} {st : Stmt}
theorem ok_fun (F : Fun K x qual st f fd) (S : FnScope N ps (defScope st)) (many : ∀ vs H Q E, sp vs H Q E → vs.length = ps.length)
    (inner : ∀ (cdv : Value) (A : Around) (out : List PySem.Env) (s : Shared) (H : Hp) (vs : List V) (Q : VK) (E : XK), Room k (A.deeper (envOfC qual (defScope st) s.heap.objs.size f cdv)) → sp vs H Q E →
      ∃ t, PSs (cxOf (L2.CX P w) P w K mg base N qual (defScope st) f cdv A out s H E) (defBody st) t ∧ t { nx := fun _ H' => Q .non H', rt := Q } (L2.start N vs) H) : FnOk P w K mg base (L2.CX P w) (k + 1) f fd ps sp := by
  obtain ⟨oc, od, kV, doc, pm, an, cdv, ct, osl, e, lk, hcd⟩ := F.ex
  subst e
  exact fn_of lk hcd S many fun A out s H vs Q E hr hsp => inner cdv A out s H vs Q E hr hsp
end
def spN (W : Wd) (m : List D → Store → Res D) : Sp := fun vs H Q _ => spM W m vs H Q E0'
section
variable {W : Wd} {E E' : XK} {X : Cx} {c : Cf} {v : V} {d : D} {ds : List D} {e tg iter : Expr} {st : Stmt} {Q : VK}
def mCallN (m : List D → Store → Res D) (a : MA) : ME := fun ρ μ => (a ρ μ).bind fun ds μ => match m ds μ with
  | .ok d μ => .ok d μ
  | _ => .bad
theorem pass_no {X : Cx} : Passes (L2.CX X.prog X.w) X E0' := fun pins σ H s e s' I ⟨a, B, H', cls, d, h1, h2, h3, h4, h5, h6, h7, h8⟩ => h8.elim
theorem pass_at {X : Cx} {E : XK} (tk : Takes X (fun cls d _ H => E cls d H)) : Passes (L2.CX X.prog X.w) X E := passes_call tk fun _ _ _ _ h => h
theorem pe_basinit {A : Str} {C : Addr} {pl : Sem Bool} {e : Expr} {es : List Expr} {ta : TA} {p1 p2 pos : Pos} (hg : Gl X A) (hm : X.mg A = some (.ref C)) (cr : ClX.CRead X.K C (.type "type")) (hv : PySem.W.findCls X.K (.ref C) (.type "type") "__init__" = some (.val (.builtin "ValueError.__init__"))) (ha : PA X (e :: es) ta)
    (hdb : (A == ("__debug__" : Str)) = false := by decide)
    (hc : eval (.Call (.Attribute (.Name A p1) "__init__" p2) (e :: es) [] pos) X.env = (do
      let ov ← eval (.Name A p1) X.env
      standAt p2.atName
      let (f, first) ← holding [ov] (getMethod ov "__init__" pl)
      callWith pos f first (backTo pos (starEach (e :: es) X.env)) (backToKw pos (keywordEach [] X.env))) := by rfl)
    (he : starEach (e :: es) X.env = (false, eval e X.env) :: starEach es X.env := by rfl) (hpl : (backTo pos (starEach es X.env)).any (·.1) = false := by rfl) :
    PE X (.Call (.Attribute (.Name A p1) "__init__" p2) (e :: es) [] pos) (tVeI X.K ta) := ⟨fun pins s σ H Q I h => by
  refine PySem.W.methodCall_KW (ld_glob I hg hm ?_ hdb) hc
  obtain ⟨m, fr⟩ := I.fr
  have kin : X.K.In s.heap := I.ok.mod.kin.keeps fr.keep
  refine PySem.W.method_cls kin cr.ga (PySem.W.cls_value kin cr.rd hv (by decide +kernel) ?_)
  show wpAny _ _ (callWith pos (Value.builtin "ValueError.__init__") [] (backTo pos (starEach (e :: es) X.env)) []) _ _ _
  refine PyProof.Rows.callWith_method1 (thn (ha.run pos pins _ σ H _ (I.tok _) h) fun us s1 hh => ?_) he hpl
  obtain ⟨vs, H1, I1, r1, a, C', ws, ev, hl, T, ea, q⟩ := hh
  subst ev
  cases r1 with
  | @cons _ u0 _ ur ra rw' =>
    obtain rfl : u0 = Value.ref a := ra
    have big : ur.length ≤ sizeLine := by
      have := Paired.length rw'
      have := sizeLine_eq
      omega
    exact oinit_ok T I1 ea big fun s' J => ⟨.non, H1, J, rfl, q⟩⟩
def spXI (K : PySem.W.Frag) (f : Str) : Sp := fun vs H Q _ => ∃ a C v, vs = [.ref a, v] ∧ OexC K C ∧ PySem.W.findIn K (.ref C) f = some none ∧ H a = some (exo a C none) ∧ ∀ dx, H dx = none → dx ≠ a → Q .non (upd (upd H dx (exd dx [(f, v)])) a (exo a C (some dx)))
theorem spXI_len {K : PySem.W.Frag} {f : Str} {vs : List V} {H : Hp} {Q : VK} {E : XK} (h : spXI K f vs H Q E) : vs.length = 2 := by
  obtain ⟨a, C, v, rfl, _⟩ := h
  rfl
theorem pureXI {K : PySem.W.Frag} {f a0 a1 m : Str} {vs : List V} {H : Hp} {E : XK} (h : spXI K f vs H Q E) : tSeq (tDrop (tVeI K (tCons (tVar 0) (tCons (tC (.str m)) tNil)))) (tOst K f (tVar 0) (tVar 1)) { nx := fun _ H' => Q .non H', rt := Q } (L2.start [a0, a1] vs) H := by
  obtain ⟨a, C, v, rfl, o, n, ha, q⟩ := h
  refine ⟨.ref a, rfl, a, C, [.str m], rfl, by simp, o, ha, ?_⟩
  exact ⟨v, rfl, .ref a, rfl, a, C, rfl, o, n, .inl ⟨ha, fun dx h1 h2 => q dx h1 h2⟩⟩
def mRaiseF (C : String) (f : Str) (a : MA) : MS := fun _ ρ μ => (a ρ μ).st fun ds μ => match ds with
  | [d] => .exc ⟨C, [f], [d]⟩ μ
  | _ => .bad
def tryR (T : String) (i k : Nat) (r : Res D) (nx : D → Store → ResS) (ρ : Env) : ResS := match r with
  | .ok d μ => nx d μ
  | .exc x μ => if isaC x.C T = true then .nx ((ρ.set k (some (.exc x.C x.ks x.ds))).set i none) μ else .exc x μ
  | .bad => .bad
def mArgs (a : MA) (m : List D → Store → Res D) : ME := fun ρ μ => match a ρ μ with
  | .ok ds μ => m ds μ
  | _ => .bad
def mTryA (T : String) (i k j : Nat) (m : ME) : MS := fun _ ρ μ => if i < ρ.length then tryR T i k (m ρ μ) (fun d μ => .nx (ρ.set j (some d)) μ) ρ else .bad
def mTryD (T : String) (i k : Nat) (m : ME) : MS := fun _ ρ μ => if i < ρ.length then tryR T i k (m ρ μ) (fun _ μ => .nx ρ μ) ρ else .bad
def tFldX (K : PySem.W.Frag) (te : TE) (f : Str) : TE := fun σ H Q => te σ H fun x H1 => ∃ (a g dx : Addr) (fs : List (Str × V)) (v : V), x = .ref a ∧ H1 a = some (Cs.XO (.ref g) (some dx) a) ∧ H1 dx = some (.xd fs) ∧ ExcC K g ∧ PySem.W.findIn K (.ref g) f = some none ∧ fs.lookup f = some v ∧ Q v H1
theorem pe_fldX {o : Expr} {f : Str} {pos : Pos} {te : TE} (ho : PE X o te) (hb : attributeBase o f X.env (eval o X.env) = eval o X.env := by rfl) : PE X (.Attribute o f pos) (tFldX X.K te f) := ⟨fun pins s σ H Q I h => by
  refine attr_of hb (thn (ho.run pins s σ H _ I h) fun u s1 hh => ?_)
  obtain ⟨x, H1, I1, rx, a, g, dx, fs, v, ex, ea, ed, C, hn, hl, q⟩ := hh
  subst ex
  obtain rfl : u = Value.ref a := rx
  obtain ⟨oe, vs, hget, hz, hv⟩ := Cs.xo_at I1.hok ea
  obtain ⟨mA, hns, hr⟩ := (show ObjOk X.prog X.w H1 s1.heap dx (.xd fs) from I1.hok dx _ ed)
  obtain ⟨od, hod, hlk⟩ := lookIn_ns hns
  obtain ⟨z, hz2, rz⟩ := RelO.some_of (v := v) (o := mA f) (by rw [← hl]; exact hr f)
  have J : PySem.W.InstAt s1.heap a oe g (some od) := ⟨hget, hz.1, by unfold PySem.W.notCls; rw [hv] <;> rfl, by rw [hz.2]; exact hod⟩
  exact HandSPX.exc_get I1.kIn J C.hg C.hk C.hs (findObj_own C.hd hn rfl (by rw [hlk, hz2])) (handed_of rz) ⟨v, H1, I1.tok _, rz, q⟩⟩
structure FldX (W : Wd) (C : String) (f : Str) : Prop where
  ex : ∀ g, W.cm C = some g → ExcC W.K g
  no : ∀ g, W.cm C = some g → PySem.W.findIn W.K (.ref g) f = some none
def mFldX (Cs' : List String) (f : Str) (a : ME) : ME := fun ρ μ => (a ρ μ).bind fun x μ => match x with
  | .exc C ks ds => if Cs'.contains C = true then match lookF f ks ds with
      | some d => .ok d μ
      | none => .bad
    else .bad
  | _ => .bad
theorem me_fldX {Cs' : List String} {f : Str} {a : ME} (F : ∀ C ∈ Cs', FldX W C f) (h : PE X e (tFldX W.K (tE W E a) f)) : PE X e (tE W E (mFldX Cs' f a)) := pe_weak h fun σ H Q ⟨ρ, c, hH, ok, env, w⟩ =>
  ⟨ρ, c, hH, ok, env, wp_bind w fun v x c1 s1 ok1 r1 w1 => by
    split at w1
    · rename_i C ks ds
      split at w1
      · rename_i hC
        split at w1
        · rename_i d ed
          cases r1 with
          | @exc a _ g o _ xs _ hg h1 h2 h3 h4 h5 =>
            have FC := F C (List.contains_iff_mem.mp hC)
            cases o with
            | none =>
              rw [h3 rfl] at ed
              cases ed
            | some dx =>
              obtain ⟨z, h6, h7⟩ := lookF_ok h5 ed
              exact ⟨a, g, dx, _, z, rfl, ok1.s _ _ h1, ok1.s _ _ (h2 dx rfl), FC.ex g hg, FC.no g hg, h6, wp_ret w1 ok1 h7⟩
        · exact w1.elim
      · exact w1.elim
    · exact w1.elim⟩
end
end Mi
namespace Mi
open PySem PySem.Spec L2 PyProof.Rows PySem.W PySem.Calls
section
variable {prog : Program} {w : World} {A : Around} {E : Value → Shared → Prop} {s : Shared} {l : Addr} {items : Array Value} {Q : List Value → Shared → Prop}
end
section
variable {W : Wd} {E : XK} {X : Cx} {c : Cf} {v : V} {d : D} {ds : List D} {e tg iter : Expr} {es : List Expr} {st : Stmt} {Q : VK}
def mCMeth (C : String) (m : List D → Store → Res D) (a : MA) : ME := fun ρ μ => (a ρ μ).bind fun ds μ => m (.cls C :: ds) μ
def mInitSK (m : List D → Store → Res D) : List D → Store → Res D := fun ds μ => match ds with
  | x :: rest => if rest.length ≤ sizeLine then m [x, .tup rest, .dct [] []] μ else .bad
  | [] => .bad
def mInitS (m : List D → Store → Res D) : List D → Store → Res D := fun ds μ => match ds with
  | x :: rest => if rest.length ≤ sizeLine then m [x, .tup rest] μ else .bad
  | [] => .bad
def mRevL (b : Bool) (a : ME) : ME := fun ρ μ => (a ρ μ).bind fun x μ => match seqL μ x with
  | some ds => newL b ds.reverse μ
  | none => .bad
end
end Mi
namespace Mi
open PySem PySem.Spec L2 PyProof.Rows PySem.W
section
variable {W : Wd} {E : XK} {X : Cx} {c : Cf} {v : V} {d : D} {ds : List D} {e : Expr} {ts ms : List String}
def fIsS (cl : D) : D → Store → Res D := fun x μ => if kindOk μ x = true then match (tnD μ x).bind fun tn => isaT tn cl with
    | some b => .ok (.bl b) μ
    | none => .bad
  else .bad
def ClOk (W : Wd) (ts ms : List String) : D → V → Prop
  | .cls T, v => T ∈ ts ∧ ∃ g, W.cm T = some g ∧ v = .ref g
  | .ty n, v => n ∈ ms ∧ v = .ty n
  | _, _ => False
theorem clok_v {cl : D} {u : V} (h : ClOk W ts ms cl u) : ∃ z, ClsV u z ∧ ClsV (match (generalizing := false) cl with | .ty n => .ty n | .cls C => .ref ((W.cm C).getD 0) | _ => .non) z ∧ (∀ n, cl = .ty n → n ∈ ms) ∧ (∀ T, cl = .cls T → T ∈ ts ∧ W.cm T ≠ none) := by
  cases cl with
  | cls T =>
    obtain ⟨h1, g, h2, rfl⟩ := h
    refine ⟨.ref g, .own g, (by dsimp only; rw [h2]; exact .own g), fun n z => (by cases z), fun T' z => (by cases z; exact ⟨h1, by rw [h2]; exact fun z => by cases z⟩)⟩
  | ty n =>
    obtain ⟨h1, rfl⟩ := h
    exact ⟨.type n, .ty n, .ty n, fun n z => (by cases z; exact h1), fun T z => (by cases z)⟩
  | _ => exact h.elim
theorem me_is {cl : D} {u : V} {a : ME} (F : IsF W ts ms) (hc : ClOk W ts ms cl u) (h : PE X e (tCB (rIsM W.K) (tCons (tE W E a) (tCons (tC u) tNil)))) : PE X e (tE W E (mUn (fIsS cl) a)) := pe_weak h fun σ H Q ⟨ρ, c, hH, ok, env, w⟩ =>
  ⟨ρ, c, hH, ok, env, wp_bind w fun v x c1 s1 ok1 r1 w1 => by
    unfold fIsS at w1
    split at w1
    · rename_i hk
      cases et : tnD c1.μ x with
      | none => rw [et] at w1; exact w1.elim
      | some tn =>
        rw [et] at w1
        obtain ⟨t, h4, h5⟩ := tn_any F ok1 r1 hk et
        cases eb : isaT tn cl with
        | none =>
          have w2 : Wp W (Dp W) (match isaT tn cl with | some b => .ok (.bl b) c1.μ | none => .bad) c1 Q E := w1
          rw [eb] at w2
          exact w2.elim
        | some b =>
          have w2 : Wp W (Dp W) (match isaT tn cl with | some b => .ok (.bl b) c1.μ | none => .bad) c1 Q E := w1
          rw [eb] at w2
          obtain ⟨z, z1, z2, z3, z4⟩ := clok_v hc
          exact ⟨v, u, t, z, b, rfl, z1, h4, h5 cl z b z2 eb (fun n q => .inl (z3 n q)) z4, wp_ret w2 ok1 (.bl b)⟩
    · exact w1.elim⟩
def isaL (tn : TN) : List D → Option Bool
  | [] => some false
  | cl :: r => match isaT tn cl, isaL tn r with
    | some a, some b => some (a || b)
    | _, _ => none
def fIsL (cls : List D) : D → Store → Res D := fun x μ => if kindOk μ x = true then match (tnD μ x).bind fun tn => isaL tn cls with
    | some b => .ok (.bl b) μ
    | none => .bad
  else .bad
def mYes : MT := fun _ μ => .ok true μ
theorem passes_own {K1 : Value → Shared → Prop} {E1 : Value → Shared → Prop} (hx : X.xe = fun e s' => wpAny (model X.prog X.w) X.A (leaving X.env e) (fun _ s'' => K1 e s'') E1 s') : PassesOwn (model X.prog X.w) X.A X.env X.xe := passes_of hx
end
section
variable {K : PySem.W.Frag}
def cmOf (l : List (String × Addr)) : String → Option Addr := fun s => l.lookup s
theorem cm_mem {l : List (String × Addr)} {C : String} {g : Addr} (h : cmOf l C = some g) : (C, g) ∈ l := by
  induction l with
  | nil => cases h
  | cons p r ih =>
    obtain ⟨k, a⟩ := p
    unfold cmOf at h ih
    rw [List.lookup_cons] at h
    by_cases hk : (C == k) = true
    · rw [hk] at h
      cases h
      have := beq_iff_eq.mp hk
      subst this
      exact List.mem_cons_self
    · rw [Bool.eq_false_iff.mpr hk] at h
      exact List.mem_cons_of_mem _ (ih h)
def clsB (K : PySem.W.Frag) (g : Addr) : Bool := plainGet K g Str.empty && (hasDictIn K g && (plainOver K g && decide (findIn K (.ref g) "__setattr__" = some (some (.builtin "object.__setattr__")))))
theorem clsB_ok {g : Addr} (h : clsB K g = true) : Cls K g := by
  unfold clsB at h
  simp only [Bool.and_eq_true, decide_eq_true_eq] at h
  exact ⟨h.1, h.2.1, h.2.2.1, h.2.2.2⟩
def cAttrB (K : PySem.W.Frag) (g : Addr) : Bool := decide (findIn K (.ref g) "__class__" = some (some (.builtin "object.__class__"))) && (decide (specialIn K (.builtin "object.__class__") "__get__" = some (some (.builtin "getset_descriptor.__get__"))) && (decide (takesIn K (.builtin "object.__class__") = some true) && decide (mroIn K g (.type "object") = some true)))
def insB (K : PySem.W.Frag) (g : Addr) : Bool := clsB K g && cAttrB K g
theorem insB_ok {g : Addr} (h : insB K g = true) : Cs.IsC K g := by
  unfold insB cAttrB at h
  simp only [Bool.and_eq_true, decide_eq_true_eq] at h
  exact ⟨clsB_ok h.1, h.2.1, h.2.2.1, h.2.2.2.1, h.2.2.2.2⟩
def excB (K : PySem.W.Frag) (g : Addr) : Bool := decide (findIn K (.ref g) "__getattribute__" = some (some (.builtin "BaseException.__getattribute__"))) && (decide (findIn K (.ref g) "__getattr__" = some none) && (decide (subIn K (.ref g) (.type "BaseException") = some true) && (hasDictIn K g && cAttrB K g)))
theorem excB_ok {g : Addr} (h : excB K g = true) : ExcC K g := by
  unfold excB cAttrB at h
  simp only [Bool.and_eq_true, decide_eq_true_eq] at h
  exact ⟨h.1, h.2.1, h.2.2.1, h.2.2.2.1, h.2.2.2.2.1, h.2.2.2.2.2.1, h.2.2.2.2.2.2.1, h.2.2.2.2.2.2.2⟩
def isfB (K : PySem.W.Frag) (l : List (String × Addr)) (ts ms : List String) : Bool :=
  (l.all fun p => l.all fun q => !ts.contains q.1 || decide (kitOne K (.ref p.2) (.ref q.2) = some (isaC p.1 q.1))) &&
  ((btys.all fun n => l.all fun q => !ts.contains q.1 || decide (kitOne K (.type n) (.ref q.2) = some false)) &&
  ((ms.all fun m => l.all fun p => decide (kitOne K (.ref p.2) (.type m) = some (isaN p.1 m))) &&
  (l.all fun p => if errs.contains p.1 then excB K p.2 else insB K p.2)))
theorem isfB_ok {l : List (String × Addr)} {ts ms : List String} {tabs : List (Addr × Str)} (h : isfB K l ts ms = true) : IsF ⟨K, cmOf l, tabs⟩ ts ms := by
  unfold isfB at h
  simp only [Bool.and_eq_true, List.all_eq_true, Bool.or_eq_true, Bool.not_eq_true', decide_eq_true_eq] at h
  obtain ⟨h1, h2, h3, h4⟩ := h
  have has : ∀ {T : String}, T ∈ ts → ¬ (ts.contains T = false) := fun {T} m z => by
    rw [List.contains_iff_mem.mpr m] at z; cases z
  refine ⟨fun C g T t hT hC ht => ?_, fun n T t hn hT ht => ?_, fun C g m hm hC => h3 m hm _ (cm_mem hC), fun C g he hC => ?_, fun C g he hC => ?_⟩
  · rcases h1 _ (cm_mem hC) _ (cm_mem ht) with z | z
    · exact absurd z (has hT)
    · exact z
  · rcases h2 n hn _ (cm_mem ht) with z | z
    · exact absurd z (has hT)
    · exact z
  · have := h4 _ (cm_mem hC)
    dsimp only at this
    rw [he] at this
    exact insB_ok (by simpa using this)
  · have := h4 _ (cm_mem hC)
    dsimp only at this
    rw [he] at this
    exact excB_ok (by simpa using this)
def noB (K : PySem.W.Frag) (l : List (Addr × Str)) : Bool := l.all fun p => decide (findIn K (.ref p.1) p.2 = some none)
theorem noB_ok {l : List (Addr × Str)} (h : noB K l = true) {g : Addr} {f : Str} (m : (g, f) ∈ l) : findIn K (.ref g) f = some none := by
  unfold noB at h
  simp only [List.all_eq_true, decide_eq_true_eq] at h
  exact h _ m
def crB (K : PySem.W.Frag) (g : Addr) : Bool := readsIn K g (.type "type") && decide (specialIn K (.ref g) "__getattribute__" = some (some (.builtin "type.__getattribute__")))
theorem crB_ok {g : Addr} (h : crB K g = true) : ClX.CRead K g (.type "type") := by
  unfold crB at h
  simp only [Bool.and_eq_true, decide_eq_true_eq] at h
  exact ⟨h.1, h.2⟩
def all1 {P : String → Prop} {a : String} (h : P a) : ∀ C ∈ [a], P C := fun C m => by
  rw [List.mem_singleton.mp m]; exact h
theorem all2 {P : String → Prop} {a b : String} (h : P a) (k : P b) : ∀ C ∈ [a, b], P C := fun C m => by
  rcases List.mem_cons.mp m with z | z
  · rw [z]; exact h
  · rw [List.mem_singleton.mp z]; exact k
theorem all3 {P : String → Prop} {a b d : String} (h : P a) (k : P b) (l : P d) : ∀ C ∈ [a, b, d], P C := fun C m => by
  rcases List.mem_cons.mp m with z | z
  · rw [z]; exact h
  · exact all2 k l C z
end
theorem ints_dp {W : Wd} {c : Cf} : ∀ ns : List Int, DpA W c (ns.map V.int) (ns.map D.int)
  | [] => .nil
  | n :: ns => .cons (.int n) (ints_dp ns)
theorem law_core {W : Wd} {m : List D → Store → Res D} {a : Addr} {ns : List Int} {H G : Hp} {Q : VK} {E : XK} {μ : Store} (e : m [.lst (ns.map D.int)] [] = .ok (.bl true) μ) (hG : Same G H) (nG : ∀ b ps, G b ≠ some (.tbl ps)) (hs : SqL W.K G a (ns.map V.int)) (q : ∀ H', Q (.bl true) H') (ht : ∀ p ∈ W.tabs, H p.1 = some (.tbl #[])) (ho : ∀ a ps, H a = some (.tbl ps) → ∃ q, (a, q) ∈ W.tabs) : spN W m [.ref a] H Q E := by
  let c : Cf := ⟨fun _ => 0, [], G, H, fun _ => none, W.tabs⟩
  have ok : Ok W c := ⟨hG, fun b o e => (by cases e), fun n x e => (by simp [c] at e), fun n m l => (by obtain ⟨x, hx⟩ := l; simp [c] at hx), fun n x e => (by simp [c] at e), rfl, nG, ho, fun p hp => ⟨_, ht p hp, True.intro, fun pos cv e => (by simp [PySem.codeAmong] at e)⟩⟩
  refine ⟨c, [.lst (ns.map D.int)], rfl, ok, .cons (.lst hs (ints_dp ns)) .nil, ?_⟩
  show Wp W (Dp W) (m [.lst (ns.map D.int)] []) c Q E0'
  rw [e]
  intro v c' e' s' ok' r'
  cases r'
  exact q c'.H
theorem law_sp {W : Wd} {m : List D → Store → Res D} (hm : ∀ ns : List Int, ns.length ≤ 63 → ∃ μ, m [.lst (ns.map D.int)] [] = .ok (.bl true) μ) {vs : List V} {H : Hp} {Q : VK} {E : XK} (h : Cs.spLaw W.K vs H Q E) (ht : ∀ p ∈ W.tabs, H p.1 = some (.tbl #[])) (ho : ∀ a ps, H a = some (.tbl ps) → ∃ q, (a, q) ∈ W.tabs) : spN W m vs H Q E := by
  obtain ⟨a, ns, rfl, hs, hl, q⟩ := h
  obtain ⟨μ, e⟩ := hm ns hl
  rcases hs with hr | hk
  · have at_ : ∀ b o, (if b = a then H a else none) = some o → b = a ∧ H a = some o := fun b o e => by
      by_cases hb : b = a
      · rw [if_pos hb] at e; exact ⟨hb, e⟩
      · rw [if_neg hb] at e; cases e
    refine law_core (G := fun b => if b = a then H a else none) e (fun b o e => ?_) (fun b ps e => ?_) (.inl ?_) q ht ho
    · obtain ⟨rfl, h⟩ := at_ b o e; exact h
    · obtain ⟨_, h⟩ := at_ b _ e
      rcases hr with z | ⟨o, z⟩
      · rw [z] at h; cases h
      · rw [z] at h; cases h
    · rcases hr with z | ⟨o, z⟩
      · exact .inl ((if_pos rfl).trans z)
      · exact .inr ⟨o, (if_pos rfl).trans z⟩
  · exact law_core (G := fun _ => none) e (fun b o e => by cases e) (fun b ps e => by cases e) (.inr hk) q ht ho
def OexCls (K : PySem.W.Frag) (C : Addr) : Prop := ∃ nm q N bs bm sn sub ab col dd k0 k1 k2 k3 k5, K.lookup C = some (excClassObj nm q C N bs bm true sn sub ab col dd k0 k1 k2 k3 k5 "ValueError.__new__") ∧ PySem.HandSPX.refsVE bm = true
end Mi
namespace Mi
open PySem PySem.Spec L2 LamX PyProof.Rows
section
variable {X : Cx} {pins : List (Addr × Obj)} {σ : L2.St} {H : Hp} {s : Shared}
end
section
variable {W : Wd} {E : XK} {X : Cx} {c : Cf} {e : Expr} {st : Stmt}
def mLamC (w : Store → Res D) : ME := fun _ μ => w μ
def mLam (m : (Store → Res D) → Store → Res D) (el : ME) : ME := fun ρ μ => m (fun μ' => el ρ μ') μ
end
end Mi
namespace Mi
open PySem PySem.Spec L2 LamX PyProof.Rows
section
variable {W : Wd} {X : Cx}
end
end Mi
namespace Mi
open PySem PySem.Spec L2 LamX PyProof.Rows Cs
section
variable {P : Program} {w : World} {K : PySem.W.Frag} {mg mb : Str → Option Value} {base : Heap} {k : Nat} {f fa a c : Addr} {fd : FuncData} {N ps : List Str} {sp : Sp} {x qual : Str} {st : Stmt} {cs : List (Addr × Addr)} {s₁ : Shared} {vs : List Value} {ns : List Int}
structure Entry (cs : List (Addr × Addr)) (a : Addr) (H : Hp) : Prop where
  tab : ∀ p ∈ cs, H p.2 = some (.tbl #[])
  only : ∀ b o, H b = some o → (∃ p ∈ cs, p.2 = b) ∨ (b = a ∧ ∃ ob xs, o = .frz ob (.lst xs))
theorem lawT0 {H : Hp} (KX : K.In s₁.heap) (hns : s₁.heap.Ns mainGlobals mg) (hb : s₁.heap.Ns builtinsNs mb) (hbb : ∀ x : Str, x ≠ "__name__" → mb x = bootBuiltins x) (hlim : s₁.heap.NoLimit) (hg : s₁.gens = #[])
    (hT : ∀ p ∈ cs, s₁.heap.get? p.2 = some { cls := .none, data := .fields #[] }) (nT : ∀ p ∈ cs, K.lookup p.2 = none) (C : ∀ p ∈ cs, PySem.W.CodeHd s₁.heap p.1 p.2)
    (hbm : ∃ (bm : Addr) (ob : Obj), mg "__builtins__" = some (.ref bm) ∧ bm ≠ builtinsNs ∧ s₁.heap.get? bm = some ob ∧ ob.cls = .type "module" ∧ ob.dict = some builtinsNs ∧ ob.data = .plain)
    (ha : s₁.heap.get? a = some { cls := .type "list", data := .seq vs.toArray }) (hr : Room k callerA) (F : ∀ base : Heap, K.In base → base.Ns mainGlobals mg → (∀ p ∈ cs, TabB base mg p.1 p.2) → FnG P w K mg base CX0 k fa fd [x] sp) (hbind : ∀ (s : Shared) (u : Value), BindsTo s fd ⟨[u], []⟩ [(x, u)])
    (hO : Entry cs a H) (hsp : sp [.ref a] H (fun v _ => v = .bl true) fun _ _ _ => False) (hok : HOk P w H s₁.heap) (hK : H a ≠ none → K.lookup a = none) :
    codeAny (model P w) callerA (.call (.ref fa) ⟨[.ref a], []⟩) (lawEnd s₁) s₁ := by
  -- what lies elsewhere is not tracked
  have free : ∀ {b : Addr} {o : Obj}, s₁.heap.get? b = some o → (∀ vs n, o.data ≠ .seq vs n) → o.data ≠ .fields #[] → H b = none := by
    intro b o e n1 n2
    cases q : H b with
    | none => rfl
    | some u =>
      rcases hO.only b u q with ⟨p, hp, rfl⟩ | ⟨rfl, _⟩
      · rw [hT p hp] at e; cases e; exact absurd rfl n2
      · rw [ha] at e; cases e; exact absurd rfl (n1 _ _)
  have freeD : ∀ {b : Addr} {o : Obj} {es : Array DictEntry} {ep : Nat}, s₁.heap.get? b = some o → o.data = .dict es ep → H b = none := fun e d => free e (fun _ _ z => by rw [d] at z; cases z) fun z => by rw [d] at z; cases z
  have stays : ∀ {b : Addr} {o : Obj}, s₁.heap.get? b = some o → H b = none → (hidT s₁.heap H).get? b = some o := fun e n => hidT_get e n
  have nsIn : ∀ {b : Addr} {m : Str → Option Value}, s₁.heap.Ns b m → (hidT s₁.heap H).Ns b m := by
    rintro b m ⟨o, es, ep, e, d, r⟩
    exact ⟨o, es, ep, stays e (freeD e d), d, r⟩
  have kin : K.In (hidT s₁.heap H) := fun b o e => by
    refine stays (KX b o e) ?_
    cases q : H b with
    | none => rfl
    | some u =>
      rcases hO.only b u q with ⟨p, hp, rfl⟩ | ⟨rfl, _⟩
      · rw [nT p hp] at e; cases e
      · rw [hK (by rw [q]; exact fun z => by cases z)] at e; cases e
  have tabs : ∀ p ∈ cs, TabB (hidT s₁.heap H) mg p.1 p.2 := by
    intro p hp
    refine ⟨?_, ?_, fun z => ?_⟩
    · obtain ⟨o, us, file, tf, flags, tg, inF, text, tt, e1, r1, r2, r3, rest⟩ := C p hp
      refine ⟨o, us, file, tf, flags, tg, inF, text, tt, stays e1 (free e1 (fun _ _ z => by rw [r2] at z; cases z) fun z => ?_), r1, r2, r3, rest⟩
      rw [r2] at z
      cases z
      simp at r3
    · obtain ⟨bm, ob, b1, b2, b3, b4, b5, b6⟩ := hbm
      refine ⟨bm, ob, b1, b2, fun q => ?_, fun q => ?_, stays b3 (free b3 (fun _ _ z => by rw [b6] at z; cases z) fun z => by rw [b6] at z; cases z), b4, b5, b6⟩
      · obtain ⟨o, es, ep, e, d, _⟩ := hns
        rw [q, e] at b3; cases b3
        rw [d] at b6; cases b6
      · rw [q, hT p hp] at b3; cases b3; cases b6
    · obtain ⟨o, es, ep, e, d, _⟩ := hns
      rw [z, hT p hp] at e; cases e; cases d
  obtain ⟨mc, l1, l2⟩ := hlim
  have e0 : Env0 P w K mg (hidT s₁.heap H) callerA [] s₁ H := ⟨rfl, ⟨kin, nsIn hns, ⟨mb, nsIn hb, hbb⟩, ⟨mc, nsIn l1, l2⟩⟩, fun b o e => of_hidT e, Nat.le_of_eq (hidT_size _ _), trivial, (fun b hb => nomatch hb), hok, .of_eq hg⟩
  refine codeAny_mono ((F _ kin (nsIn hns) tabs).goes callerA [] s₁ H ⟨[.ref a], []⟩ [.ref a] [.ref a] _ _ rfl hr e0 (hbind s₁ (.ref a)) (.cons rfl .nil) hsp) fun r s' h => ?_
  cases r with
  | error e => exact h.elim
  | ok fl => cases fl with
    | next => exact h.elim
    | brk => exact h.elim
    | cont => exact h.elim
    | ret u =>
      obtain ⟨v, H', os, bare, un, hok', r', q⟩ := h
      have ev : v = .bl true := q
      subst ev
      have eu : u = Value.bool true := r'
      subst eu
      have tabNow : ∀ p ∈ cs, ∃ more : Array Value, s'.heap.get? p.2 = some { cls := .none, data := .fields more } := fun p hp => by
        obtain ⟨more, z⟩ := un.tbls p.2 #[] (hO.tab p hp)
        exact ⟨_, hok' p.2 _ z⟩
      have else_ : ∀ b o, (¬ ∃ p ∈ cs, p.2 = b) → s₁.heap.get? b = some o → s'.heap.get? b = some o := fun b o nb e => by
        cases q : H b with
        | none => exact un.keep b o e q (fun y => nomatch y) (fun y => nomatch y)
        | some u =>
          rcases hO.only b u q with z | ⟨_, ob, xs, rfl⟩
          · exact absurd z nb
          · have z2 := un.frzs b ob _ q
            have y1 := (hok b _ q).1
            rw [e] at y1
            cases y1
            exact (hok' b _ z2).1
      refine ⟨rfl, ⟨fun b o e => ?_, fun b o e => ?_⟩, os, bare⟩
      · by_cases hb : ∃ p ∈ cs, p.2 = b
        · obtain ⟨p, hp, rfl⟩ := hb
          obtain ⟨more, hm⟩ := tabNow p hp
          rw [hT p hp] at e
          cases e
          exact .inr (.inl ⟨((C p hp).tab (hT p hp)).isCodeTable, rfl, #[], more, rfl, by rw [Array.empty_append]; exact hm⟩)
        · exact .inl (else_ b o hb e)
      · by_cases hb : ∃ p ∈ cs, p.2 = b
        · obtain ⟨p, hp, rfl⟩ := hb
          obtain ⟨more, hm⟩ := tabNow p hp
          exact ⟨_, hm⟩
        · exact ⟨o, else_ b o hb e⟩
theorem lawT (KX : K.In s₁.heap) (hns : s₁.heap.Ns mainGlobals mg) (hb : s₁.heap.Ns builtinsNs mb) (hbb : ∀ x : Str, x ≠ "__name__" → mb x = bootBuiltins x) (hlim : s₁.heap.NoLimit) (hg : s₁.gens = #[])
    (hT : ∀ p ∈ cs, s₁.heap.get? p.2 = some { cls := .none, data := .fields #[] }) (nT : ∀ p ∈ cs, K.lookup p.2 = none) (C : ∀ p ∈ cs, PySem.W.CodeHd s₁.heap p.1 p.2)
    (hbm : ∃ (bm : Addr) (ob : Obj), mg "__builtins__" = some (.ref bm) ∧ bm ≠ builtinsNs ∧ s₁.heap.get? bm = some ob ∧ ob.cls = .type "module" ∧ ob.dict = some builtinsNs ∧ ob.data = .plain)
    (ha : s₁.heap.get? a = some { cls := .type "list", data := .seq vs.toArray }) (hi : IntsAre vs ns) (hl : ns.length ≤ sizeLine) (hr : Room k callerA) (F : ∀ base : Heap, K.In base → base.Ns mainGlobals mg → (∀ p ∈ cs, TabB base mg p.1 p.2) → FnG P w K mg base CX0 k fa fd [x] sp) (hbind : ∀ (s : Shared) (u : Value), BindsTo s fd ⟨[u], []⟩ [(x, u)])
    (hsp : ∀ H : Hp, Entry cs a H → SqL K H a (ns.map V.int) → sp [.ref a] H (fun v _ => v = .bl true) fun _ _ _ => False) :
    codeAny (model P w) callerA (.call (.ref fa) ⟨[.ref a], []⟩) (lawEnd s₁) s₁ := by
  have rv := vals_ints hi
  have apart : ∀ p ∈ cs, p.2 ≠ a := fun p hp z => by
    have q := hT p hp
    rw [z, ha] at q
    have q2 : Data.seq vs.toArray _ = Data.fields #[] := congrArg Obj.data (Option.some.inj q)
    cases q2
  have mem : ∀ b, b ∈ cs.map (·.2) ↔ ∃ p ∈ cs, p.2 = b := fun b => List.mem_map
  by_cases hk : K.lookup a = none
  · generalize hH : (fun b => if b = a then some (HO.frz { cls := .type "list", data := .seq vs.toArray } (.lst (ns.map V.int))) else if b ∈ cs.map (·.2) then some (.tbl #[]) else none : Hp) = H
    have ata : H a = some (.frz { cls := .type "list", data := .seq vs.toArray } (.lst (ns.map V.int))) := by rw [← hH]; exact if_pos rfl
    have att : ∀ p ∈ cs, H p.2 = some (.tbl #[]) := fun p hp => by rw [← hH]; exact (if_neg (apart p hp)).trans (if_pos ((mem _).mpr ⟨p, hp, rfl⟩))
    have off : ∀ b, b ≠ a → (¬ ∃ p ∈ cs, p.2 = b) → H b = none := fun b n1 n2 => by rw [← hH]; exact (if_neg n1).trans (if_neg fun z => n2 ((mem b).mp z))
    have only : Entry cs a H := ⟨att, fun b o e => by
      by_cases n2 : ∃ p ∈ cs, p.2 = b
      · exact .inl n2
      · by_cases n1 : b = a
        · rw [n1, ata] at e
          cases e
          exact .inr ⟨n1, _, _, rfl⟩
        · rw [off b n1 n2] at e; cases e⟩
    refine lawT0 KX hns hb hbb hlim hg hT nT C hbm ha hr F hbind only (hsp H only (.inl (.inr ⟨_, ata⟩))) (fun b u z => ?_) fun _ => hk
    by_cases n1 : b = a
    · subst n1
      have y := ata.symm.trans z
      cases y
      exact ⟨ha, by rw [List.length_map]; exact hl, vs, _, rv, ha⟩
    · by_cases n2 : ∃ p ∈ cs, p.2 = b
      · obtain ⟨p, hp, rfl⟩ := n2
        have y := (att p hp).symm.trans z
        cases y
        exact hT p hp
      · rw [off b n1 n2] at z; cases z
  · obtain ⟨o, ho⟩ := Option.ne_none_iff_exists'.mp hk
    have e := (KX a o ho).symm.trans ha
    cases e
    generalize hH : (fun b => if b ∈ cs.map (·.2) then some (HO.tbl #[]) else none : Hp) = H
    have att : ∀ p ∈ cs, H p.2 = some (.tbl #[]) := fun p hp => by rw [← hH]; exact if_pos ((mem _).mpr ⟨p, hp, rfl⟩)
    have off : ∀ b, (¬ ∃ p ∈ cs, p.2 = b) → H b = none := fun b n2 => by rw [← hH]; exact if_neg fun z => n2 ((mem b).mp z)
    have only : Entry cs a H := ⟨att, fun b o e => by
      by_cases n2 : ∃ p ∈ cs, p.2 = b
      · exact .inl n2
      · rw [off b n2] at e; cases e⟩
    refine lawT0 KX hns hb hbb hlim hg hT nT C hbm ha hr F hbind only (hsp H only (.inr ⟨_, vs.toArray, _, ho, rfl, rfl, rfl, by rw [List.size_toArray, hi.length]; exact hl, by simpa using rv⟩)) (fun b u z => ?_) fun z => absurd (off a fun ⟨p, hp, q⟩ => apart p hp q) z
    by_cases n2 : ∃ p ∈ cs, p.2 = b
    · obtain ⟨p, hp, rfl⟩ := n2
      have y := (att p hp).symm.trans z
      cases y
      exact hT p hp
    · rw [off b n2] at z; cases z
end
def spLawT (K : PySem.W.Frag) (ts : List (Addr × Str)) : Sp := fun vs H Q E => Cs.spLaw K vs H Q E ∧ (∀ p ∈ ts, H p.1 = some (.tbl #[])) ∧ ∀ a ps, H a = some (.tbl ps) → ∃ q, (a, q) ∈ ts
end Mi
namespace Mi
open PySem PySem.Spec L2 PyProof.Rows
section
variable {W : Wd} {E : XK} {X : Cx} {c : Cf} {v : V} {d : D} {ds : List D} {e tg iter : Expr} {st : Stmt} {Q : VK} {kws : List Keyword}
def fInt : List D → Store → Res D := fun xs μ => match xs with
  | [.int i] => .ok (.int i) μ
  | [.bl k] => .ok (.int (if k = true then 1 else 0)) μ
  | _ => .bad
theorem dpa_rg {a b : Int} : DpA W c (rgV a b) (rangeD a (b - a).toNat) := by
  unfold rgV rangeD
  generalize List.range (b - a).toNat = l
  induction l with
  | nil => exact .nil
  | cons i l ih => exact .cons (.int _) ih
open Classical in
noncomputable def fRg (tup b : Bool) (i j : Int) : Store → Res D := fun μ => if RgOk i j then (if tup = true then .ok (.tup (rangeD i (j - i).toNat)) μ else newL b (rangeD i (j - i).toNat) μ) else .bad
noncomputable def mRg1 (tup b : Bool) (a : ME) : ME := fun ρ μ => (a ρ μ).bind fun x μ => match x with
  | .int j => fRg tup b 0 j μ
  | _ => .bad
noncomputable def mRg2 (tup b : Bool) (a a' : ME) : ME := fun ρ μ => (a ρ μ).bind fun x μ => (a' ρ μ).bind fun y μ => match x, y with
  | .int i, .int j => fRg tup b i j μ
  | _, _ => .bad
theorem rg_lst {b : Bool} {i j : Int} (ok : Ok W c) (w : Wp W (Dp W) (fRg false b i j c.μ) c Q E) : RgOk i j ∧ ∀ q, c.H q = none → Q (.ref q) (upd c.H q (.lst (rgV i j))) := by
  unfold fRg at w
  split at w
  · rename_i h
    rw [if_neg (by simp)] at w
    exact ⟨h, fun p hp => wp_newL w ok dpa_rg hp⟩
  · exact w.elim
theorem rg_tup {b : Bool} {i j : Int} (ok : Ok W c) (w : Wp W (Dp W) (fRg true b i j c.μ) c Q E) : RgOk i j ∧ ∀ q, c.H q = none → Q (.ref q) (upd c.H q (.tup (rgV i j))) := by
  unfold fRg at w
  split at w
  · rename_i h
    rw [if_pos rfl] at w
    exact ⟨h, fun p hp => wp_newT w ok dpa_rg hp⟩
  · exact w.elim
theorem pk_weak {t t' : TA} (h : PK X kws t) (f : ∀ σ H Q, t' σ H Q → t σ H Q) : PK X kws t' := ⟨fun p pins s σ H Q I q => h.run p pins s σ H Q I (f _ _ _ q)⟩
theorem mk_nil (h : PK X kws tNil) : PK X kws (tA W E mNil) := pk_weak h fun σ H Q ⟨ρ, c, hH, ok, env, w⟩ => by
  subst hH
  exact wp_ret w ok .nil
theorem mk_cons {a : ME} {b : MA} (h : PK X kws (tCons (tE W E a) (tA W E b))) : PK X kws (tA W E (mCons a b)) := pk_weak h fun σ H Q ⟨ρ, c, hH, ok, env, w⟩ =>
  ⟨ρ, c, hH, ok, env, wp_bind w fun v x c1 s1 ok1 r1 w1 => ⟨ρ, c1, rfl, ok1, env.mono s1.le, wp_bind w1 fun vs xs c2 s2 ok2 r2 w2 => wp_ret w2 ok2 (.cons (dp_mono s2.le r1) r2)⟩⟩
def mMakeK (frz : Bool) (C : String) (m : List D → Store → Res D) (n k : Nat) (a b : MA) : ME := fun ρ μ => (a ρ μ).bind fun xs μ => (b ρ μ).bind fun ys μ => if xs.length = n ∧ ys.length = k then mkObj frz C m (xs ++ ys) μ else .bad
end
end Mi
namespace Mi
open PySem PySem.Spec L2 PyProof.Rows
section
variable {W : Wd} {E : XK} {X : Cx} {c : Cf} {v : V} {d : D} {ds : List D} {e tg iter : Expr} {st : Stmt} {Q : VK}
def mCallO (C : String) (m : List D → Store → Res D) (o : ME) (a : MA) : ME := fun ρ μ => (o ρ μ).bind fun x μ => match x with
  | .obj C' _ _ => if C' = C then (a ρ μ).bind fun ds μ => m (x :: ds) μ else .bad
  | _ => .bad
def intsD : List D → Option (List Int)
  | [] => some []
  | .int x :: ds => (intsD ds).map (x :: ·)
  | _ => none
def noX (r : Res D) : Res D := match r with
  | .ok d μ => .ok d μ
  | _ => .bad
def mPropN (C : String) (m : List D → Store → Res D) (o : ME) : ME := mProp C (fun ds μ => noX (m ds μ)) o
def mPar3 (i j k : Nat) (a : MA) : MS := fun _ ρ μ => (a ρ μ).st fun ds μ => match ds with
  | [x, y, z] => .nx (((ρ.set i (some x)).set j (some y)).set k (some z)) μ
  | _ => .bad
end
end Mi
namespace Mi
open PySem PySem.Spec L2 PyProof.Rows
section
variable {W : Wd} {E : XK} {X : Cx} {c : Cf} {v : V} {d : D} {ds : List D} {e : Expr} {es : List Expr} {st : Stmt} {Q : VK}
end
end Mi
namespace Mi
open PySem PySem.Spec L2 PyProof.Rows PySem.SeqAt
section
variable {prog : Program} {w : World} {K : Type} [DecidableEq K] {knd : KeyKind prog w K} {A : Around} {E : Value → Shared → Prop} {s : Shared}
end
section
variable {X : Cx} {pins : List (Addr × Obj)} {σ : L2.St} {H : Hp} {s : Shared}
end
section
variable {W : Wd} {E : XK} {c : Cf}
end
end Mi
namespace SetT
open PySem PySem.Spec PyProof.Rows
def ddS (l : List Str) : List Str := l.foldl (fun a x => if a.any (· == x) = true then a else a ++ [x]) []
section
variable {prog : Program} {w : World} {A : Around} {R : Result → Shared → Prop} {J : Addr} {fp wr : List Addr} {G : Array GenState → Array GenState → Prop} {n : Nat} {T : Nat → Value → Prop} {St : Nat → Shared → Prop}
end
section
variable {prog : Program} {w : World} {A : Around} {E : Value → Shared → Prop} {s : Shared}
set_option maxHeartbeats 4000000 in
end
end SetT
namespace Mi
open PySem PySem.Spec L2 PyProof.Rows
section
variable {W : Wd} {E : XK} {X : Cx} {c : Cf} {v : V} {d : D} {ds : List D} {e : Expr} {st : Stmt} {Q : VK}
def fCountI : D → List D → Store → Res D := fun x xs μ => match (seqL μ x).bind intsD, xs with
  | some ns, [.int k] => .ok (.int (ns.count k : Nat)) μ
  | _, _ => .bad
def mDGet2 (o i z : ME) : ME := fun ρ μ => (o ρ μ).bind fun x μ => (match dctOf μ x with
  | some _ => (i ρ μ).bind fun y μ => (z ρ μ).bind fun u μ => match dctOf μ x, keyOf y with
    | some (ks, ds), some k => .ok ((lookK k ks ds).getD u) μ
    | _, _ => .bad
  | none => .bad)
def pkI {α : Type} (n k : Nat) (ix : List Nat) (us ws : List α) : List α := if us.length = n ∧ ws.length = k then ix.filterMap ((us ++ ws)[·]?) else []
theorem vals_pick {vs : List V} {us : List Value} (r : Vals vs us) : ∀ ix : List Nat, Vals (ix.filterMap (vs[·]?)) (ix.filterMap (us[·]?))
  | [] => .nil
  | i :: ix => by
    have ih := vals_pick r ix
    cases e : vs[i]? with
    | none =>
      have e2 : us[i]? = none := by
        rw [List.getElem?_eq_none_iff] at e ⊢
        rw [← r.length]; exact e
      simpa [e, e2] using ih
    | some x =>
      obtain ⟨u, hu, ru⟩ := r.get e
      simpa [e, hu] using (show Vals (x :: _) (u :: _) from .cons ru ih)
theorem vals_pkI {n k : Nat} {ix : List Nat} {vs zs : List V} {us ws : List Value} (r : Vals vs us) (q : Vals zs ws) : Vals (pkI n k ix vs zs) (pkI n k ix us ws) := by
  unfold pkI
  rw [r.length, q.length]
  split
  · exact vals_pick (r.append q) ix
  · exact .nil
theorem kb_of {K : PySem.W.Frag} {x qual : Str} {f : Addr} {fd : FuncData} (F : Fun K x qual st f fd) {ps ks : List Str} {n : Nat} {ix : List Nat} (hp : ps ≠ [])
    (h : ∀ (kV doc pm : Value) (an : Option Addr) (cdv ct : Value) (us ws : List Value), us.length = n → ws.length = ks.length → bindArgs (PySem.W.fnOf x qual (defArgs st) (defBody st) (defScope st) .none kV doc pm an cdv ct) ⟨us, ks.zip ws⟩ = pure (ps.zip (pkI n ks.length ix us ws))) :
    KBinds K fd ps ks (pkI n ks.length ix) (pkI n ks.length ix) := by
  obtain ⟨oc, od, kV, doc, pm, an, cdv, ct, osl, e, lk, hcd⟩ := F.ex
  subst e
  refine ⟨fun s us ws kin hl => ?_, vals_pkI⟩
  by_cases z : us.length = n ∧ ws.length = ks.length
  · exact BindsTo.of_eq (h kV doc pm an cdv ct us ws z.1 z.2)
  · unfold pkI at hl
    rw [if_neg z] at hl
    exact absurd (List.eq_nil_of_length_eq_zero hl.symm) hp
def mCallK (n k : Nat) (ix : List Nat) (m : List D → Store → Res D) (a b : MA) : ME := fun ρ μ => (a ρ μ).bind fun xs μ => (b ρ μ).bind fun ys μ => if xs.length = n ∧ ys.length = k then m (ix.filterMap ((xs ++ ys)[·]?)) μ else .bad
end
end Mi
namespace Mi
open PySem PySem.Spec L2 PyProof.Rows PySem.SeqAt
section
variable {prog : Program} {w : World} {K : Type} [DecidableEq K] {knd : KeyKind prog w K} {A : Around} {E : Value → Shared → Prop} {s : Shared}
end
section
variable {X : Cx} {pins : List (Addr × Obj)} {σ : L2.St} {H : Hp} {s : Shared}
end
section
variable {W : Wd} {E : XK} {c : Cf}
end
end Mi
namespace Mi
open PySem PySem.Spec L2 PyProof.Rows
section
variable {W : Wd} {E : XK} {X : Cx} {c : Cf} {v : V} {d : D} {ds es : List D} {e tg iter : Expr} {st : Stmt} {Q : VK} {a b : Addr}
def zipS (μ : Store) (d f : D) : Option Src := match seqL μ d, seqL μ f with
  | some ds, some es => some ⟨zipD ds es, d.cell ++ f.cell⟩
  | _, _ => match seqT d, seqT f with
    | some ds, some es => some ⟨zipD ds es, []⟩
    | _, _ => none
def miZip (a b : ME) : MI := fun ρ μ => (a ρ μ).bind fun x μ => (b ρ μ).bind fun y μ => match zipS μ x y with
  | some s => .ok s μ
  | none => .bad
end
end Mi
namespace OwnX
open PySem PySem.Spec L2 PyProof.Rows PySem.W
section
variable {prog : Program} {w : World} {A : Around} {E : Value → Shared → Prop} {s : Shared} {K : PySem.W.Frag} {x C f : Addr} {ox : Obj} {od : Option Obj} {y : Value}
end
section
variable {X : Cx} {CX : CXT} {C g : Addr} {n : Nat} {sp : Sp} {E : XK}
end
end OwnX
namespace Mi
open PySem PySem.Spec L2 PyProof.Rows
section
variable {W : Wd} {E : XK} {X : Cx} {c : Cf} {v : V} {d : D} {ds : List D} {e : Expr} {Q : VK} {C : String} {g f : Addr} {m : List D → Store → Res D} {ts ms : List String}
end
end Mi
namespace SetT
open PySem PySem.Spec PyProof.Rows L2
def keyS (e : Int × Value) : Str := match e.2 with | .str k _ => k | _ => Str.empty
def GoodS (P : Program) (w : World) (e : Int × Value) : Prop := ∃ k tk, e.2 = Value.str k tk ∧ e.1 = (PySem.strKind P w).hash k
def SetX (P : Program) (w : World) (h : Heap) (a : Addr) (S : Str → Bool) (n : Nat) : Prop :=
  ∃ o es ep t, h.get? a = some o ∧ o.ExactSet ∧ o.data = .set es ep t ∧ (∀ e ∈ es.toList, GoodS P w e) ∧ (es.toList.map keyS).Nodup ∧ (∀ k, S k = true ↔ k ∈ es.toList.map keyS) ∧
    es.size < scanBound ∧ t.fits es.size = true ∧ es.size = n ∧ Ris t.place.toList ∧ (w.params.followText "set-order" = true ∨ t.led = true)
section
variable {P : Program} {w : World} {h h' : Heap} {a : Addr} {S : Str → Bool} {n : Nat}
theorem SetX.at (R : SetX P w h a S n) (k : ∀ o, h.get? a = some o → h'.get? a = some o) : SetX P w h' a S n := by
  obtain ⟨o, es, ep, t, ho, r⟩ := R
  exact ⟨o, es, ep, t, k o ho, r⟩
end
section
variable {P : Program} {w : World} {A : Around} {E : Value → Shared → Prop} {s : Shared} {a : Addr} {S : Str → Bool} {n : Nat}
end
section
variable {prog : Program} {w : World} {A : Around} {R : Result → Shared → Prop} {J : Addr} {fp wr : List Addr} {G : Array GenState → Array GenState → Prop} {n : Nat} {T : Nat → Value → Prop} {St : Nat → Shared → Prop}
end
end SetT
namespace SetT
open PySem PySem.Spec PyProof.Rows L2
section
variable {prog : Program} {w : World} {A : Around} {E : Value → Shared → Prop} {s : Shared}
end
end SetT
namespace SetT
open PySem PySem.Spec PyProof.Rows L2
end SetT
namespace Mi
open PySem PySem.Spec L2 PyProof.Rows
section
variable {W : Wd} {E : XK} {X : Cx} {c : Cf} {v : V} {d : D} {ds : List D} {e : Expr} {st : Stmt} {Q : VK}
def seqA (μ : Store) (x : D) : Option (List D) := match seqL μ x with
  | some ds => some ds
  | none => seqT x
noncomputable def mSortSet (b : Bool) (a : ME) : ME := fun ρ μ => (a ρ μ).bind fun x μ => match (seqA μ x).bind strsD with
  | some ss => if ss.length < 64 ∨ ((SetT.ddS ss).length < 64 ∧ ss.length ≤ 1000) then newL b ((sortS (SetT.ddS ss)).map .str) μ else .bad
  | none => .bad
end
end Mi
namespace Mi
open PySem PySem.Spec L2 PyProof.Rows
section
variable {W : Wd} {E : XK} {X : Cx} {c : Cf} {v : V} {d : D} {ds : List D} {e : Expr} {es : List Expr} {st : Stmt} {Q : VK}
end
end Mi
namespace Mi
open PySem PySem.Spec L2 PyProof.Rows
section
variable {W : Wd} {E : XK} {X : Cx} {c : Cf} {v : V} {d : D} {ds : List D} {e : Expr} {Q : VK}
end
end Mi
namespace Mi
open PySem PySem.Spec L2 PyProof.Rows
section
variable {prog : Program} {w : World} {A : Around} {E : Value → Shared → Prop} {s : Shared}
end
section
variable {X : Cx}
end
section
variable {W : Wd} {E : XK} {X : Cx} {e : Expr}
def mRevA (b : Bool) (a : ME) : ME := fun ρ μ => (a ρ μ).bind fun x μ => match x with
  | .tup ds => .ok (.tup ds.reverse) μ
  | x => match seqL μ x with
    | some ds => newL b ds.reverse μ
    | none => .bad
end
end Mi
namespace Mi
open PySem PySem.Spec L2 PyProof.Rows
set_option maxRecDepth 8000 in
section
variable {X : Cx}
end
section
variable {W : Wd} {E : XK} {X : Cx} {st : Stmt}
end
end Mi
namespace OwnX
open PySem PySem.Spec L2 PyProof.Rows PySem.W
section
variable {prog : Program} {w : World} {A : Around} {E : Value → Shared → Prop} {s : Shared} {K : PySem.W.Frag} {x C f : Addr} {ox : Obj} {od : Option Obj} {y : Value}
end
section
variable {X : Cx} {CX : CXT} {C g : Addr} {n : Nat} {sp : Sp} {E : XK}
end
end OwnX
namespace Mi
open PySem PySem.Spec L2 PyProof.Rows
section
variable {W : Wd} {E : XK} {X : Cx} {c : Cf} {v : V} {d : D} {ds : List D} {e : Expr} {Q : VK} {C : String} {g f : Addr} {m : List D → Store → Res D}
end
end Mi
namespace LEq
open PySem PySem.SeqAt
open AutoSeq1 (wpAny_loadPart')
open MeetsSeq MeetsSeq2 MeetsSeq3 SeqRoads2
section
variable {prog : Program} {w : World} {A : Around} {R : Result → Shared → Prop}
end
section
variable {prog : Program} {w : World} {A : Around} {E : Value → Shared → Prop} {s : Shared}
end
end LEq
namespace OwnX
open PySem PySem.Spec L2 PyProof.Rows PySem.W
section
variable {X : Cx} {CX : CXT} {C g : Addr} {n : Nat} {sp : Sp} {E : XK}
end
section
variable {X : Cx} {CX : CXT} {C g : Addr} {n : Nat} {sp : Sp} {E : XK}
end
end OwnX
namespace Mi
open PySem PySem.Spec L2 PyProof.Rows
section
variable {W : Wd} {E : XK} {X : Cx} {c : Cf} {v : V} {d : D} {ds : List D} {e : Expr} {Q : VK} {C : String} {g f : Addr} {m : List D → Store → Res D}
open Classical in
open Classical in
end
end Mi
namespace Mi
open PySem PySem.Spec L2
open Classical
section
variable {W : Wd} {E : XK} {X : Cx} {v : V} {d : D} {ds : List D} {e tg iter : Expr} {st : Stmt} {Q : VK}
end
end Mi
namespace OwnX
open PySem PySem.Spec L2 PyProof.Rows PySem.W
section
variable {prog : Program} {w : World} {A : Around} {E : Value → Shared → Prop} {s : Shared} {K : PySem.W.Frag} {x y C f : Addr} {ox oy : Obj} {od ody : Option Obj}
end
section
variable {X : Cx} {CX : CXT} {C g : Addr} {n : Nat} {sp : Sp} {E : XK}
end
end OwnX
namespace Mi
open PySem PySem.Spec L2 PyProof.Rows
section
variable {W : Wd} {E : XK} {X : Cx} {c : Cf} {v : V} {d : D} {C : String} {g f : Addr} {m : List D → Store → Res D}
end
end Mi
namespace Cs
open PySem PySem.Spec L2
section
variable {X : Cx}
end
end Cs
namespace Mi
open PySem PySem.Spec L2 PyProof.Rows
section
variable {W : Wd} {E : XK} {X : Cx} {c : Cf} {v : V} {d : D} {ds : List D}
end
end Mi
namespace Cs
open PySem PySem.Spec L2
section
variable {X : Cx}
end
end Cs
namespace Mi
open PySem PySem.Spec L2 PyProof.Rows
section
variable {W : Wd} {E : XK} {X : Cx} {c : Cf} {v : V} {d : D} {ds : List D}
end
end Mi
namespace Mi
open PySem PySem.Spec L2 PyProof.Rows
section
variable {W : Wd} {E : XK}
end
end Mi
namespace KeyX
open PySem PySem.Spec L2 PyProof.Rows LamX
end KeyX
namespace KeyX
open PySem PySem.Spec L2 PyProof.Rows LamX
section
variable {X : Cx} {pins : List (Addr × Obj)} {σ : L2.St} {H : Hp} {s : Shared}
end
end KeyX
namespace KeyX
open PySem PySem.Spec L2 PyProof.Rows LamX
end KeyX
namespace Mi
open PySem PySem.Spec L2 PyProof.Rows LamX KeyX
section
variable {W : Wd} {E : XK} {X : Cx} {c : Cf} {v : V} {d : D} {ds : List D} {e : Expr}
end
end Mi
namespace Mi
open PySem PySem.Spec L2 PyProof.Rows
section
variable {W : Wd} {E : XK}
end
end Mi
namespace Pl
open PySem PySem.Spec L2 Mi
set_option checkBinderAnnotations false in
def Rp {α : Type} (r : Res α) [Q : α → Store → Prop] [X : Exc → Store → Prop] : Prop := match r with
  | .ok a μ => Q a μ
  | .exc x μ => X x μ
  | .bad => False
structure Post where
  N : Mi.Env → Store → Prop
  R : D → Store → Prop
  B : Mi.Env → Store → Prop
  C : Mi.Env → Store → Prop
  X : Exc → Store → Prop
set_option checkBinderAnnotations false in
def RpS (r : ResS) [P : Post] : Prop := match r with
  | .nx ρ μ => P.N ρ μ
  | .rt d μ => P.R d μ
  | .bk ρ μ => P.B ρ μ
  | .ct ρ μ => P.C ρ μ
  | .exc x μ => P.X x μ
  | .bad => False
section
variable {α β : Type} {Q : α → Store → Prop} {X : Exc → Store → Prop} {P : Post} {ρ : Mi.Env} {μ : Store} {n : Nat} {Q' : D → Store → Prop}
@[simp] theorem rp_ok {a : α} : @Rp _ (.ok a μ) Q X = Q a μ := rfl
@[simp] theorem rp_exc {x : Exc} : @Rp _ (.exc x μ : Res α) Q X = X x μ := rfl
@[simp] theorem rp_bad : @Rp _ (.bad : Res α) Q X = False := rfl
@[simp] theorem rp_bind {r : Res β} {f : β → Store → Res α} : @Rp _ (r.bind f) Q X = @Rp _ r (fun a μ => @Rp _ (f a μ) Q X) X := by cases r <;> rfl
@[simp] theorem rs_st {r : Res β} {f : β → Store → ResS} : @RpS (r.st f) P = @Rp _ r (fun a μ => @RpS (f a μ) P) P.X := by cases r <;> rfl
@[simp] theorem rs_nx : @RpS (.nx ρ μ) P = P.N ρ μ := rfl
@[simp] theorem rs_rt {d : D} : @RpS (.rt d μ) P = P.R d μ := rfl
@[simp] theorem rs_bk : @RpS (.bk ρ μ) P = P.B ρ μ := rfl
@[simp] theorem rs_ct : @RpS (.ct ρ μ) P = P.C ρ μ := rfl
@[simp] theorem rs_exc {x : Exc} : @RpS (.exc x μ) P = P.X x μ := rfl
@[simp] theorem rs_bad : @RpS .bad P = False := rfl
@[simp] theorem rs_seq {a b : MS} : @RpS (mSeq a b n ρ μ) P = @RpS (a n ρ μ) ⟨fun ρ μ => @RpS (b n ρ μ) P, P.R, P.B, P.C, P.X⟩ := by
  unfold mSeq; cases a n ρ μ <;> rfl
@[simp] theorem rs_next : @RpS (mNext n ρ μ) P = P.N ρ μ := rfl
@[simp] theorem rs_ret {a : ME} : @RpS (mRet a n ρ μ) P = @Rp _ (a ρ μ) P.R P.X := by unfold mRet; cases a ρ μ <;> rfl
@[simp] theorem rs_retN : @RpS (mRetN n ρ μ) P = P.R .non μ := rfl
@[simp] theorem rs_drop {a : ME} : @RpS (mDrop a n ρ μ) P = @Rp _ (a ρ μ) (fun _ μ => P.N ρ μ) P.X := by unfold mDrop; cases a ρ μ <;> rfl
@[simp] theorem rs_brk : @RpS (mBrk n ρ μ) P = P.B ρ μ := rfl
@[simp] theorem rs_cnt : @RpS (mCnt n ρ μ) P = P.C ρ μ := rfl
@[simp] theorem rs_if {t : MT} {a b : MS} : @RpS (mIfS t a b n ρ μ) P = @Rp _ (t ρ μ) (fun k μ => if k = true then @RpS (a n ρ μ) P else @RpS (b n ρ μ) P) P.X := by
  unfold mIfS; cases t ρ μ with
  | ok k μ => cases k <;> rfl
  | exc x μ => rfl
  | bad => rfl
@[simp] theorem rs_set {i : Nat} {a : ME} : @RpS (mSet i a n ρ μ) P = @Rp _ (a ρ μ) (fun d μ => P.N (ρ.set i (some d)) μ) P.X := by unfold mSet; cases a ρ μ <;> rfl
@[simp] theorem rs_par {i j : Nat} {a : MA} : @RpS (mPar i j a n ρ μ) P = @Rp _ (a ρ μ) (fun ds μ => match ds with
  | [x, y] => P.N ((ρ.set i (some x)).set j (some y)) μ
  | _ => False) P.X := by
  unfold mPar; cases a ρ μ with
  | ok ds μ => show @RpS (match ds with | [x, y] => _ | _ => _) P = _; rcases ds with _ | ⟨x, _ | ⟨y, _ | ⟨z, r⟩⟩⟩ <;> rfl
  | exc x μ => rfl
  | bad => rfl
@[simp] theorem rs_asg {a : ME} {g : MG} : @RpS (mAsg a g n ρ μ) P = @Rp _ (a ρ μ) (fun d μ => @Rp _ (g d ρ μ) P.N P.X) P.X := by
  unfold mAsg; cases a ρ μ with
  | ok d μ => show @RpS ((g d ρ μ).st _) P = @Rp _ (g d ρ μ) P.N P.X; cases g d ρ μ <;> rfl
  | exc x μ => rfl
  | bad => rfl
@[simp] theorem rs_frz {i : Nat} {m : MS} : @RpS (mFrz i m n ρ μ) P = (match ρ[i]? with
  | some (some (.own k)) => n ≤ k ∧ (match μ[k]? with
    | some (some x) => (match frzC x with
      | some d => @RpS (m n (ρ.set i (some d)) (μ.set k none)) P
      | none => False)
    | _ => False)
  | _ => False) := by
  unfold mFrz
  cases ρ[i]? with
  | none => rfl
  | some o =>
    cases o with
    | none => rfl
    | some d =>
      cases d with
      | own k =>
        dsimp only
        by_cases h : n ≤ k
        · rw [if_pos h]
          cases μ[k]? with
          | none => simp
          | some y =>
            cases y with
            | none => simp
            | some x => dsimp only; cases frzC x <;> simp [h]
        · rw [if_neg h]; simp [h]
      | _ => rfl
@[simp] theorem rp_var {i : Nat} : @Rp _ (mVar i ρ μ) Q' X = (match ρ[i]? with
  | some (some d) => Q' d μ
  | _ => False) := by unfold mVar; cases ρ[i]? with
  | none => rfl
  | some o => cases o <;> rfl
@[simp] theorem rp_c {d : D} : @Rp _ (mC d ρ μ) Q' X = Q' d μ := rfl
@[simp] theorem rp_op {f : D → D → Store → Res D} {a b : ME} : @Rp _ (mOp f a b ρ μ) Q' X = @Rp _ (a ρ μ) (fun x μ => @Rp _ (b ρ μ) (fun y μ => @Rp _ (f x y μ) Q' X) X) X := by simp [mOp]
@[simp] theorem rp_un {f : D → Store → Res D} {a : ME} : @Rp _ (mUn f a ρ μ) Q' X = @Rp _ (a ρ μ) (fun x μ => @Rp _ (f x μ) Q' X) X := by simp [mUn]
@[simp] theorem rp_cb {f : List D → Store → Res D} {a : MA} : @Rp _ (mCb f a ρ μ) Q' X = @Rp _ (a ρ μ) (fun x μ => @Rp _ (f x μ) Q' X) X := by simp [mCb]
@[simp] theorem rp_call {m : List D → Store → Res D} {a : MA} : @Rp _ (mCall m a ρ μ) Q' X = @Rp _ (a ρ μ) (fun x μ => @Rp _ (m x μ) Q' X) X := by simp [mCall]
@[simp] theorem rp_callN {m : List D → Store → Res D} {a : MA} : @Rp _ (mCallN m a ρ μ) Q' X = @Rp _ (a ρ μ) (fun x μ => @Rp _ (m x μ) Q' fun _ _ => False) X := by
  unfold mCallN; rw [rp_bind]; congr 1; funext x μ; cases m x μ <;> rfl
@[simp] theorem rp_chain {f g : D → D → Store → Res D} {a b d : ME} : @Rp _ (mChain f g a b d ρ μ) Q' X = @Rp _ (a ρ μ) (fun x μ => @Rp _ (b ρ μ) (fun y μ => @Rp _ (f x y μ) (fun z μ => match z with
  | .bl true => @Rp _ (d ρ μ) (fun w μ => @Rp _ (g y w μ) Q' X) X
  | .bl false => Q' (.bl false) μ
  | _ => False) X) X) X := by
  unfold mChain
  simp only [rp_bind]
  congr 1; funext x μ; congr 1; funext y μ; congr 1; funext z μ
  cases z <;> first | rfl | (rename_i b; cases b <;> simp)
@[simp] theorem rp_andV {a b : ME} : @Rp _ (mAndV a b ρ μ) Q' X = @Rp _ (a ρ μ) (fun x μ => match x with
  | .bl true => @Rp _ (b ρ μ) Q' X
  | .bl false => Q' (.bl false) μ
  | _ => False) X := by
  unfold mAndV; rw [rp_bind]; congr 1; funext x μ; cases x <;> first | rfl | (rename_i b; cases b <;> rfl)
@[simp] theorem rp_orV {a b : ME} : @Rp _ (mOrV a b ρ μ) Q' X = @Rp _ (a ρ μ) (fun x μ => match x with
  | .bl false => @Rp _ (b ρ μ) Q' X
  | .bl true => Q' (.bl true) μ
  | _ => False) X := by
  unfold mOrV; rw [rp_bind]; congr 1; funext x μ; cases x <;> first | rfl | (rename_i b; cases b <;> rfl)
@[simp] theorem rp_notV {a : ME} : @Rp _ (mNotV a ρ μ) Q' X = @Rp _ (a ρ μ) (fun x μ => match x with
  | .bl k => Q' (.bl (!k)) μ
  | _ => False) X := by
  unfold mNotV; rw [rp_bind]; congr 1; funext x μ; cases x <;> rfl
@[simp] theorem rp_orT {a b : ME} : @Rp _ (mOrT a b ρ μ) Q' X = @Rp _ (a ρ μ) (fun x μ => match truD μ x with
  | some false => @Rp _ (b ρ μ) Q' X
  | some true => Q' x μ
  | none => False) X := by
  unfold mOrT; rw [rp_bind]; congr 1; funext x μ; cases truD μ x with
  | none => rfl
  | some b => cases b <;> rfl
variable {T : Bool → Store → Prop}
@[simp] theorem rp_B {a : ME} : @Rp _ (mB a ρ μ) T X = @Rp _ (a ρ μ) (fun x μ => match x with
  | .bl k => T k μ
  | _ => False) X := by
  unfold mB; rw [rp_bind]; congr 1; funext x μ; cases x <;> rfl
@[simp] theorem rp_tru {a : ME} : @Rp _ (mTru a ρ μ) T X = @Rp _ (a ρ μ) (fun x μ => match truD μ x with
  | some k => T k μ
  | none => False) X := by
  unfold mTru; rw [rp_bind]; congr 1; funext x μ; cases truD μ x <;> rfl
@[simp] theorem rp_and {a b : MT} : @Rp _ (mAnd a b ρ μ) T X = @Rp _ (a ρ μ) (fun x μ => if x = true then @Rp _ (b ρ μ) T X else T false μ) X := by
  unfold mAnd; rw [rp_bind]; congr 1; funext x μ; cases x <;> simp
@[simp] theorem rp_or {a b : MT} : @Rp _ (mOr a b ρ μ) T X = @Rp _ (a ρ μ) (fun x μ => if x = true then T true μ else @Rp _ (b ρ μ) T X) X := by
  unfold mOr; rw [rp_bind]; congr 1; funext x μ; cases x <;> simp
@[simp] theorem rp_not {a : MT} : @Rp _ (mNot a ρ μ) T X = @Rp _ (a ρ μ) (fun x μ => T (!x) μ) X := by
  unfold mNot; rw [rp_bind]; congr 1
@[simp] theorem rp_yes : @Rp _ (mYes ρ μ) T X = T true μ := rfl
@[simp] theorem rp_if {t : MT} {a b : ME} : @Rp _ (mIf t a b ρ μ) Q' X = @Rp _ (t ρ μ) (fun k μ => if k = true then @Rp _ (a ρ μ) Q' X else @Rp _ (b ρ μ) Q' X) X := by
  unfold mIf; rw [rp_bind]; congr 1; funext x μ; cases x <;> simp
variable {L : List D → Store → Prop}
@[simp] theorem rp_nil : @Rp _ (mNil ρ μ) L X = L [] μ := rfl
@[simp] theorem rp_cons {a : ME} {b : MA} : @Rp _ (mCons a b ρ μ) L X = @Rp _ (a ρ μ) (fun x μ => @Rp _ (b ρ μ) (fun xs μ => L (x :: xs) μ) X) X := by simp [mCons]
@[simp] theorem rp_ite {c : Prop} [Decidable c] {a b : Res α} : @Rp _ (if c then a else b) Q X = if c then @Rp _ a Q X else @Rp _ b Q X := by split <;> rfl
@[simp] theorem rp_tup {a : MA} : @Rp _ (mTup a ρ μ) Q' X = @Rp _ (a ρ μ) (fun xs μ => xs.length ≤ sizeLine ∧ Q' (.tup xs) μ) X := by
  unfold mTup; rw [rp_bind]; congr 1; funext x μ; by_cases h : x.length ≤ sizeLine <;> simp [h]
@[simp] theorem rp_newL {b : Bool} {ds : List D} : @Rp _ (newL b ds μ) Q' X = if b = true then Q' (.own μ.length) (μ ++ [some (.lst ds)]) else Q' (.lst ds) μ := by
  unfold newL; split <;> rfl
@[simp] theorem rp_newK {b : Bool} {ks : List Key} {ds : List D} : @Rp _ (newK b ks ds μ) Q' X = if b = true then Q' (.own μ.length) (μ ++ [some (.dct ks ds)]) else Q' (.dct ks ds) μ := by
  unfold newK; split <;> rfl
@[simp] theorem rp_lst {b : Bool} {a : MA} : @Rp _ (mLst b a ρ μ) Q' X = @Rp _ (a ρ μ) (fun xs μ => xs.length ≤ sizeLine ∧ @Rp _ (newL b xs μ) Q' X) X := by
  unfold mLst; rw [rp_bind]; congr 1; funext x μ; by_cases h : x.length ≤ sizeLine <;> simp [h]
@[simp] theorem rp_dnew {b : Bool} : @Rp _ (mDNew b ρ μ) Q' X = @Rp _ (newK b [] [] μ) Q' X := rfl
variable {O : Option Int → Store → Prop}
@[simp] theorem rp_moN : @Rp _ (moNone ρ μ) O X = O none μ := rfl
@[simp] theorem rp_moS {a : ME} : @Rp _ (moSome a ρ μ) O X = @Rp _ (a ρ μ) (fun d μ => match d with
  | .int i => O (some i) μ
  | _ => False) X := by
  unfold moSome; rw [rp_bind]; congr 1; funext x μ; cases x <;> rfl
@[simp] theorem rp_sl {b : Bool} {a : ME} {l h : MO} : @Rp _ (mSl b a l h ρ μ) Q' X = @Rp _ (a ρ μ) (fun x μ => @Rp _ (l ρ μ) (fun lo μ => @Rp _ (h ρ μ) (fun hi μ => @Rp _ (fSl b x lo hi μ) Q' X) X) X) X := by simp [mSl]
@[simp] theorem rp_revL {b : Bool} {a : ME} : @Rp _ (mRevL b a ρ μ) Q' X = @Rp _ (a ρ μ) (fun x μ => match seqL μ x with
  | some ds => @Rp _ (newL b ds.reverse μ) Q' X
  | none => False) X := by
  unfold mRevL; rw [rp_bind]; congr 1; funext x μ; cases seqL μ x with
  | none => rfl
  | some ds => rfl
@[simp] theorem rp_bm {T : String} {f : D → List D → Store → Res D} {o : ME} {a : MA} : @Rp _ (mBm T f o a ρ μ) Q' X = @Rp _ (o ρ μ) (fun x μ => tyM μ x = some T ∧ @Rp _ (a ρ μ) (fun xs μ => @Rp _ (f x xs μ) Q' X) X) X := by
  unfold mBm; rw [rp_bind]; congr 1; funext x μ; by_cases h : tyM μ x = some T <;> simp [h]
@[simp] theorem rp_dget {o i : ME} : @Rp _ (mDGet o i ρ μ) Q' X = @Rp _ (o ρ μ) (fun x μ => @Rp _ (i ρ μ) (fun y μ => match dctOf μ x, keyOf y with
  | some (ks, ds), some k => (match lookK k ks ds with
    | some d => Q' d μ
    | none => False)
  | _, _ => False) X) X := by
  unfold mDGet; simp only [rp_bind]; congr 1; funext x μ; congr 1; funext y μ
  cases dctOf μ x with
  | none => rfl
  | some p =>
    obtain ⟨ks, ds⟩ := p
    cases keyOf y with
    | none => rfl
    | some k => dsimp only; cases lookK k ks ds <;> rfl
variable {G : Mi.Env → Store → Prop}
@[simp] theorem rg_name {i : Nat} {d : D} : @Rp _ (mgName i d ρ μ) G X = G (ρ.set i (some d)) μ := rfl
@[simp] theorem rg_nil {ds : List D} : @Rp _ (mgNil ds ρ μ) G X = (match ds with | [] => G ρ μ | _ => False) := by unfold mgNil; cases ds <;> rfl
@[simp] theorem rg_cons {a : MG} {b : MGs} {ds : List D} : @Rp _ (mgCons a b ds ρ μ) G X = (match ds with
  | d :: ds => @Rp _ (a d ρ μ) (fun ρ μ => @Rp _ (b ds ρ μ) G X) X
  | [] => False) := by unfold mgCons; cases ds <;> simp
@[simp] theorem rg_tup {n : Nat} {g : MGs} {d : D} : @Rp _ (mgTup n g d ρ μ) G X = (match d with
  | .tup ds => ds.length = n ∧ @Rp _ (g ds ρ μ) G X
  | _ => False) := by
  unfold mgTup; cases d with
  | tup ds => dsimp only; by_cases h : ds.length = n <;> simp [h]
  | _ => rfl
@[simp] theorem rg_subL {o i : ME} {z : D} : @Rp _ (mgSubL o i z ρ μ) G X = @Rp _ (o ρ μ) (fun x μ => @Rp _ (i ρ μ) (fun y μ => match ownL μ x, y with
  | some (n, ds), .int k => (match ixN ds.length k with
    | some j => G ρ (μ.set n (some (.lst (ds.set j z))))
    | none => False)
  | _, _ => False) X) X := by
  unfold mgSubL; simp only [rp_bind]; congr 1; funext x μ; congr 1; funext y μ
  cases ownL μ x with
  | none => rfl
  | some p =>
    obtain ⟨m, ds⟩ := p
    cases y with
    | int k => dsimp only; cases ixN ds.length k <;> rfl
    | _ => rfl
@[simp] theorem rp_fn {N P' : Nat} {body : MS} {ds : List D} : @Rp _ (mFn N P' body ds μ) Q' X = (ds.length = P' ∧ @RpS (body μ.length (startD N ds) μ) ⟨fun _ μ => Q' .non μ, Q', fun _ _ => False, fun _ _ => False, X⟩) := by
  unfold mFn
  by_cases h : ds.length = P'
  · rw [if_pos h]
    cases body μ.length (startD N ds) μ <;> simp [h]
  · rw [if_neg h]; simp [h]
theorem rs_mono {r : ResS} {P P2 : Post} (h : @RpS r P) (n : ∀ ρ μ, P.N ρ μ → P2.N ρ μ) (rt : ∀ d μ, P.R d μ → P2.R d μ) (b : ∀ ρ μ, P.B ρ μ → P2.B ρ μ) (c : ∀ ρ μ, P.C ρ μ → P2.C ρ μ) (x : ∀ e μ, P.X e μ → P2.X e μ) : @RpS r P2 := by
  cases r with
  | nx ρ μ => exact n _ _ h
  | rt ρ μ => exact rt _ _ h
  | bk ρ μ => exact b _ _ h
  | ct ρ μ => exact c _ _ h
  | exc ρ μ => exact x _ _ h
  | bad => exact h
theorem rp_get {r : Res α} (h : @Rp _ r Q fun _ _ => False) : ∃ a μ, r = .ok a μ ∧ Q a μ := by
  cases r with
  | ok a μ => exact ⟨a, μ, rfl, h⟩
  | exc x μ => exact h.elim
  | bad => exact h.elim
end
end Pl
namespace Mi
open PySem PySem.Spec L2 PyProof.Rows
section
variable {W : Wd} {E : XK} {X : Cx} {e : Expr}
def mgLst (n : Nat) (g : MGs) : MG := fun d ρ μ => match seqL μ d with
  | some ds => if ds.length = n then g ds ρ μ else .bad
  | none => .bad
theorem mg_lst {n : Nat} {g : MGs} (h : PG X e (gLst W.K n (tGs W E g))) : PG X e (tG W E (mgLst n g)) := pg_weak h fun v σ H Q ⟨ρ, c, d, hH, ok, env, r, w⟩ => by
  unfold mgLst at w
  split at w
  · rename_i ds e1
    split at w
    · rename_i hn
      obtain ⟨a, xs, rfl, hs, ha⟩ := seqL_ok ok r e1
      exact ⟨_, _, rfl, by rw [← hH]; exact hs, by rw [dpa_len ha]; exact hn, ρ, c, _, hH, ok, env, ha, w⟩
    · exact w.elim
  · exact w.elim
end
end Mi
namespace Pl
open PySem PySem.Spec L2 Mi
section
variable {X : Exc → Store → Prop} {ρ : Mi.Env} {μ : Store} {G : Mi.Env → Store → Prop}
@[simp] theorem rg_lst {n : Nat} {g : MGs} {d : D} : @Rp _ (mgLst n g d ρ μ) G X = (match seqL μ d with
  | some ds => ds.length = n ∧ @Rp _ (g ds ρ μ) G X
  | none => False) := by
  unfold mgLst
  cases seqL μ d with
  | some ds => dsimp only; by_cases h : ds.length = n <;> simp [h]
  | none => rfl
end
end Pl
namespace Mi
open PySem PySem.Spec L2 PyProof.Rows
section
variable {W : Wd} {E : XK} {X : Cx}
end
end Mi
namespace Mi
open PySem PySem.Spec L2 PyProof.Rows
section
variable {W : Wd} {E : XK} {X : Cx} {c : Cf} {v : V} {d : D} {ds : List D}
end
end Mi
namespace Mi
open PySem PySem.Spec L2 PyProof.Rows
section
variable {W : Wd} {E : XK} {X : Cx}
end
end Mi
namespace L2
open PySem PySem.Spec PyProof.Rows
namespace DZ
end DZ
end L2
namespace Mi
open PySem PySem.Spec L2 PyProof.Rows
section
variable {W : Wd} {E : XK} {X : Cx} {c : Cf} {v : V} {d : D} {ds : List D} {e : Expr} {st : Stmt} {Q : VK}
end
end Mi
namespace StX
open PySem PySem.Spec L2
section
variable {prog : Program} {w : World} {A : Around} {E : Value → Shared → Prop} {s : Shared} {K : PySem.W.Frag}
open PySem.W in
end
section
variable {X : Cx} {pins : List (Addr × Obj)} {σ : L2.St} {H : Hp} {s : Shared} {a C dx : Addr} {fs : List (Str × V)} {f : Str} {v : V} {A : Around} {E : Value → Shared → Prop}
end
section
variable {X : Cx} {CX : CXT} {k : Nat} {C g : Addr} {sp : Sp} {E : XK} {o e : Expr} {es : List Expr} {m : Str} {ta : TE} {t : TA} {pos apos : Pos}
end
end StX
namespace Mi
open PySem PySem.Spec L2 PyProof.Rows
section
variable {W : Wd} {E : XK} {X : Cx} {c : Cf} {v : V} {d : D} {ds : List D} {e : Expr} {st : Stmt} {Q : VK} {σ : L2.St} {H : Hp}
end
end Mi
namespace L2
open PySem PySem.Spec PyProof.Rows
section
variable {X : Cx}
def hit (w : Str) (r : Str × Nat) : Bool := r.1 == w && r.2 == 0
open Classical in
end
end L2
namespace Mi
open PySem PySem.Spec L2 PyProof.Rows
section
variable {W : Wd} {E : XK} {X : Cx} {μ : Store}
end
end Mi
namespace Cs
open PySem PySem.Spec L2 PyProof.Rows
structure Hd where
  x : Str
  n : Str
  c : Value
  i : Nat
  b₀ : Stmt
  suite : List Stmt
  np : Pos
  pos : Pos
  ts : Addr → Value → Option Addr → TS
def Hd.h (q : Hd) : ExceptHandler := .ExceptHandler (some (.Name q.x q.np)) (some q.n) (q.b₀ :: q.suite) q.pos
section
variable {X : Cx} {body : List Stmt} {pos : Pos} {tb : WX → TS} {Wout : WX} {q0 : Hd} {qs : List Hd}
end
end Cs
namespace Cs
open PySem PySem.Spec L2 PyProof.Rows
section
variable {X : Cx} {o : Expr} {f : Str} {pos : Pos} {te : TE} {a : Addr} {oe : Obj} {pn : List (Addr × Obj)} {cls : Value} {d : Option Addr}
end
end Cs
namespace StX
open PySem PySem.Spec L2 PyProof.Rows
section
variable {X : Cx} {CX : CXT} {k : Nat} {C f : Addr} {fd : FuncData} {ps : List Str} {sp : Sp} {Ef : L2.St → XK} {o e : Expr} {es : List Expr} {m : Str} {ta : TE} {t : TA} {pos apos : Pos}
end
end StX
namespace Mi
open PySem PySem.Spec L2 PyProof.Rows
section
variable {W : Wd} {E : XK} {X : Cx} {st : Stmt}
inductive SI where
  | ci (z : Int)
  | cs (z : Str)
  | f (nm : Str)
inductive SX where
  | keep
  | fld (nm : Str)
  | tup (xs : List SI)
def SI.at (x : Exc) : SI → Option D
  | .ci z => some (.int z)
  | .cs z => some (.str z)
  | .f nm => lookF nm x.ks x.ds
def SI.all (x : Exc) : List SI → Option (List D)
  | [] => some []
  | s :: ss => match s.at x, SI.all x ss with
    | some d, some ds => some (d :: ds)
    | _, _ => none
def SX.at (x : Exc) : SX → Option D
  | .keep => some (.exc x.C x.ks x.ds)
  | .fld nm => lookF nm x.ks x.ds
  | .tup xs => match SI.all x xs with
    | some ds => if ds.length ≤ sizeLine then some (.tup ds) else none
    | none => none
end
end Mi
namespace Mi
open PySem PySem.Spec L2 PyProof.Rows Cs
section
variable {W : Wd} {E : XK} {X : Cx} {st : Stmt}
end
end Mi
namespace Cs
open PySem PySem.Spec L2 PyProof.Rows
end Cs
namespace MiTup
open PySem PySem.SeqAt
open AutoSeq1 (wpAny_loadPart')
open MeetsSeq MeetsSeq2 MeetsSeq3 SeqRoads2
section
variable {prog : Program} {w : World}
end
section
variable {prog : Program} {w : World} {A : Around} {s : Shared}
end
end MiTup
namespace Mi
open PySem PySem.Spec L2 PyProof.Rows PySem.SeqAt
section
variable {X : Cx}
end
section
variable {W : Wd} {E : XK} {c : Cf}
end
end Mi
namespace Cs
open PySem PySem.Spec L2 PyProof.Rows
structure HdT where
  x : Str
  n : Str
  c : Value
  i : Nat
  b₀ : Stmt
  suite : List Stmt
  np : Pos
  pos : Pos
  ts : TS
def HdT.h (q : HdT) : ExceptHandler := .ExceptHandler (some (.Name q.x q.np)) (some q.n) (q.b₀ :: q.suite) q.pos
section
variable {X : Cx} {pins : List (Addr × Obj)} {σ : L2.St} {H : Hp} {s : Shared} {a : Addr}
end
section
variable {X : Cx} {body : List Stmt} {pos : Pos} {tb : WX → TS} {Wout : WX} {q0 : HdT} {qs : List HdT}
end
end Cs
namespace Mi
open PySem PySem.Spec L2 PyProof.Rows Cs LamX
section
variable {W : Wd} {E : XK} {X : Cx} {st : Stmt}
end
end Mi
namespace Cs
open PySem PySem.Spec L2 PyProof.Rows
section
variable {X : Cx}
end
end Cs
namespace Mi
open PySem PySem.Spec L2 PyProof.Rows
section
variable {W : Wd} {E : XK} {X : Cx} {c : Cf} {Q : VK}
end
end Mi
namespace Mi
open PySem PySem.Spec L2 PyProof.Rows
section
variable {W : Wd} {E : XK} {X : Cx} {e : Expr}
end
end Mi
namespace PySem
namespace HandSPX
open Builtin Builtin.ObjectAttr
section
variable {M : Model} {A : Around} {E : Value → Shared → Prop} {h : Heap} {g : Array GenState} {d : Drawn} {t : Nat} {os : OsState}
variable {nm q : Str} {C N : Addr} {bs bm bmB : List Value} {hdct : Bool} {sn : List Str} {sub : List Value} {ab : Bool} {col : Option Bool} {dd : Option Addr} {k0 k1 k2 k3 k5 : Option Value} {B newId initId : String}
theorem check_new_ownK (F : ExcBaseFacts B newId initId bmB) (hT : ∀ X : String, bm.contains (.type X) = bmB.contains (.type X)) {rest : List Value} {kw : List (Str × Value)} {Q : Unit → Shared → Prop}
    (hC : h.get? C = some (excClassObj nm q C N bs bm hdct sn sub ab col dd k0 k1 k2 k3 k5 newId)) (hq : Q () ⟨h, g, d, t, os⟩) : wpAny M A (checkBuiltinCall newId ⟨.ref C :: rest, kw⟩) Q E ⟨h, g, d, t, os⟩ := by
  have hcont : (Value.ref C :: bm).contains (.type B) = true := by rw [List.contains_cons, hT, F.hasB, Bool.or_true]
  have hstar := F.noStar
  simp only [checkBuiltinCall, F.newKind, F.newSplit, F.newRow]
  repeat (first | refine wpAny_loadPart_at hC ?_ | (refine wpAny_isSubtype_exc hC ?_; rw [hcont]) | refine wpAny_staticBase_exc hC ?_ | refine wpAny_madeBy_exc hC ?_ | simp only [bne_self_eq_false, Bool.false_eq_true, if_false] | wp_step)
  exact hq
end
section
variable {prog : Program} {w : World} {A : Around} {E : Value → Shared → Prop} {R : Result → Shared → Prop} {h : Heap} {g : Array GenState} {d : Drawn} {t : Nat} {os : OsState}
variable {nm q : Str} {C N : Addr} {bs bm bmB : List Value} {hdct : Bool} {sn : List Str} {sub : List Value} {ab : Bool} {col : Option Bool} {dd : Option Addr} {k0 k1 k2 k3 k5 : Option Value} {B newId initId : String}
theorem new_ownK (F : ExcBaseFacts B newId initId bmB) (hT : ∀ X : String, bm.contains (.type X) = bmB.contains (.type X)) {rest : List Value} {kw : List (Str × Value)}
    (hC : h.get? C = some (excClassObj nm q C N bs bm hdct sn sub ab col dd k0 k1 k2 k3 k5 newId))
    (hq : R (.ok (.ret (.ref (h.objs.size + 1)))) ⟨(h.push { cls := .type "tuple", data := .seq rest.toArray }).push
      { cls := .ref C, data := .fields #[.ref h.objs.size, .none, .none, .none, .bool false, .none] }, g, d, t, os⟩) (hrest : rest.length ≤ sizeLine) :
    codeAny (model prog w) A (.builtin newId ⟨.ref C :: rest, kw⟩) R ⟨h, g, d, t, os⟩ := by
  have hends := F.ends
  have hcB : (Value.ref C :: bm).contains (.type B) = true := by rw [List.contains_cons, hT, F.hasB, Bool.or_true]
  have hcA : (Value.ref C :: bm).contains (.type "AttributeError") = false := by rw [List.contains_cons, hT, F.noAttr]; rfl
  have hcN : (Value.ref C :: bm).contains (.type "NameError") = false := by rw [List.contains_cons, hT, F.noName]; rfl
  refine codeAny_builtinAt F.entry ?_
  unfold Builtin.«BaseException.__new__»
  refine wpAt_bind ?_
  show wpAt _ _ _ (stack >>= _) _ _ _
  refine wpAt_bind (wpAt_stack fun p below => wpAt_of_wpAny ?_)
  wp_walk
  refine wpAt_of_wpAny ?_
  rw [F.owner]
  repeat (first | with_reducible refine wpAny_madeHere_exc F.canon hC ?_ | with_reducible refine wpAny_loadPart_at hC ?_ | (with_reducible refine wpAny_isSubtype_exc hC ?_; first | rw [hcB] | rw [hcA] | rw [hcN]) | wp_step)
  show R _ _
  rw [Heap.size_push]
  exact hq
theorem type_call_ownK (F : ExcBaseFacts B newId initId bmB) (hT : ∀ X : String, bm.contains (.type X) = bmB.contains (.type X)) {rest : List Value} {kw : List (Str × Value)} {fI : Addr} {Q : Fin → Shared → Prop}
    (hC : h.get? C = some (excClassObj nm q C N bs bm hdct sn sub ab col dd k0 k1 k2 k3 k5 newId))
    (hi : W.Looks (model prog w) h (typeLookup (.ref C) "__init__") (some (.ref fI))) (hb : ∀ self, W.Looks (model prog w) h (bindSpecial (.ref fI) self) (.ref fI, [self])) (hrest : rest.length ≤ sizeLine)
    (hq : codeAny (model prog w) A (.call (.ref fI) ⟨.ref (h.objs.size + 1) :: rest, kw⟩)
      (fun r s' => match r with | .ok (.ret v) => v = .none ∧ Q (.done (.ret (.ref (h.objs.size + 1)))) s' | .ok _ => False | .error e => E e s')
      ⟨(h.push (W.kdv_tup rest)).push (excO C h.objs.size), g, d, t, os⟩) :
    wpAny (model prog w) A (Builtin.«type.__call__» ⟨.ref C :: rest, kw⟩) Q E ⟨h, g, d, t, os⟩ := by
  repeat (first | with_reducible refine wpAny_loadPart_at hC ?_ | with_reducible refine wpAny_madeBy_exc hC ?_ | wp_step)
  refine codeAny_call_builtin_code (Code.quiet_builtin _ F.quiet) (check_new_ownK F hT hC ?_)
  refine new_ownK F hT hC ?_ hrest
  show wpAny _ _ _ _ _ _
  have k : ∀ b o, h.get? b = some o → ((h.push (W.kdv_tup rest)).push (excO C h.objs.size)).get? b = some o := fun b o e => Heap.get?_push_of_some _ (Heap.get?_push_of_some _ e)
  have hC₁ := k _ _ hC
  have hget : ((h.push (W.kdv_tup rest)).push (excO C h.objs.size)).get? (h.objs.size + 1) = some (excO C h.objs.size) := by heap_get
  have hcC : (Value.ref C :: bm).contains (.ref C) = true := by simp
  have i1 := hi.keeps k
  have b1 := (hb (.ref (h.objs.size + 1))).keeps k
  unfold isInstance
  repeat (first | with_reducible refine wpAny_loadPart_at hget ?_ | (with_reducible refine wpAny_isSubtype_exc hC₁ ?_; rw [hcC]) | wp_step)
  show wpAny _ _ (typeLookup (.ref C) _) _ _ _
  refine i1.at ?_
  refine wpAny_holding (wpAny_bind (b1.at ?_))
  refine wpAny_bind (wpAny_call (codeAny_mono hq fun r s' z => ?_))
  rcases r with e | (v | _ | _ | _) <;> first | exact z | exact z.elim | skip
  obtain ⟨rfl, z⟩ := z
  first
    | exact wpAny_pure (wpAny_pure z)
    | (wp_walk; exact z)
theorem call_ownK (F : ExcBaseFacts B newId initId bmB) (hT : ∀ X : String, bm.contains (.type X) = bmB.contains (.type X)) {rest : List Value} {kw : List (Str × Value)} {fI : Addr}
    (hC : h.get? C = some (excClassObj nm q C N bs bm hdct sn sub ab col dd k0 k1 k2 k3 k5 newId))
    (hi : W.Looks (model prog w) h (typeLookup (.ref C) "__init__") (some (.ref fI))) (hb : ∀ self, W.Looks (model prog w) h (bindSpecial (.ref fI) self) (.ref fI, [self])) (hrest : rest.length ≤ sizeLine)
    (hq : codeAny (model prog w) (A.under (.builtin "type.__call__" ⟨.ref C :: rest, kw⟩)) (.call (.ref fI) ⟨.ref (h.objs.size + 1) :: rest, kw⟩) (W.InitBack (h.objs.size + 1) R)
      ⟨(h.push (W.kdv_tup rest)).push (excO C h.objs.size), g, d, t, os⟩) :
    codeAny (model prog w) A (.call (.ref C) ⟨rest, kw⟩) R ⟨h, g, d, t, os⟩ := by
  have f1 := tc_lookup
  have f2 := tc_bind (.ref C)
  have hTy : (⟨h, g, d, t, os⟩ : Shared).TypeIs (.ref C) "type" := ⟨_, hC, rfl⟩
  refine codeAny_of_tree ?_
  show wpAny _ _ (callAny (.ref C) _) _ _ _
  repeat (any_goals (first | assumption | with_reducible refine wpAny_loadPart_at hC ?_ | wp_step))
  refine ⟨rfl, ?_⟩
  refine codeAny_call_builtin_at (Code.quiet_builtin _ (by decide +kernel)) entry_typeCall (wpAny_check_type_call_sub hC (type_call_ownK F hT hC hi hb hrest ?_))
  refine codeAny_mono hq fun r s' z => ?_
  rcases r with e | (v | _ | _ | _) <;> exact z
end
end HandSPX
end PySem
namespace L2
open PySem PySem.Spec PyProof.Rows
def tMkX (t : L2.St → Hp → XK → Prop) : TE := fun σ H Q => t σ H fun cls d H' => ∀ a, H' a = none → Q (.ref a) (upd H' a (Cs.XO cls d a))
theorem pe_mkX {X : Cx} {e : Expr} {t : L2.St → Hp → XK → Prop} (he : PMk X e t) : PE X e (tMkX t) := ⟨fun pins s σ H Q I h => by
  refine thn (he pins s σ H _ I h) fun u s1 hu => ?_
  obtain ⟨a, oe, vs, sI, H', cls, d, rfl, J, k, hne, ha, hz, hd, h1, na, os, ag, r, q⟩ := hu
  have T := J.laidN (t' := s1.toks) k hne na (Cs.xo_ok ha hz hd)
  refine ⟨.ref a, upd H' a (Cs.XO cls d a), ⟨T.ok, ?_, ag, T.base, T.loc, T.cell, T.free, T.freeC, T.pin, T.hok, T.len⟩, rfl, q a na⟩
  have := T.os
  rw [os]
  exact this⟩
def tMkOK (C : Addr) (m : Nat) (sp : Sp) (gV : List V → List V → List V) (tk : TA) : L2.St → Hp → XK → Prop := fun σ H Q => tk σ H fun zs H1 => zs.length = m ∧ ∀ a, H1 a = none → sp (gV [.ref a] zs) (upd H1 a (exo a C none))
  (fun v H2 => v = .non ∧ ∃ (d : Addr) (fs : List (Str × V)), H2 a = some (exo a C (some d)) ∧ H2 d = some (exd d fs) ∧ H1 d = none ∧ Q (.ref C) (some d) (upd (del H2 a) d (.xd fs))) (fun _ _ _ => False)
section
variable {X : Cx} {p pos : Pos}
theorem pmk_oexK {CX : CXT} {x : Str} {C fI : Addr} {k : Nat} {fd : FuncData} {ps ks : List Str} {sp : Sp} {kws : List Keyword} {tk : TA} {gg : List Value → List Value → List Value} {gV : List V → List V → List V} (T : OexC X.K C) (iC : PySem.W.findIn X.K (.ref C) "__init__" = some (some (.ref fI))) (tI : PySem.W.typeIn X.K (.ref fI) = some (.type "function"))
    (F1 : FnOk X.prog X.w X.K X.mg X.base CX k fI fd ps sp) (hr : Room (k + 1) X.A) (hb : KBinds X.K fd ps ks gg gV) (hx : Passes CX X (fun _ _ _ => False)) (hg : Gl X x) (hm : X.mg x = some (.ref C)) (hkw : PK X kws tk)
    (hall : (backToKw pos (keywordEach kws X.env)).all (·.1.isSome) = true := by rfl) (hks : (backToKw pos (keywordEach kws X.env)).filterMap (·.1) = ks := by rfl) (hdb : (x == ("__debug__" : Str)) = false := by decide)
    (hpl : ((backTo pos (starEach [] X.env)).any (·.1) || (backToKw pos (keywordEach kws X.env)).any (·.1.isNone)) = false := by rfl) :
    PMk X (.Call (.Name x p) [] kws pos) (tMkOK C ks.length sp gV tk) := by
  intro pins s σ H Q I h
  obtain ⟨nm, q, N, bs, bm, sn, sub, ab, col, dd, k0, k1, k2, k3, k5, hC, hbm⟩ := T.cls
  refine wpAny_Call_Name_kw (ld_glob I hg hm ?_ hdb)
  refine PySem.W.callWith_KW0 (h₀ := X.base) I.ok.mod.kin T.kC hall (thn (hkw.run pos pins s σ H _ I h) fun ws s1 ⟨zs, H1, I1, r1, hz, q1⟩ => ⟨I1.kIn, ?_⟩) hpl
  rw [hks]
  show wpAny _ _ (call (.ref C) [] (ks.zip ws)) _ _ _
  obtain ⟨hp, g, dr, tk, os⟩ := s1
  have hsz : hp.objs.size ≤ hp.objs.size + 1 := Nat.le_succ _
  have hn : H1 (hp.objs.size + 1) = none := I1.hok.fresh hsz
  have hq := q1 (hp.objs.size + 1) hn
  have kk : ∀ b o, hp.get? b = some o → ((hp.push (PySem.W.kdv_tup [])).push (PySem.HandSPX.excO C hp.objs.size)).get? b = some o := fun b o e => Heap.get?_push_of_some _ (Heap.get?_push_of_some _ e)
  have hget : ((hp.push (PySem.W.kdv_tup [])).push (PySem.HandSPX.excO C hp.objs.size)).get? (hp.objs.size + 1) = some (PySem.HandSPX.excO C hp.objs.size) := by heap_get
  have I2 : Inv X pins σ (upd H1 (hp.objs.size + 1) (exo (hp.objs.size + 1) C none)) ⟨(hp.push (PySem.W.kdv_tup [])).push (PySem.HandSPX.excO C hp.objs.size), g, dr, tk, os⟩ :=
    I1.laid (t' := tk) (a := hp.objs.size + 1) (o := exo (hp.objs.size + 1) C none) (h' := (hp.push (PySem.W.kdv_tup [])).push (PySem.HandSPX.excO C hp.objs.size)) kk hsz (exo_ok hget)
  have r0 : Vals [V.ref (hp.objs.size + 1)] [Value.ref (hp.objs.size + 1)] := .cons rfl .nil
  have r2 := hb.rel r0 r1
  have hl : (gg [Value.ref (hp.objs.size + 1)] ws).length = ps.length := by
    have e := r2.length
    rw [F1.len _ _ _ _ hq] at e
    exact e.symm
  refine wpAny_call (PySem.HandSPX.call_ownK F.excBase_ValueError (fun Y => PySem.HandSPX.refsVE_contains Y bm hbm) (I1.kIn _ _ hC) (PySem.W.looks_findIn I1.kIn iC) (fun self => PySem.W.bind_fn I1.kIn self tI) (Nat.zero_le _)
    (codeAny_mono (F1.run _ X.stack _ _ ⟨[Value.ref (hp.objs.size + 1)], ks.zip ws⟩ (gg [Value.ref (hp.objs.size + 1)] ws) _ _ (fun _ _ _ => False) (hr.make C [] (ks.zip ws)) (I2.env0.make C [] (ks.zip ws)) (hb.to _ [Value.ref (hp.objs.size + 1)] ws I2.kIn hl) r2 hq) fun r s' hq' => ?_))
  cases r with
  | error er => exact hx pins σ _ _ er s' I2 hq'
  | ok fl =>
    cases fl with
    | ret u =>
      obtain ⟨v, H2, os2, bare2, un2, hok2, rv, ev, d, fs, ea, ed, hd1, q2⟩ := hq'
      subst ev
      obtain ⟨h2, g2, d2, t2, os'⟩ := s'
      exact ⟨rv, mk_end (raises_own T.exC T.tyC) I1 hsz kk un2 hok2 os2 bare2 ea ed hd1 q2⟩
    | next => exact False.elim hq'
    | brk => exact False.elim hq'
    | cont => exact False.elim hq'
end
end L2
namespace Mi
open PySem PySem.Spec L2 PyProof.Rows
section
variable {W : Wd} {E : XK} {X : Cx} {e : Expr} {st : Stmt}
theorem allC {P : String → Prop} {a : String} {l : List String} (h : P a) (k : ∀ C ∈ l, P C) : ∀ C ∈ a :: l, P C := fun C hC => by
  rcases List.mem_cons.mp hC with rfl | hC
  · exact h
  · exact k C hC
def spXI2 (K : PySem.W.Frag) (f1 f2 : Str) : Sp := fun vs H Q _ => ∃ a C v1 v2, vs = [.ref a, v1, v2] ∧ OexC K C ∧ PySem.W.findIn K (.ref C) f1 = some none ∧ PySem.W.findIn K (.ref C) f2 = some none ∧ H a = some (exo a C none) ∧
  ∀ dx, H dx = none → dx ≠ a → Q .non (upd (upd (upd H dx (exd dx [(f1, v1)])) a (exo a C (some dx))) dx (exd dx [(f2, v2), (f1, v1)]))
theorem spXI2_len {K : PySem.W.Frag} {f1 f2 : Str} {vs : List V} {H : Hp} {Q : VK} {E : XK} (h : spXI2 K f1 f2 vs H Q E) : vs.length = 3 := by
  obtain ⟨a, C, v1, v2, rfl, _⟩ := h
  rfl
theorem pureXI2 {K : PySem.W.Frag} {f1 f2 a0 a1 a2 m : Str} {vs : List V} {H : Hp} {E : XK} (h : spXI2 K f1 f2 vs H Q E) : tSeq (tDrop (tVeI K (tCons (tVar 0) (tCons (tC (.str m)) tNil)))) (tSeq (tOst K f1 (tVar 0) (tVar 1)) (tOst K f2 (tVar 0) (tVar 2))) { nx := fun _ H' => Q .non H', rt := Q } (L2.start [a0, a1, a2] vs) H := by
  obtain ⟨a, C, v1, v2, rfl, o, n1, n2, ha, q⟩ := h
  refine ⟨.ref a, rfl, a, C, [.str m], rfl, by simp, o, ha, ?_⟩
  refine ⟨v1, rfl, .ref a, rfl, a, C, rfl, o, n1, .inl ⟨ha, fun dx h1 h2 => ?_⟩⟩
  refine ⟨v2, rfl, .ref a, rfl, a, C, rfl, o, n2, .inr ⟨dx, [(f1, v1)], upd_same, by rw [upd_ne h2, upd_same], by simp, q dx h1 h2⟩⟩
theorem mk_close {c1 : Cf} {C : String} {g dx : Addr} {ks : List Str} {xs : List V} {ds : List D} {Q : VK} (hC : W.cm C = some g) (ok1 : Ok W c1) (h1' : c1.H dx = none) (hl : ks.length = xs.length) (r : DpA W c1 xs ds) (w1 : Wp W (Dp W) (.ok (.exc C ks ds) c1.μ) c1 Q E) :
    ∀ b, (upd c1.H dx (.xd (fsL ks xs))) b = none → Q (.ref b) (upd (upd c1.H dx (.xd (fsL ks xs))) b (Cs.XO (.ref g) (some dx) b)) := by
  obtain ⟨ok3, s3⟩ := step_new (o := .xd (fsL ks xs)) ok1 h1'
  intro b hb
  obtain ⟨ok4, s4⟩ := step_new (o := Cs.XO (.ref g) (some dx) b) ok3 hb
  have rr : Dp W ((c1.to (upd c1.G dx (.xd (fsL ks xs))) (upd c1.H dx (.xd (fsL ks xs)))).to (upd (upd c1.G dx (.xd (fsL ks xs))) b (Cs.XO (.ref g) (some dx) b)) (upd (upd c1.H dx (.xd (fsL ks xs))) b (Cs.XO (.ref g) (some dx) b))) (.ref b) (.exc C ks ds) := by
    refine .exc hC upd_same (fun dx' z => ?_) (fun z => by cases z) hl (dpa_mono s4.le (dpa_mono s3.le r))
    cases z
    exact s4.le.g _ _ upd_same
  exact w1 (.ref b) ((c1.to (upd c1.G dx (.xd (fsL ks xs))) (upd c1.H dx (.xd (fsL ks xs)))).to (upd (upd c1.G dx (.xd (fsL ks xs))) b (Cs.XO (.ref g) (some dx) b)) (upd (upd c1.H dx (.xd (fsL ks xs))) b (Cs.XO (.ref g) (some dx) b))) rfl (s3.trans s4) ok4 rr
theorem mk_heap {H : Hp} {a dx g : Addr} {u : HO} {fs : List (Str × V)} (ha : H a = none) (h2 : dx ≠ a) (e : ∀ b, b ≠ dx → b ≠ a → u = u) {H' : Hp} (hh : ∀ b, b ≠ dx → b ≠ a → H' b = H b) : upd (del H' a) dx (.xd fs) = upd H dx (.xd fs) := by
  funext b
  by_cases hb : b = dx
  · rw [hb, upd_same, upd_same]
  · rw [upd_ne hb, upd_ne hb]
    by_cases hc : b = a
    · rw [hc, del_same]; exact ha.symm
    · rw [del_ne hc, hh b hb hc]
theorem mk_one {f : Str} {g a dx : Addr} {v : V} {H : Hp} (ha : H a = none) (h2 : dx ≠ a) : upd (del (upd (upd (upd H a (exo a g none)) dx (exd dx [(f, v)])) a (exo a g (some dx))) a) dx (.xd [(f, v)]) = upd H dx (.xd [(f, v)]) :=
  mk_heap (g := g) (u := .own a) ha h2 (fun _ _ _ => rfl) fun b h3 h4 => by rw [upd_ne h4, upd_ne h3, upd_ne h4]
theorem mk_two {f1 f2 : Str} {g a dx : Addr} {v1 v2 : V} {H : Hp} (ha : H a = none) (h2 : dx ≠ a) : upd (del (upd (upd (upd (upd H a (exo a g none)) dx (exd dx [(f1, v1)])) a (exo a g (some dx))) dx (exd dx [(f2, v2), (f1, v1)])) a) dx (.xd [(f2, v2), (f1, v1)]) = upd H dx (.xd [(f2, v2), (f1, v1)]) :=
  mk_heap (g := g) (u := .own a) ha h2 (fun _ _ _ => rfl) fun b h3 h4 => by rw [upd_ne h3, upd_ne h4, upd_ne h3, upd_ne h4]
def mMkX1 (C : String) (f : Str) (a : MA) : ME := fun ρ μ => (a ρ μ).bind fun ds μ => match ds with
  | [d] => .ok (.exc C [f] [d]) μ
  | _ => .bad
theorem me_mkX1 {C : String} {f : Str} {g : Addr} {a : MA} (hC : W.cm C = some g) (o : OexC W.K g) (hn : PySem.W.findIn W.K (.ref g) f = some none) (h : PE X e (tMkX (tMkO g (spXI W.K f) [] (tA W E a)))) : PE X e (tE W E (mMkX1 C f a)) := pe_weak h fun σ H Q ⟨ρ, c, hH, ok, env, w⟩ =>
  ⟨ρ, c, hH, ok, env, wp_bind w fun vs ds c1 s1 ok1 r1 w1 => by
    split at w1
    · rename_i d
      cases r1 with
      | @cons v _ _ _ r1 r2 =>
        cases r2
        refine ⟨by simp, fun a ha => ?_⟩
        rw [List.append_nil]
        refine ⟨a, g, v, rfl, o, hn, upd_same, fun dx h1 h2 => ⟨rfl, dx, [(f, v)], upd_same, by rw [upd_ne h2, upd_same], ?_, ?_⟩⟩
        · rw [upd_ne h2] at h1; exact h1
        · rw [mk_one ha h2]
          exact mk_close (ks := [f]) (xs := [v]) hC ok1 (by rw [upd_ne h2] at h1; exact h1) rfl (.cons r1 .nil) w1
    · exact w1.elim⟩
def mMkX2 (C : String) (f1 f2 : Str) (a : MA) : ME := fun ρ μ => (a ρ μ).bind fun ds μ => match ds with
  | [d1, d2] => .ok (.exc C [f2, f1] [d2, d1]) μ
  | _ => .bad
theorem me_mkX2 {C : String} {f1 f2 : Str} {g : Addr} {a : MA} (hC : W.cm C = some g) (o : OexC W.K g) (hn : PySem.W.findIn W.K (.ref g) f1 = some none) (hn2 : PySem.W.findIn W.K (.ref g) f2 = some none) (h : PE X e (tMkX (tMkO g (spXI2 W.K f1 f2) [] (tA W E a)))) : PE X e (tE W E (mMkX2 C f1 f2 a)) := pe_weak h fun σ H Q ⟨ρ, c, hH, ok, env, w⟩ =>
  ⟨ρ, c, hH, ok, env, wp_bind w fun vs ds c1 s1 ok1 r1 w1 => by
    split at w1
    · rename_i d1 d2
      cases r1 with
      | @cons v1 _ _ _ r1 r2 =>
        cases r2 with
        | @cons v2 _ _ _ r2 r3 =>
          cases r3
          refine ⟨by simp, fun a ha => ?_⟩
          rw [List.append_nil]
          refine ⟨a, g, v1, v2, rfl, o, hn, hn2, upd_same, fun dx h1 h2 => ⟨rfl, dx, [(f2, v2), (f1, v1)], by rw [upd_ne (Ne.symm h2), upd_same], upd_same, ?_, ?_⟩⟩
          · rw [upd_ne h2] at h1; exact h1
          · rw [mk_two ha h2]
            exact mk_close (ks := [f2, f1]) (xs := [v2, v1]) hC ok1 (by rw [upd_ne h2] at h1; exact h1) rfl (.cons r2 (.cons r1 .nil)) w1
    · exact w1.elim⟩
theorem me_mkXK1 {C : String} {f : Str} {g : Addr} {a : MA} (hC : W.cm C = some g) (o : OexC W.K g) (hn : PySem.W.findIn W.K (.ref g) f = some none) (h : PE X e (tMkX (tMkOK g 1 (spXI W.K f) (pkI 1 1 [0, 1]) (tA W E a)))) : PE X e (tE W E (mMkX1 C f a)) := pe_weak h fun σ H Q ⟨ρ, c, hH, ok, env, w⟩ =>
  ⟨ρ, c, hH, ok, env, wp_bind w fun vs ds c1 s1 ok1 r1 w1 => by
    split at w1
    · rename_i d
      cases r1 with
      | @cons v _ _ _ r1 r2 =>
        cases r2
        refine ⟨rfl, fun a ha => ?_⟩
        refine ⟨a, g, v, rfl, o, hn, upd_same, fun dx h1 h2 => ⟨rfl, dx, [(f, v)], upd_same, by rw [upd_ne h2, upd_same], ?_, ?_⟩⟩
        · rw [upd_ne h2] at h1; exact h1
        · rw [mk_one ha h2]
          exact mk_close (ks := [f]) (xs := [v]) hC ok1 (by rw [upd_ne h2] at h1; exact h1) rfl (.cons r1 .nil) w1
    · exact w1.elim⟩
def mMkX2r (C : String) (f1 f2 : Str) (a : MA) : ME := fun ρ μ => (a ρ μ).bind fun ds μ => match ds with
  | [d2, d1] => .ok (.exc C [f2, f1] [d2, d1]) μ
  | _ => .bad
theorem me_mkXK2 {C : String} {f1 f2 : Str} {g : Addr} {a : MA} (hC : W.cm C = some g) (o : OexC W.K g) (hn : PySem.W.findIn W.K (.ref g) f1 = some none) (hn2 : PySem.W.findIn W.K (.ref g) f2 = some none) (h : PE X e (tMkX (tMkOK g 2 (spXI2 W.K f1 f2) (pkI 1 2 [0, 2, 1]) (tA W E a)))) : PE X e (tE W E (mMkX2r C f1 f2 a)) := pe_weak h fun σ H Q ⟨ρ, c, hH, ok, env, w⟩ =>
  ⟨ρ, c, hH, ok, env, wp_bind w fun vs ds c1 s1 ok1 r1 w1 => by
    split at w1
    · rename_i d2 d1
      cases r1 with
      | @cons v2 _ _ _ r2 r1 =>
        cases r1 with
        | @cons v1 _ _ _ r1 r3 =>
          cases r3
          refine ⟨rfl, fun a ha => ?_⟩
          refine ⟨a, g, v1, v2, rfl, o, hn, hn2, upd_same, fun dx h1 h2 => ⟨rfl, dx, [(f2, v2), (f1, v1)], by rw [upd_ne (Ne.symm h2), upd_same], upd_same, ?_, ?_⟩⟩
          · rw [upd_ne h2] at h1; exact h1
          · rw [mk_two ha h2]
            exact mk_close (ks := [f2, f1]) (xs := [v2, v1]) hC ok1 (by rw [upd_ne h2] at h1; exact h1) rfl (.cons r2 (.cons r1 .nil)) w1
    · exact w1.elim⟩
def mMkX0 (C : String) : ME := fun _ μ => .ok (.exc C [] []) μ
theorem me_mkX0 {C : String} {g : Addr} (hC : W.cm C = some g) (h : PE X e (tMkX fun σ H Q => Q (.ref g) none H)) : PE X e (tE W E (mMkX0 C)) := pe_weak h fun σ H Q ⟨ρ, c, hH, ok, env, w⟩ => by
  subst hH
  intro b hb
  obtain ⟨ok4, s4⟩ := step_new (o := Cs.XO (.ref g) none b) ok hb
  have rr : Dp W (c.to (upd c.G b (Cs.XO (.ref g) none b)) (upd c.H b (Cs.XO (.ref g) none b))) (.ref b) (.exc C [] []) := .exc hC upd_same (fun _ z => by cases z) (fun _ => rfl) (xs := []) rfl .nil
  exact w (.ref b) (c.to (upd c.G b (Cs.XO (.ref g) none b)) (upd c.H b (Cs.XO (.ref g) none b))) rfl s4 ok4 rr
end
end Mi
namespace K06
open PySem PySem.Spec L2 Mi
noncomputable def b_Lmarks : MS := (mSeq (mSet 1 (mLst false (mCons (mUn (fIsS (.cls "BadParameter")) (mVar 0)) (mCons (mUn (fIsS (.cls "BadSignature")) (mVar 0)) (mCons (mUn (fIsS (.cls "NoName")) (mVar 0)) mNil)))))
  (mSeq (mSet 1 (mOp (fAdd false) (mVar 1) (mLst false (mCons (mUn (fIsS (.cls "BadCall")) (mVar 0)) (mCons (mUn (fIsS (.cls "BadPiece")) (mVar 0)) (mCons (mUn (fIsS (.cls "Repeated")) (mVar 0)) mNil))))))
  (mSeq (mSet 1 (mOp (fAdd false) (mVar 1) (mLst false (mCons (mUn (fIsS (.cls "Refused")) (mVar 0)) (mCons (mUn (fIsS (.cls "BadRow")) (mVar 0)) (mCons (mUn (fIsS (.cls "BadCounts")) (mVar 0)) mNil))))))
  (mSeq (mSet 1 (mOp (fAdd false) (mVar 1) (mLst false (mCons (mUn (fIsS (.cls "NothingBinds")) (mVar 0)) (mCons (mUn (fIsS (.cls "BadChain")) (mVar 0)) (mCons (mUn (fIsS (.cls "Stopped")) (mVar 0)) mNil))))))
  (mSeq (mSet 1 (mOp (fAdd false) (mVar 1) (mLst false (mCons (mUn (fIsS (.cls "BadVariants")) (mVar 0)) (mCons (mUn (fIsS (.cls "BadVersions")) (mVar 0)) (mCons (mUn (fIsS (.cls "BadMoves")) (mVar 0)) mNil))))))
  (mSeq (mSet 1 (mOp (fAdd false) (mVar 1) (mLst false (mCons (mUn (fIsS (.cls "Breaks")) (mVar 0)) (mCons (mUn (fIsS (.cls "NoFunction")) (mVar 0)) (mCons (mUn (fIsS (.cls "NoSite")) (mVar 0)) mNil))))))
  (mRet (mOp (fAdd false) (mVar 1) (mLst false (mCons (mUn (fIsS (.cls "BadEntry")) (mVar 0)) (mCons (mUn (fIsS (.cls "BadText")) (mVar 0)) mNil)))))))))))
noncomputable def m_Lmarks : List D → Store → Res D := mFn 2 1 b_Lmarks
noncomputable def b_Lapart : MS := (mSeq (mFor (miEnum (mCons (mVar 0) mNil)) (mgTup 2 (mgCons (mgName 1) (mgCons (mgName 2) mgNil))) (mSeq (mIfS (mOr (mNot (mB (mUn (fIsS (.cls "CallError")) (mVar 2)))) (mNot (mB (mUn (fIsS (.ty "ValueError")) (mVar 2))))) (mRet (mC (.bl false))) mNext)
  (mIfS (mB (mOp (fEq true) (mLc false (miEnum (mCons (mCall m_Lmarks (mCons (mVar 2) mNil)) mNil)) (lgTup2 3 4) (mB (mVar 4)) (mVar 3) [3, 4]) (mLst false (mCons (mVar 1) mNil)))) (mRet (mC (.bl false))) mNext)))
  (mRet (mC (.bl true))))
noncomputable def m_Lapart : List D → Store → Res D := mFn 5 1 b_Lapart
noncomputable def b_Lbegin : MS := (mRet (mLst true (mCons (mCb fMax2 (mCons (mC (.int 0)) (mCons (mOp (fI2 fun i j => .int (i - j)) (mVar 0) (mOp (fI2c Cs.CPowW fun i j => .int (i ^ j.toNat)) (mC (.int 10)) (mC (.int 18)))) mNil))) (mCons (mOp (fAdd false) (mVar 0) (mOp (fMul false) (mC (.int 977)) (mVar 1))) (mCons (mC (.int 0)) mNil)))))
noncomputable def m_Lbegin : List D → Store → Res D := mFn 2 2 b_Lbegin
noncomputable def b_Lby_position : MS := (mSeq (mSet 2 (mLst false (mCons (mMkX0 "BadParameter") (mCons (mMkX1 "BadSignature" "index" (mCons (mVar 0) mNil)) (mCons (mMkX1 "NoName" "name" (mCons (mVar 0) mNil)) (mCons (mMkX0 "BadCall") (mCons (mMkX1 "BadPiece" "index" (mCons (mVar 0) mNil)) (mCons (mMkX1 "Repeated" "name" (mCons (mVar 0) mNil)) mNil))))))))
  (mSeq (mSet 2 (mOp (fAdd false) (mVar 2) (mLst false (mCons (mMkX1 "Refused" "obstruction" (mCons (mVar 0) mNil)) (mCons (mMkX1 "BadRow" "index" (mCons (mVar 0) mNil)) (mCons (mMkX0 "BadCounts") (mCons (mMkX0 "NothingBinds") (mCons (mMkX1 "BadChain" "index" (mCons (mVar 0) mNil)) (mCons (mMkX2 "Stopped" "index" "reason" (mCons (mVar 0) (mCons (mVar 1) mNil))) mNil)))))))))
  (mSeq (mSet 2 (mOp (fAdd false) (mVar 2) (mLst false (mCons (mMkX1 "BadVariants" "index" (mCons (mVar 0) mNil)) (mCons (mMkX1 "BadVersions" "index" (mCons (mVar 0) mNil)) (mCons (mMkX1 "BadMoves" "index" (mCons (mVar 0) mNil)) (mCons (mMkX1 "Breaks" "numbers" (mCons (mVar 0) mNil)) (mCons (mMkX1 "NoFunction" "name" (mCons (mVar 0) mNil)) (mCons (mMkX1 "NoSite" "number" (mCons (mVar 0) mNil)) mNil)))))))))
  (mRet (mOp (fAdd false) (mVar 2) (mLst false (mCons (mMkX1 "BadEntry" "index" (mCons (mVar 0) mNil)) (mCons (mMkX1 "BadText" "index" (mCons (mVar 0) mNil)) mNil))))))))
noncomputable def m_Lby_position : List D → Store → Res D := mFn 3 2 b_Lby_position
noncomputable def b_Lby_word : MS := (mSeq (mSet 2 (mLst false (mCons (mMkX0 "BadParameter") (mCons (mMkX1 "BadSignature" "index" (mCons (mVar 0) mNil)) (mCons (mMkX1 "NoName" "name" (mCons (mVar 0) mNil)) (mCons (mMkX0 "BadCall") (mCons (mMkX1 "BadPiece" "index" (mCons (mVar 0) mNil)) mNil)))))))
  (mSeq (mSet 2 (mOp (fAdd false) (mVar 2) (mLst false (mCons (mMkX1 "Repeated" "name" (mCons (mVar 0) mNil)) (mCons (mMkX1 "Refused" "obstruction" (mCons (mVar 0) mNil)) (mCons (mMkX1 "BadRow" "index" (mCons (mVar 0) mNil)) (mCons (mMkX0 "BadCounts") mNil)))))))
  (mSeq (mSet 2 (mOp (fAdd false) (mVar 2) (mLst false (mCons (mMkX0 "NothingBinds") (mCons (mMkX1 "BadChain" "index" (mCons (mVar 0) mNil)) (mCons (mMkX2r "Stopped" "index" "reason" (mCons (mVar 1) (mCons (mVar 0) mNil))) (mCons (mMkX1 "BadVariants" "index" (mCons (mVar 0) mNil)) mNil)))))))
  (mSeq (mSet 2 (mOp (fAdd false) (mVar 2) (mLst false (mCons (mMkX1 "BadVersions" "index" (mCons (mVar 0) mNil)) (mCons (mMkX1 "BadMoves" "index" (mCons (mVar 0) mNil)) (mCons (mMkX1 "Breaks" "numbers" (mCons (mVar 0) mNil)) (mCons (mMkX1 "NoFunction" "name" (mCons (mVar 0) mNil)) mNil)))))))
  (mRet (mOp (fAdd false) (mVar 2) (mLst false (mCons (mMkX1 "NoSite" "number" (mCons (mVar 0) mNil)) (mCons (mMkX1 "BadEntry" "index" (mCons (mVar 0) mNil)) (mCons (mMkX1 "BadText" "index" (mCons (mVar 0) mNil)) mNil))))))))))
noncomputable def m_Lby_word : List D → Store → Res D := mFn 3 2 b_Lby_word
noncomputable def b_Lfields : MS := (mSeq (mSet 1 (mLst false (mCons (mFldX ["BadSignature", "BadPiece", "BadRow", "BadChain", "Stopped", "BadVariants", "BadVersions", "BadMoves", "BadEntry", "BadText"] "index" (mOp fIx (mVar 0) (mC (.int 1)))) (mCons (mFldX ["NoName", "Repeated", "NoFunction"] "name" (mOp fIx (mVar 0) (mC (.int 2)))) (mCons (mFldX ["BadSignature", "BadPiece", "BadRow", "BadChain", "Stopped", "BadVariants", "BadVersions", "BadMoves", "BadEntry", "BadText"] "index" (mOp fIx (mVar 0) (mC (.int 4)))) (mCons (mFldX ["NoName", "Repeated", "NoFunction"] "name" (mOp fIx (mVar 0) (mC (.int 5)))) (mCons (mFldX ["Refused"] "obstruction" (mOp fIx (mVar 0) (mC (.int 6)))) (mCons (mFldX ["BadSignature", "BadPiece", "BadRow", "BadChain", "Stopped", "BadVariants", "BadVersions", "BadMoves", "BadEntry", "BadText"] "index" (mOp fIx (mVar 0) (mC (.int 7)))) mNil))))))))
  (mSeq (mSet 1 (mOp (fAdd false) (mVar 1) (mLst false (mCons (mFldX ["BadSignature", "BadPiece", "BadRow", "BadChain", "Stopped", "BadVariants", "BadVersions", "BadMoves", "BadEntry", "BadText"] "index" (mOp fIx (mVar 0) (mC (.int 10)))) (mCons (mFldX ["BadSignature", "BadPiece", "BadRow", "BadChain", "Stopped", "BadVariants", "BadVersions", "BadMoves", "BadEntry", "BadText"] "index" (mOp fIx (mVar 0) (mC (.int 11)))) (mCons (mFldX ["Stopped"] "reason" (mOp fIx (mVar 0) (mC (.int 11)))) (mCons (mFldX ["BadSignature", "BadPiece", "BadRow", "BadChain", "Stopped", "BadVariants", "BadVersions", "BadMoves", "BadEntry", "BadText"] "index" (mOp fIx (mVar 0) (mC (.int 12)))) (mCons (mFldX ["BadSignature", "BadPiece", "BadRow", "BadChain", "Stopped", "BadVariants", "BadVersions", "BadMoves", "BadEntry", "BadText"] "index" (mOp fIx (mVar 0) (mC (.int 13)))) mNil))))))))
  (mSeq (mSet 1 (mOp (fAdd false) (mVar 1) (mLst false (mCons (mFldX ["BadSignature", "BadPiece", "BadRow", "BadChain", "Stopped", "BadVariants", "BadVersions", "BadMoves", "BadEntry", "BadText"] "index" (mOp fIx (mVar 0) (mC (.int 14)))) (mCons (mFldX ["Breaks"] "numbers" (mOp fIx (mVar 0) (mC (.int 15)))) (mCons (mFldX ["NoName", "Repeated", "NoFunction"] "name" (mOp fIx (mVar 0) (mC (.int 16)))) (mCons (mFldX ["NoSite"] "number" (mOp fIx (mVar 0) (mC (.int 17)))) (mCons (mFldX ["BadSignature", "BadPiece", "BadRow", "BadChain", "Stopped", "BadVariants", "BadVersions", "BadMoves", "BadEntry", "BadText"] "index" (mOp fIx (mVar 0) (mC (.int 18)))) mNil))))))))
  (mRet (mOp (fAdd false) (mVar 1) (mLst false (mCons (mFldX ["BadSignature", "BadPiece", "BadRow", "BadChain", "Stopped", "BadVariants", "BadVersions", "BadMoves", "BadEntry", "BadText"] "index" (mOp fIx (mVar 0) (mC (.int 19)))) mNil)))))))
noncomputable def m_Lfields : List D → Store → Res D := mFn 2 1 b_Lfields
noncomputable def b_Ldraw : MS := (mSeq (mIfS (mB (mOp (fI2 fun i j => .bl (decide (j < i))) (mOp fIx (mVar 0) (mC (.int 0))) (mC (.int 0)))) (mSeq (mSet 2 (mOp (fI2c (fun _ j => j ≠ 0) fun i j => .int (i.fmod j)) (mOp fIx (mVar 0) (mC (.int 0))) (mVar 1)))
  (mSeq (mAsg (mOp (fI2c CDivN fun i j => .int (i.fdiv j)) (mOp fIx (mVar 0) (mC (.int 0))) (mVar 1)) (mgSubL (mVar 0) (mC (.int 0))))
  (mRet (mVar 2)))) mNext)
  (mSeq (mAsg (mOp (fAdd false) (mOp fIx (mVar 0) (mC (.int 2))) (mC (.int 1))) (mgSubL (mVar 0) (mC (.int 2))))
  (mSeq (mSet 2 (mOp (fAdd false) (mOp (fI2c (fun _ j => j ≠ 0) fun i j => .int (i.fmod j)) (mOp fIx (mVar 0) (mC (.int 1))) (mC (.int 2147483629))) (mOp (fMul false) (mC (.int 104729)) (mOp fIx (mVar 0) (mC (.int 2))))))
  (mSeq (mSet 2 (mOp (fMul false) (mVar 2) (mOp (fAdd false) (mOp (fAdd false) (mOp (fI2c (fun _ j => j ≠ 0) fun i j => .int (i.fmod j)) (mOp fIx (mVar 0) (mC (.int 1))) (mC (.int 2147483587))) (mOp (fMul false) (mOp (fMul false) (mC (.int 7919)) (mOp fIx (mVar 0) (mC (.int 2)))) (mOp fIx (mVar 0) (mC (.int 2))))) (mC (.int 11)))))
  (mRet (mOp (fI2c (fun _ j => j ≠ 0) fun i j => .int (i.fmod j)) (mOp (fI2c CDivN fun i j => .int (i.fdiv j)) (mOp (fI2c (fun _ j => j ≠ 0) fun i j => .int (i.fmod j)) (mOp (fI2c Cs.CPowW fun i j => .int (i ^ j.toNat)) (mVar 2) (mC (.int 3))) (mC (.int 2147483647))) (mC (.int 11))) (mVar 1)))))))
noncomputable def m_Ldraw : List D → Store → Res D := mFn 3 2 b_Ldraw
noncomputable def b_Lpick : MS := (mRet (mOp fIx (mVar 1) (mCall m_Ldraw (mCons (mVar 0) (mCons (mCb fLen (mCons (mVar 1) mNil)) mNil)))))
noncomputable def m_Lpick : List D → Store → Res D := mFn 2 2 b_Lpick
noncomputable def b_law : MS := (mSeq (mFor (miEnum (mCons (mSl false (mOrT (mVar 0) (mLst false (mCons (mC (.int 5)) mNil))) moNone (moSome (mC (.int 4)))) mNil)) (mgTup 2 (mgCons (mgName 1) (mgCons (mgName 2) mgNil))) (mSeq (mSet 3 (mCall m_Lbegin (mCons (mVar 2) (mCons (mVar 1) mNil))))
  (mSeq (mSet 4 (mLst false (mCons (mC (.int 0)) (mCons (mUn fNeg (mC (.int 1))) (mCons (mC (.int 7)) (mCons (mOp (fI2c Cs.CPowW fun i j => .int (i ^ j.toNat)) (mC (.int 10)) (mC (.int 12))) (mCons (mC (.bl true)) (mCons (mC .non) (mCons (mC (.str "a")) (mCons (mC (.str "")) (mCons (mC (.str "self")) (mCons (mTup mNil) (mCons (mTup (mCons (mC (.int 1)) (mCons (mC (.str "b")) mNil))) (mCons (mTup (mCons (mC (.str "lacks")) (mCons (mC (.str "a")) mNil))) (mCons (mDNew false) (mCons (mLst false (mCons (mC (.int 3)) mNil)) mNil))))))))))))))))
  (mSeq (mSet 4 (mOp (fAdd false) (mVar 4) (mLst false (mCons (mDisp false [((mC (.str "a")), (mC (.int 1)))]) (mCons (mTup (mCons (mC (.str "many")) (mCons (mC (.int 2)) (mCons (mC (.int 5)) mNil)))) (mCons (mTup (mCons (mC (.int 4)) (mCons (mC (.int 7)) mNil))) (mCons (mTup (mCons (mC (.str "twice")) (mCons (mC (.str "x")) mNil))) (mCons (mLst false mNil) mNil))))))))
  (mSeq (mAsg (mLc false (miRng1 (mCons (mC (.int 2)) mNil)) (lgName 7) mYes (mCall m_Lpick (mCons (mVar 3) (mCons (mVar 4) mNil))) [7]) (mgLst 2 (mgCons (mgName 5) (mgCons (mgName 6) mgNil))))
  (mSeq (mSet 8 (mOp (fAdd false) (mOp (fAdd false) (mOp (fMul false) (mLst true (mCons (mVar 5) mNil)) (mC (.int 8))) (mLst false (mCons (mVar 6) mNil))) (mOp (fMul false) (mLst true (mCons (mVar 5) mNil)) (mC (.int 8)))))
  (mFor (miAny (mLst false (mCons (mCall m_Lby_position (mCons (mVar 5) (mCons (mVar 6) mNil))) (mCons (mCall m_Lby_word (mCons (mVar 5) (mCons (mVar 6) mNil))) mNil)))) (mgName 9) (mIfS (mOr (mB (mOp (fEq true) (mCb fLen (mCons (mVar 9) mNil)) (mC (.int 20)))) (mOr (mNot (mB (mCall m_Lapart (mCons (mVar 9) mNil)))) (mB (mOp (fEq true) (mCb fRepr (mCons (mCall m_Lfields (mCons (mVar 9) mNil)) mNil)) (mCb fRepr (mCons (mVar 8) mNil)))))) (mRet (mC (.bl false))) mNext))))))))
  (mRet (mC (.bl true))))
noncomputable def m_law : List D → Store → Res D := mFn 10 1 b_law
end K06
namespace K06
open PySem PySem.Spec L2 Mi
def top (i : Nat) : Stmt := PySem.Challenge.pw_callstairs_k06_errors_apart.main.body.getD i (.Pass ⟨0, 0, 0, 0⟩)
abbrev s_Lmarks : Stmt := (top 26)
abbrev s_Lapart : Stmt := (top 30)
abbrev s_Lbegin : Stmt := (top 23)
abbrev s_BadChain_dinitd : Stmt := (inClass (top 12) 0)
abbrev s_BadEntry_dinitd : Stmt := (inClass (top 20) 0)
abbrev s_BadMoves_dinitd : Stmt := (inClass (top 16) 0)
abbrev s_BadPiece_dinitd : Stmt := (inClass (top 6) 0)
abbrev s_BadRow_dinitd : Stmt := (inClass (top 9) 0)
abbrev s_BadSignature_dinitd : Stmt := (inClass (top 3) 0)
abbrev s_BadText_dinitd : Stmt := (inClass (top 21) 0)
abbrev s_BadVariants_dinitd : Stmt := (inClass (top 14) 0)
abbrev s_BadVersions_dinitd : Stmt := (inClass (top 15) 0)
abbrev s_Breaks_dinitd : Stmt := (inClass (top 17) 0)
abbrev s_NoFunction_dinitd : Stmt := (inClass (top 18) 0)
abbrev s_NoName_dinitd : Stmt := (inClass (top 4) 0)
abbrev s_NoSite_dinitd : Stmt := (inClass (top 19) 0)
abbrev s_Refused_dinitd : Stmt := (inClass (top 8) 0)
abbrev s_Repeated_dinitd : Stmt := (inClass (top 7) 0)
abbrev s_Stopped_dinitd : Stmt := (inClass (top 13) 0)
abbrev s_Lby_position : Stmt := (top 27)
abbrev s_Lby_word : Stmt := (top 28)
abbrev s_Lfields : Stmt := (top 29)
abbrev s_Ldraw : Stmt := (top 24)
abbrev s_Lpick : Stmt := (top 25)
abbrev s_law : Stmt := (top 31)
theorem hu66 {k : Nat} {A : Around} (r : Room k A) : A.units + 66 < cLine := by have := r.un; omega
structure Tx (K : PySem.W.Frag) (mg : Str → Option Value) (w : World) (base : Heap) where
  c_CallError : Addr
  g_CallError : mg "CallError" = some (.ref c_CallError)
  c_BadParameter : Addr
  g_BadParameter : mg "BadParameter" = some (.ref c_BadParameter)
  c_BadSignature : Addr
  g_BadSignature : mg "BadSignature" = some (.ref c_BadSignature)
  c_NoName : Addr
  g_NoName : mg "NoName" = some (.ref c_NoName)
  c_BadCall : Addr
  g_BadCall : mg "BadCall" = some (.ref c_BadCall)
  c_BadPiece : Addr
  g_BadPiece : mg "BadPiece" = some (.ref c_BadPiece)
  c_Repeated : Addr
  g_Repeated : mg "Repeated" = some (.ref c_Repeated)
  c_Refused : Addr
  g_Refused : mg "Refused" = some (.ref c_Refused)
  c_BadRow : Addr
  g_BadRow : mg "BadRow" = some (.ref c_BadRow)
  c_BadCounts : Addr
  g_BadCounts : mg "BadCounts" = some (.ref c_BadCounts)
  c_NothingBinds : Addr
  g_NothingBinds : mg "NothingBinds" = some (.ref c_NothingBinds)
  c_BadChain : Addr
  g_BadChain : mg "BadChain" = some (.ref c_BadChain)
  c_Stopped : Addr
  g_Stopped : mg "Stopped" = some (.ref c_Stopped)
  c_BadVariants : Addr
  g_BadVariants : mg "BadVariants" = some (.ref c_BadVariants)
  c_BadVersions : Addr
  g_BadVersions : mg "BadVersions" = some (.ref c_BadVersions)
  c_BadMoves : Addr
  g_BadMoves : mg "BadMoves" = some (.ref c_BadMoves)
  c_Breaks : Addr
  g_Breaks : mg "Breaks" = some (.ref c_Breaks)
  c_NoFunction : Addr
  g_NoFunction : mg "NoFunction" = some (.ref c_NoFunction)
  c_NoSite : Addr
  g_NoSite : mg "NoSite" = some (.ref c_NoSite)
  c_BadEntry : Addr
  g_BadEntry : mg "BadEntry" = some (.ref c_BadEntry)
  c_BadText : Addr
  g_BadText : mg "BadText" = some (.ref c_BadText)
  a_Lmarks : Addr
  fd_Lmarks : FuncData
  F_Lmarks : Fun K "_law_marks" "_law_marks" s_Lmarks a_Lmarks fd_Lmarks
  g_Lmarks : mg "_law_marks" = some (.ref a_Lmarks)
  k_Lmarks : PySem.W.keepIn K (.ref a_Lmarks) = true
  b_Lmarks : Binds K fd_Lmarks ["_law_error"] []
  a_Lapart : Addr
  fd_Lapart : FuncData
  F_Lapart : Fun K "_law_apart" "_law_apart" s_Lapart a_Lapart fd_Lapart
  g_Lapart : mg "_law_apart" = some (.ref a_Lapart)
  k_Lapart : PySem.W.keepIn K (.ref a_Lapart) = true
  b_Lapart : Binds K fd_Lapart ["_law_made"] []
  a_Lbegin : Addr
  fd_Lbegin : FuncData
  F_Lbegin : Fun K "_law_begin" "_law_begin" s_Lbegin a_Lbegin fd_Lbegin
  g_Lbegin : mg "_law_begin" = some (.ref a_Lbegin)
  k_Lbegin : PySem.W.keepIn K (.ref a_Lbegin) = true
  b_Lbegin : Binds K fd_Lbegin ["_law_cell", "_law_turn"] []
  a_BadChain_dinitd : Addr
  fd_BadChain_dinitd : FuncData
  F_BadChain_dinitd : Fun K "__init__" "BadChain.__init__" s_BadChain_dinitd a_BadChain_dinitd fd_BadChain_dinitd
  in_BadChain : PySem.W.findIn K (.ref c_BadChain) "__init__" = some (some (.ref a_BadChain_dinitd))
  ti_BadChain : PySem.W.typeIn K (.ref a_BadChain_dinitd) = some (.type "function")
  b_BadChain_dinitd : Binds K fd_BadChain_dinitd ["self", "index"] []
  kw_BadChain_dinitd_1_index : KBinds K fd_BadChain_dinitd ["self", "index"] ["index"] (pkI 1 1 [0, 1]) (pkI 1 1 [0, 1])
  a_BadEntry_dinitd : Addr
  fd_BadEntry_dinitd : FuncData
  F_BadEntry_dinitd : Fun K "__init__" "BadEntry.__init__" s_BadEntry_dinitd a_BadEntry_dinitd fd_BadEntry_dinitd
  in_BadEntry : PySem.W.findIn K (.ref c_BadEntry) "__init__" = some (some (.ref a_BadEntry_dinitd))
  ti_BadEntry : PySem.W.typeIn K (.ref a_BadEntry_dinitd) = some (.type "function")
  b_BadEntry_dinitd : Binds K fd_BadEntry_dinitd ["self", "index"] []
  kw_BadEntry_dinitd_1_index : KBinds K fd_BadEntry_dinitd ["self", "index"] ["index"] (pkI 1 1 [0, 1]) (pkI 1 1 [0, 1])
  a_BadMoves_dinitd : Addr
  fd_BadMoves_dinitd : FuncData
  F_BadMoves_dinitd : Fun K "__init__" "BadMoves.__init__" s_BadMoves_dinitd a_BadMoves_dinitd fd_BadMoves_dinitd
  in_BadMoves : PySem.W.findIn K (.ref c_BadMoves) "__init__" = some (some (.ref a_BadMoves_dinitd))
  ti_BadMoves : PySem.W.typeIn K (.ref a_BadMoves_dinitd) = some (.type "function")
  b_BadMoves_dinitd : Binds K fd_BadMoves_dinitd ["self", "index"] []
  kw_BadMoves_dinitd_1_index : KBinds K fd_BadMoves_dinitd ["self", "index"] ["index"] (pkI 1 1 [0, 1]) (pkI 1 1 [0, 1])
  a_BadPiece_dinitd : Addr
  fd_BadPiece_dinitd : FuncData
  F_BadPiece_dinitd : Fun K "__init__" "BadPiece.__init__" s_BadPiece_dinitd a_BadPiece_dinitd fd_BadPiece_dinitd
  in_BadPiece : PySem.W.findIn K (.ref c_BadPiece) "__init__" = some (some (.ref a_BadPiece_dinitd))
  ti_BadPiece : PySem.W.typeIn K (.ref a_BadPiece_dinitd) = some (.type "function")
  b_BadPiece_dinitd : Binds K fd_BadPiece_dinitd ["self", "index"] []
  kw_BadPiece_dinitd_1_index : KBinds K fd_BadPiece_dinitd ["self", "index"] ["index"] (pkI 1 1 [0, 1]) (pkI 1 1 [0, 1])
  a_BadRow_dinitd : Addr
  fd_BadRow_dinitd : FuncData
  F_BadRow_dinitd : Fun K "__init__" "BadRow.__init__" s_BadRow_dinitd a_BadRow_dinitd fd_BadRow_dinitd
  in_BadRow : PySem.W.findIn K (.ref c_BadRow) "__init__" = some (some (.ref a_BadRow_dinitd))
  ti_BadRow : PySem.W.typeIn K (.ref a_BadRow_dinitd) = some (.type "function")
  b_BadRow_dinitd : Binds K fd_BadRow_dinitd ["self", "index"] []
  kw_BadRow_dinitd_1_index : KBinds K fd_BadRow_dinitd ["self", "index"] ["index"] (pkI 1 1 [0, 1]) (pkI 1 1 [0, 1])
  a_BadSignature_dinitd : Addr
  fd_BadSignature_dinitd : FuncData
  F_BadSignature_dinitd : Fun K "__init__" "BadSignature.__init__" s_BadSignature_dinitd a_BadSignature_dinitd fd_BadSignature_dinitd
  in_BadSignature : PySem.W.findIn K (.ref c_BadSignature) "__init__" = some (some (.ref a_BadSignature_dinitd))
  ti_BadSignature : PySem.W.typeIn K (.ref a_BadSignature_dinitd) = some (.type "function")
  b_BadSignature_dinitd : Binds K fd_BadSignature_dinitd ["self", "index"] []
  kw_BadSignature_dinitd_1_index : KBinds K fd_BadSignature_dinitd ["self", "index"] ["index"] (pkI 1 1 [0, 1]) (pkI 1 1 [0, 1])
  a_BadText_dinitd : Addr
  fd_BadText_dinitd : FuncData
  F_BadText_dinitd : Fun K "__init__" "BadText.__init__" s_BadText_dinitd a_BadText_dinitd fd_BadText_dinitd
  in_BadText : PySem.W.findIn K (.ref c_BadText) "__init__" = some (some (.ref a_BadText_dinitd))
  ti_BadText : PySem.W.typeIn K (.ref a_BadText_dinitd) = some (.type "function")
  b_BadText_dinitd : Binds K fd_BadText_dinitd ["self", "index"] []
  kw_BadText_dinitd_1_index : KBinds K fd_BadText_dinitd ["self", "index"] ["index"] (pkI 1 1 [0, 1]) (pkI 1 1 [0, 1])
  a_BadVariants_dinitd : Addr
  fd_BadVariants_dinitd : FuncData
  F_BadVariants_dinitd : Fun K "__init__" "BadVariants.__init__" s_BadVariants_dinitd a_BadVariants_dinitd fd_BadVariants_dinitd
  in_BadVariants : PySem.W.findIn K (.ref c_BadVariants) "__init__" = some (some (.ref a_BadVariants_dinitd))
  ti_BadVariants : PySem.W.typeIn K (.ref a_BadVariants_dinitd) = some (.type "function")
  b_BadVariants_dinitd : Binds K fd_BadVariants_dinitd ["self", "index"] []
  kw_BadVariants_dinitd_1_index : KBinds K fd_BadVariants_dinitd ["self", "index"] ["index"] (pkI 1 1 [0, 1]) (pkI 1 1 [0, 1])
  a_BadVersions_dinitd : Addr
  fd_BadVersions_dinitd : FuncData
  F_BadVersions_dinitd : Fun K "__init__" "BadVersions.__init__" s_BadVersions_dinitd a_BadVersions_dinitd fd_BadVersions_dinitd
  in_BadVersions : PySem.W.findIn K (.ref c_BadVersions) "__init__" = some (some (.ref a_BadVersions_dinitd))
  ti_BadVersions : PySem.W.typeIn K (.ref a_BadVersions_dinitd) = some (.type "function")
  b_BadVersions_dinitd : Binds K fd_BadVersions_dinitd ["self", "index"] []
  kw_BadVersions_dinitd_1_index : KBinds K fd_BadVersions_dinitd ["self", "index"] ["index"] (pkI 1 1 [0, 1]) (pkI 1 1 [0, 1])
  a_Breaks_dinitd : Addr
  fd_Breaks_dinitd : FuncData
  F_Breaks_dinitd : Fun K "__init__" "Breaks.__init__" s_Breaks_dinitd a_Breaks_dinitd fd_Breaks_dinitd
  in_Breaks : PySem.W.findIn K (.ref c_Breaks) "__init__" = some (some (.ref a_Breaks_dinitd))
  ti_Breaks : PySem.W.typeIn K (.ref a_Breaks_dinitd) = some (.type "function")
  b_Breaks_dinitd : Binds K fd_Breaks_dinitd ["self", "numbers"] []
  kw_Breaks_dinitd_1_numbers : KBinds K fd_Breaks_dinitd ["self", "numbers"] ["numbers"] (pkI 1 1 [0, 1]) (pkI 1 1 [0, 1])
  a_NoFunction_dinitd : Addr
  fd_NoFunction_dinitd : FuncData
  F_NoFunction_dinitd : Fun K "__init__" "NoFunction.__init__" s_NoFunction_dinitd a_NoFunction_dinitd fd_NoFunction_dinitd
  in_NoFunction : PySem.W.findIn K (.ref c_NoFunction) "__init__" = some (some (.ref a_NoFunction_dinitd))
  ti_NoFunction : PySem.W.typeIn K (.ref a_NoFunction_dinitd) = some (.type "function")
  b_NoFunction_dinitd : Binds K fd_NoFunction_dinitd ["self", "name"] []
  kw_NoFunction_dinitd_1_name : KBinds K fd_NoFunction_dinitd ["self", "name"] ["name"] (pkI 1 1 [0, 1]) (pkI 1 1 [0, 1])
  a_NoName_dinitd : Addr
  fd_NoName_dinitd : FuncData
  F_NoName_dinitd : Fun K "__init__" "NoName.__init__" s_NoName_dinitd a_NoName_dinitd fd_NoName_dinitd
  in_NoName : PySem.W.findIn K (.ref c_NoName) "__init__" = some (some (.ref a_NoName_dinitd))
  ti_NoName : PySem.W.typeIn K (.ref a_NoName_dinitd) = some (.type "function")
  b_NoName_dinitd : Binds K fd_NoName_dinitd ["self", "name"] []
  kw_NoName_dinitd_1_name : KBinds K fd_NoName_dinitd ["self", "name"] ["name"] (pkI 1 1 [0, 1]) (pkI 1 1 [0, 1])
  a_NoSite_dinitd : Addr
  fd_NoSite_dinitd : FuncData
  F_NoSite_dinitd : Fun K "__init__" "NoSite.__init__" s_NoSite_dinitd a_NoSite_dinitd fd_NoSite_dinitd
  in_NoSite : PySem.W.findIn K (.ref c_NoSite) "__init__" = some (some (.ref a_NoSite_dinitd))
  ti_NoSite : PySem.W.typeIn K (.ref a_NoSite_dinitd) = some (.type "function")
  b_NoSite_dinitd : Binds K fd_NoSite_dinitd ["self", "number"] []
  kw_NoSite_dinitd_1_number : KBinds K fd_NoSite_dinitd ["self", "number"] ["number"] (pkI 1 1 [0, 1]) (pkI 1 1 [0, 1])
  a_Refused_dinitd : Addr
  fd_Refused_dinitd : FuncData
  F_Refused_dinitd : Fun K "__init__" "Refused.__init__" s_Refused_dinitd a_Refused_dinitd fd_Refused_dinitd
  in_Refused : PySem.W.findIn K (.ref c_Refused) "__init__" = some (some (.ref a_Refused_dinitd))
  ti_Refused : PySem.W.typeIn K (.ref a_Refused_dinitd) = some (.type "function")
  b_Refused_dinitd : Binds K fd_Refused_dinitd ["self", "obstruction"] []
  kw_Refused_dinitd_1_obstruction : KBinds K fd_Refused_dinitd ["self", "obstruction"] ["obstruction"] (pkI 1 1 [0, 1]) (pkI 1 1 [0, 1])
  a_Repeated_dinitd : Addr
  fd_Repeated_dinitd : FuncData
  F_Repeated_dinitd : Fun K "__init__" "Repeated.__init__" s_Repeated_dinitd a_Repeated_dinitd fd_Repeated_dinitd
  in_Repeated : PySem.W.findIn K (.ref c_Repeated) "__init__" = some (some (.ref a_Repeated_dinitd))
  ti_Repeated : PySem.W.typeIn K (.ref a_Repeated_dinitd) = some (.type "function")
  b_Repeated_dinitd : Binds K fd_Repeated_dinitd ["self", "name"] []
  kw_Repeated_dinitd_1_name : KBinds K fd_Repeated_dinitd ["self", "name"] ["name"] (pkI 1 1 [0, 1]) (pkI 1 1 [0, 1])
  a_Stopped_dinitd : Addr
  fd_Stopped_dinitd : FuncData
  F_Stopped_dinitd : Fun K "__init__" "Stopped.__init__" s_Stopped_dinitd a_Stopped_dinitd fd_Stopped_dinitd
  in_Stopped : PySem.W.findIn K (.ref c_Stopped) "__init__" = some (some (.ref a_Stopped_dinitd))
  ti_Stopped : PySem.W.typeIn K (.ref a_Stopped_dinitd) = some (.type "function")
  b_Stopped_dinitd : Binds K fd_Stopped_dinitd ["self", "index", "reason"] []
  kw_Stopped_dinitd_1_reason_index : KBinds K fd_Stopped_dinitd ["self", "index", "reason"] ["reason", "index"] (pkI 1 2 [0, 2, 1]) (pkI 1 2 [0, 2, 1])
  a_Lby_position : Addr
  fd_Lby_position : FuncData
  F_Lby_position : Fun K "_law_by_position" "_law_by_position" s_Lby_position a_Lby_position fd_Lby_position
  g_Lby_position : mg "_law_by_position" = some (.ref a_Lby_position)
  k_Lby_position : PySem.W.keepIn K (.ref a_Lby_position) = true
  b_Lby_position : Binds K fd_Lby_position ["_law_one", "_law_two"] []
  a_Lby_word : Addr
  fd_Lby_word : FuncData
  F_Lby_word : Fun K "_law_by_word" "_law_by_word" s_Lby_word a_Lby_word fd_Lby_word
  g_Lby_word : mg "_law_by_word" = some (.ref a_Lby_word)
  k_Lby_word : PySem.W.keepIn K (.ref a_Lby_word) = true
  b_Lby_word : Binds K fd_Lby_word ["_law_one", "_law_two"] []
  a_Lfields : Addr
  fd_Lfields : FuncData
  F_Lfields : Fun K "_law_fields" "_law_fields" s_Lfields a_Lfields fd_Lfields
  g_Lfields : mg "_law_fields" = some (.ref a_Lfields)
  k_Lfields : PySem.W.keepIn K (.ref a_Lfields) = true
  b_Lfields : Binds K fd_Lfields ["_law_made"] []
  a_Ldraw : Addr
  fd_Ldraw : FuncData
  F_Ldraw : Fun K "_law_draw" "_law_draw" s_Ldraw a_Ldraw fd_Ldraw
  g_Ldraw : mg "_law_draw" = some (.ref a_Ldraw)
  k_Ldraw : PySem.W.keepIn K (.ref a_Ldraw) = true
  b_Ldraw : Binds K fd_Ldraw ["_law_state", "_law_size"] []
  a_Lpick : Addr
  fd_Lpick : FuncData
  F_Lpick : Fun K "_law_pick" "_law_pick" s_Lpick a_Lpick fd_Lpick
  g_Lpick : mg "_law_pick" = some (.ref a_Lpick)
  k_Lpick : PySem.W.keepIn K (.ref a_Lpick) = true
  b_Lpick : Binds K fd_Lpick ["_law_state", "_law_items"] []
  a_law : Addr
  fd_law : FuncData
  F_law : Fun K "law" "law" s_law a_law fd_law
  g_law : mg "law" = some (.ref a_law)
  k_law : PySem.W.keepIn K (.ref a_law) = true
  b_law : Binds K fd_law ["_law_script"] []
  isf : ∀ tabs, IsF ⟨K, cmOf [("CallError", c_CallError), ("BadParameter", c_BadParameter), ("BadSignature", c_BadSignature), ("NoName", c_NoName), ("BadCall", c_BadCall), ("BadPiece", c_BadPiece), ("Repeated", c_Repeated), ("Refused", c_Refused), ("BadRow", c_BadRow), ("BadCounts", c_BadCounts), ("NothingBinds", c_NothingBinds), ("BadChain", c_BadChain), ("Stopped", c_Stopped), ("BadVariants", c_BadVariants), ("BadVersions", c_BadVersions), ("BadMoves", c_BadMoves), ("Breaks", c_Breaks), ("NoFunction", c_NoFunction), ("NoSite", c_NoSite), ("BadEntry", c_BadEntry), ("BadText", c_BadText)], tabs⟩ ["CallError", "BadParameter", "BadSignature", "NoName", "BadCall", "BadPiece", "Repeated", "Refused", "BadRow", "BadCounts", "NothingBinds", "BadChain", "Stopped", "BadVariants", "BadVersions", "BadMoves", "Breaks", "NoFunction", "NoSite", "BadEntry", "BadText"] ["ValueError"]
  nf_BadChain_index : PySem.W.findIn K (.ref c_BadChain) "index" = some none
  nf_BadEntry_index : PySem.W.findIn K (.ref c_BadEntry) "index" = some none
  nf_BadMoves_index : PySem.W.findIn K (.ref c_BadMoves) "index" = some none
  nf_BadPiece_index : PySem.W.findIn K (.ref c_BadPiece) "index" = some none
  nf_BadRow_index : PySem.W.findIn K (.ref c_BadRow) "index" = some none
  nf_BadSignature_index : PySem.W.findIn K (.ref c_BadSignature) "index" = some none
  nf_BadText_index : PySem.W.findIn K (.ref c_BadText) "index" = some none
  nf_BadVariants_index : PySem.W.findIn K (.ref c_BadVariants) "index" = some none
  nf_BadVersions_index : PySem.W.findIn K (.ref c_BadVersions) "index" = some none
  nf_Breaks_numbers : PySem.W.findIn K (.ref c_Breaks) "numbers" = some none
  nf_NoFunction_name : PySem.W.findIn K (.ref c_NoFunction) "name" = some none
  nf_NoName_name : PySem.W.findIn K (.ref c_NoName) "name" = some none
  nf_NoSite_number : PySem.W.findIn K (.ref c_NoSite) "number" = some none
  nf_Refused_obstruction : PySem.W.findIn K (.ref c_Refused) "obstruction" = some none
  nf_Repeated_name : PySem.W.findIn K (.ref c_Repeated) "name" = some none
  nf_Stopped_index : PySem.W.findIn K (.ref c_Stopped) "index" = some none
  nf_Stopped_reason : PySem.W.findIn K (.ref c_Stopped) "reason" = some none
  cr_CallError : ClX.CRead K c_CallError (.type "type")
  x_BadParameter : PySem.W.excIn K c_BadParameter [.type "ValueError", .type "Exception", .type "BaseException", .type "object"] "ValueError.__new__" = true
  kp_BadParameter : PySem.W.keepIn K (.ref c_BadParameter) = true
  sb_BadParameter : PySem.W.subIn K (.ref c_BadParameter) (.type "BaseException") = some true
  ty_BadParameter : PySem.W.typeIn K (.ref c_BadParameter) = some (.type "type")
  ox_BadSignature : OexC K c_BadSignature
  ox_NoName : OexC K c_NoName
  x_BadCall : PySem.W.excIn K c_BadCall [.type "ValueError", .type "Exception", .type "BaseException", .type "object"] "ValueError.__new__" = true
  kp_BadCall : PySem.W.keepIn K (.ref c_BadCall) = true
  sb_BadCall : PySem.W.subIn K (.ref c_BadCall) (.type "BaseException") = some true
  ty_BadCall : PySem.W.typeIn K (.ref c_BadCall) = some (.type "type")
  ox_BadPiece : OexC K c_BadPiece
  ox_Repeated : OexC K c_Repeated
  ox_Refused : OexC K c_Refused
  ox_BadRow : OexC K c_BadRow
  x_BadCounts : PySem.W.excIn K c_BadCounts [.type "ValueError", .type "Exception", .type "BaseException", .type "object"] "ValueError.__new__" = true
  kp_BadCounts : PySem.W.keepIn K (.ref c_BadCounts) = true
  sb_BadCounts : PySem.W.subIn K (.ref c_BadCounts) (.type "BaseException") = some true
  ty_BadCounts : PySem.W.typeIn K (.ref c_BadCounts) = some (.type "type")
  x_NothingBinds : PySem.W.excIn K c_NothingBinds [.type "ValueError", .type "Exception", .type "BaseException", .type "object"] "ValueError.__new__" = true
  kp_NothingBinds : PySem.W.keepIn K (.ref c_NothingBinds) = true
  sb_NothingBinds : PySem.W.subIn K (.ref c_NothingBinds) (.type "BaseException") = some true
  ty_NothingBinds : PySem.W.typeIn K (.ref c_NothingBinds) = some (.type "type")
  ox_BadChain : OexC K c_BadChain
  ox_Stopped : OexC K c_Stopped
  ox_BadVariants : OexC K c_BadVariants
  ox_BadVersions : OexC K c_BadVersions
  ox_BadMoves : OexC K c_BadMoves
  ox_Breaks : OexC K c_Breaks
  ox_NoFunction : OexC K c_NoFunction
  ox_NoSite : OexC K c_NoSite
  ox_BadEntry : OexC K c_BadEntry
  ox_BadText : OexC K c_BadText
  bi : PySem.W.findCls K (.ref c_CallError) (.type "type") "__init__" = some (.val (.builtin "ValueError.__init__"))
  n_ValueError : mg "ValueError" = none
  n_enumerate : mg "enumerate" = none
  n_isinstance : mg "isinstance" = none
  n_len : mg "len" = none
  n_max : mg "max" = none
  n_range : mg "range" = none
  n_repr : mg "repr" = none
section
variable {P : Program} {w : World} {K : PySem.W.Frag} {mg : Str → Option Value} {base : Heap}
abbrev Tx.W (T : Tx K mg w base) : Wd := ⟨K, cmOf [("CallError", T.c_CallError), ("BadParameter", T.c_BadParameter), ("BadSignature", T.c_BadSignature), ("NoName", T.c_NoName), ("BadCall", T.c_BadCall), ("BadPiece", T.c_BadPiece), ("Repeated", T.c_Repeated), ("Refused", T.c_Refused), ("BadRow", T.c_BadRow), ("BadCounts", T.c_BadCounts), ("NothingBinds", T.c_NothingBinds), ("BadChain", T.c_BadChain), ("Stopped", T.c_Stopped), ("BadVariants", T.c_BadVariants), ("BadVersions", T.c_BadVersions), ("BadMoves", T.c_BadMoves), ("Breaks", T.c_Breaks), ("NoFunction", T.c_NoFunction), ("NoSite", T.c_NoSite), ("BadEntry", T.c_BadEntry), ("BadText", T.c_BadText)], []⟩
theorem cm_CallError (T : Tx K mg w base) : T.W.cm "CallError" = some T.c_CallError := by show cmOf [("CallError", T.c_CallError), ("BadParameter", T.c_BadParameter), ("BadSignature", T.c_BadSignature), ("NoName", T.c_NoName), ("BadCall", T.c_BadCall), ("BadPiece", T.c_BadPiece), ("Repeated", T.c_Repeated), ("Refused", T.c_Refused), ("BadRow", T.c_BadRow), ("BadCounts", T.c_BadCounts), ("NothingBinds", T.c_NothingBinds), ("BadChain", T.c_BadChain), ("Stopped", T.c_Stopped), ("BadVariants", T.c_BadVariants), ("BadVersions", T.c_BadVersions), ("BadMoves", T.c_BadMoves), ("Breaks", T.c_Breaks), ("NoFunction", T.c_NoFunction), ("NoSite", T.c_NoSite), ("BadEntry", T.c_BadEntry), ("BadText", T.c_BadText)] "CallError" = _; simp [cmOf, List.lookup]
theorem cm_BadParameter (T : Tx K mg w base) : T.W.cm "BadParameter" = some T.c_BadParameter := by show cmOf [("CallError", T.c_CallError), ("BadParameter", T.c_BadParameter), ("BadSignature", T.c_BadSignature), ("NoName", T.c_NoName), ("BadCall", T.c_BadCall), ("BadPiece", T.c_BadPiece), ("Repeated", T.c_Repeated), ("Refused", T.c_Refused), ("BadRow", T.c_BadRow), ("BadCounts", T.c_BadCounts), ("NothingBinds", T.c_NothingBinds), ("BadChain", T.c_BadChain), ("Stopped", T.c_Stopped), ("BadVariants", T.c_BadVariants), ("BadVersions", T.c_BadVersions), ("BadMoves", T.c_BadMoves), ("Breaks", T.c_Breaks), ("NoFunction", T.c_NoFunction), ("NoSite", T.c_NoSite), ("BadEntry", T.c_BadEntry), ("BadText", T.c_BadText)] "BadParameter" = _; simp [cmOf, List.lookup]
theorem cm_BadSignature (T : Tx K mg w base) : T.W.cm "BadSignature" = some T.c_BadSignature := by show cmOf [("CallError", T.c_CallError), ("BadParameter", T.c_BadParameter), ("BadSignature", T.c_BadSignature), ("NoName", T.c_NoName), ("BadCall", T.c_BadCall), ("BadPiece", T.c_BadPiece), ("Repeated", T.c_Repeated), ("Refused", T.c_Refused), ("BadRow", T.c_BadRow), ("BadCounts", T.c_BadCounts), ("NothingBinds", T.c_NothingBinds), ("BadChain", T.c_BadChain), ("Stopped", T.c_Stopped), ("BadVariants", T.c_BadVariants), ("BadVersions", T.c_BadVersions), ("BadMoves", T.c_BadMoves), ("Breaks", T.c_Breaks), ("NoFunction", T.c_NoFunction), ("NoSite", T.c_NoSite), ("BadEntry", T.c_BadEntry), ("BadText", T.c_BadText)] "BadSignature" = _; simp [cmOf, List.lookup]
theorem cm_NoName (T : Tx K mg w base) : T.W.cm "NoName" = some T.c_NoName := by show cmOf [("CallError", T.c_CallError), ("BadParameter", T.c_BadParameter), ("BadSignature", T.c_BadSignature), ("NoName", T.c_NoName), ("BadCall", T.c_BadCall), ("BadPiece", T.c_BadPiece), ("Repeated", T.c_Repeated), ("Refused", T.c_Refused), ("BadRow", T.c_BadRow), ("BadCounts", T.c_BadCounts), ("NothingBinds", T.c_NothingBinds), ("BadChain", T.c_BadChain), ("Stopped", T.c_Stopped), ("BadVariants", T.c_BadVariants), ("BadVersions", T.c_BadVersions), ("BadMoves", T.c_BadMoves), ("Breaks", T.c_Breaks), ("NoFunction", T.c_NoFunction), ("NoSite", T.c_NoSite), ("BadEntry", T.c_BadEntry), ("BadText", T.c_BadText)] "NoName" = _; simp [cmOf, List.lookup]
theorem cm_BadCall (T : Tx K mg w base) : T.W.cm "BadCall" = some T.c_BadCall := by show cmOf [("CallError", T.c_CallError), ("BadParameter", T.c_BadParameter), ("BadSignature", T.c_BadSignature), ("NoName", T.c_NoName), ("BadCall", T.c_BadCall), ("BadPiece", T.c_BadPiece), ("Repeated", T.c_Repeated), ("Refused", T.c_Refused), ("BadRow", T.c_BadRow), ("BadCounts", T.c_BadCounts), ("NothingBinds", T.c_NothingBinds), ("BadChain", T.c_BadChain), ("Stopped", T.c_Stopped), ("BadVariants", T.c_BadVariants), ("BadVersions", T.c_BadVersions), ("BadMoves", T.c_BadMoves), ("Breaks", T.c_Breaks), ("NoFunction", T.c_NoFunction), ("NoSite", T.c_NoSite), ("BadEntry", T.c_BadEntry), ("BadText", T.c_BadText)] "BadCall" = _; simp [cmOf, List.lookup]
theorem cm_BadPiece (T : Tx K mg w base) : T.W.cm "BadPiece" = some T.c_BadPiece := by show cmOf [("CallError", T.c_CallError), ("BadParameter", T.c_BadParameter), ("BadSignature", T.c_BadSignature), ("NoName", T.c_NoName), ("BadCall", T.c_BadCall), ("BadPiece", T.c_BadPiece), ("Repeated", T.c_Repeated), ("Refused", T.c_Refused), ("BadRow", T.c_BadRow), ("BadCounts", T.c_BadCounts), ("NothingBinds", T.c_NothingBinds), ("BadChain", T.c_BadChain), ("Stopped", T.c_Stopped), ("BadVariants", T.c_BadVariants), ("BadVersions", T.c_BadVersions), ("BadMoves", T.c_BadMoves), ("Breaks", T.c_Breaks), ("NoFunction", T.c_NoFunction), ("NoSite", T.c_NoSite), ("BadEntry", T.c_BadEntry), ("BadText", T.c_BadText)] "BadPiece" = _; simp [cmOf, List.lookup]
theorem cm_Repeated (T : Tx K mg w base) : T.W.cm "Repeated" = some T.c_Repeated := by show cmOf [("CallError", T.c_CallError), ("BadParameter", T.c_BadParameter), ("BadSignature", T.c_BadSignature), ("NoName", T.c_NoName), ("BadCall", T.c_BadCall), ("BadPiece", T.c_BadPiece), ("Repeated", T.c_Repeated), ("Refused", T.c_Refused), ("BadRow", T.c_BadRow), ("BadCounts", T.c_BadCounts), ("NothingBinds", T.c_NothingBinds), ("BadChain", T.c_BadChain), ("Stopped", T.c_Stopped), ("BadVariants", T.c_BadVariants), ("BadVersions", T.c_BadVersions), ("BadMoves", T.c_BadMoves), ("Breaks", T.c_Breaks), ("NoFunction", T.c_NoFunction), ("NoSite", T.c_NoSite), ("BadEntry", T.c_BadEntry), ("BadText", T.c_BadText)] "Repeated" = _; simp [cmOf, List.lookup]
theorem cm_Refused (T : Tx K mg w base) : T.W.cm "Refused" = some T.c_Refused := by show cmOf [("CallError", T.c_CallError), ("BadParameter", T.c_BadParameter), ("BadSignature", T.c_BadSignature), ("NoName", T.c_NoName), ("BadCall", T.c_BadCall), ("BadPiece", T.c_BadPiece), ("Repeated", T.c_Repeated), ("Refused", T.c_Refused), ("BadRow", T.c_BadRow), ("BadCounts", T.c_BadCounts), ("NothingBinds", T.c_NothingBinds), ("BadChain", T.c_BadChain), ("Stopped", T.c_Stopped), ("BadVariants", T.c_BadVariants), ("BadVersions", T.c_BadVersions), ("BadMoves", T.c_BadMoves), ("Breaks", T.c_Breaks), ("NoFunction", T.c_NoFunction), ("NoSite", T.c_NoSite), ("BadEntry", T.c_BadEntry), ("BadText", T.c_BadText)] "Refused" = _; simp [cmOf, List.lookup]
theorem cm_BadRow (T : Tx K mg w base) : T.W.cm "BadRow" = some T.c_BadRow := by show cmOf [("CallError", T.c_CallError), ("BadParameter", T.c_BadParameter), ("BadSignature", T.c_BadSignature), ("NoName", T.c_NoName), ("BadCall", T.c_BadCall), ("BadPiece", T.c_BadPiece), ("Repeated", T.c_Repeated), ("Refused", T.c_Refused), ("BadRow", T.c_BadRow), ("BadCounts", T.c_BadCounts), ("NothingBinds", T.c_NothingBinds), ("BadChain", T.c_BadChain), ("Stopped", T.c_Stopped), ("BadVariants", T.c_BadVariants), ("BadVersions", T.c_BadVersions), ("BadMoves", T.c_BadMoves), ("Breaks", T.c_Breaks), ("NoFunction", T.c_NoFunction), ("NoSite", T.c_NoSite), ("BadEntry", T.c_BadEntry), ("BadText", T.c_BadText)] "BadRow" = _; simp [cmOf, List.lookup]
theorem cm_BadCounts (T : Tx K mg w base) : T.W.cm "BadCounts" = some T.c_BadCounts := by show cmOf [("CallError", T.c_CallError), ("BadParameter", T.c_BadParameter), ("BadSignature", T.c_BadSignature), ("NoName", T.c_NoName), ("BadCall", T.c_BadCall), ("BadPiece", T.c_BadPiece), ("Repeated", T.c_Repeated), ("Refused", T.c_Refused), ("BadRow", T.c_BadRow), ("BadCounts", T.c_BadCounts), ("NothingBinds", T.c_NothingBinds), ("BadChain", T.c_BadChain), ("Stopped", T.c_Stopped), ("BadVariants", T.c_BadVariants), ("BadVersions", T.c_BadVersions), ("BadMoves", T.c_BadMoves), ("Breaks", T.c_Breaks), ("NoFunction", T.c_NoFunction), ("NoSite", T.c_NoSite), ("BadEntry", T.c_BadEntry), ("BadText", T.c_BadText)] "BadCounts" = _; simp [cmOf, List.lookup]
theorem cm_NothingBinds (T : Tx K mg w base) : T.W.cm "NothingBinds" = some T.c_NothingBinds := by show cmOf [("CallError", T.c_CallError), ("BadParameter", T.c_BadParameter), ("BadSignature", T.c_BadSignature), ("NoName", T.c_NoName), ("BadCall", T.c_BadCall), ("BadPiece", T.c_BadPiece), ("Repeated", T.c_Repeated), ("Refused", T.c_Refused), ("BadRow", T.c_BadRow), ("BadCounts", T.c_BadCounts), ("NothingBinds", T.c_NothingBinds), ("BadChain", T.c_BadChain), ("Stopped", T.c_Stopped), ("BadVariants", T.c_BadVariants), ("BadVersions", T.c_BadVersions), ("BadMoves", T.c_BadMoves), ("Breaks", T.c_Breaks), ("NoFunction", T.c_NoFunction), ("NoSite", T.c_NoSite), ("BadEntry", T.c_BadEntry), ("BadText", T.c_BadText)] "NothingBinds" = _; simp [cmOf, List.lookup]
theorem cm_BadChain (T : Tx K mg w base) : T.W.cm "BadChain" = some T.c_BadChain := by show cmOf [("CallError", T.c_CallError), ("BadParameter", T.c_BadParameter), ("BadSignature", T.c_BadSignature), ("NoName", T.c_NoName), ("BadCall", T.c_BadCall), ("BadPiece", T.c_BadPiece), ("Repeated", T.c_Repeated), ("Refused", T.c_Refused), ("BadRow", T.c_BadRow), ("BadCounts", T.c_BadCounts), ("NothingBinds", T.c_NothingBinds), ("BadChain", T.c_BadChain), ("Stopped", T.c_Stopped), ("BadVariants", T.c_BadVariants), ("BadVersions", T.c_BadVersions), ("BadMoves", T.c_BadMoves), ("Breaks", T.c_Breaks), ("NoFunction", T.c_NoFunction), ("NoSite", T.c_NoSite), ("BadEntry", T.c_BadEntry), ("BadText", T.c_BadText)] "BadChain" = _; simp [cmOf, List.lookup]
theorem cm_Stopped (T : Tx K mg w base) : T.W.cm "Stopped" = some T.c_Stopped := by show cmOf [("CallError", T.c_CallError), ("BadParameter", T.c_BadParameter), ("BadSignature", T.c_BadSignature), ("NoName", T.c_NoName), ("BadCall", T.c_BadCall), ("BadPiece", T.c_BadPiece), ("Repeated", T.c_Repeated), ("Refused", T.c_Refused), ("BadRow", T.c_BadRow), ("BadCounts", T.c_BadCounts), ("NothingBinds", T.c_NothingBinds), ("BadChain", T.c_BadChain), ("Stopped", T.c_Stopped), ("BadVariants", T.c_BadVariants), ("BadVersions", T.c_BadVersions), ("BadMoves", T.c_BadMoves), ("Breaks", T.c_Breaks), ("NoFunction", T.c_NoFunction), ("NoSite", T.c_NoSite), ("BadEntry", T.c_BadEntry), ("BadText", T.c_BadText)] "Stopped" = _; simp [cmOf, List.lookup]
theorem cm_BadVariants (T : Tx K mg w base) : T.W.cm "BadVariants" = some T.c_BadVariants := by show cmOf [("CallError", T.c_CallError), ("BadParameter", T.c_BadParameter), ("BadSignature", T.c_BadSignature), ("NoName", T.c_NoName), ("BadCall", T.c_BadCall), ("BadPiece", T.c_BadPiece), ("Repeated", T.c_Repeated), ("Refused", T.c_Refused), ("BadRow", T.c_BadRow), ("BadCounts", T.c_BadCounts), ("NothingBinds", T.c_NothingBinds), ("BadChain", T.c_BadChain), ("Stopped", T.c_Stopped), ("BadVariants", T.c_BadVariants), ("BadVersions", T.c_BadVersions), ("BadMoves", T.c_BadMoves), ("Breaks", T.c_Breaks), ("NoFunction", T.c_NoFunction), ("NoSite", T.c_NoSite), ("BadEntry", T.c_BadEntry), ("BadText", T.c_BadText)] "BadVariants" = _; simp [cmOf, List.lookup]
theorem cm_BadVersions (T : Tx K mg w base) : T.W.cm "BadVersions" = some T.c_BadVersions := by show cmOf [("CallError", T.c_CallError), ("BadParameter", T.c_BadParameter), ("BadSignature", T.c_BadSignature), ("NoName", T.c_NoName), ("BadCall", T.c_BadCall), ("BadPiece", T.c_BadPiece), ("Repeated", T.c_Repeated), ("Refused", T.c_Refused), ("BadRow", T.c_BadRow), ("BadCounts", T.c_BadCounts), ("NothingBinds", T.c_NothingBinds), ("BadChain", T.c_BadChain), ("Stopped", T.c_Stopped), ("BadVariants", T.c_BadVariants), ("BadVersions", T.c_BadVersions), ("BadMoves", T.c_BadMoves), ("Breaks", T.c_Breaks), ("NoFunction", T.c_NoFunction), ("NoSite", T.c_NoSite), ("BadEntry", T.c_BadEntry), ("BadText", T.c_BadText)] "BadVersions" = _; simp [cmOf, List.lookup]
theorem cm_BadMoves (T : Tx K mg w base) : T.W.cm "BadMoves" = some T.c_BadMoves := by show cmOf [("CallError", T.c_CallError), ("BadParameter", T.c_BadParameter), ("BadSignature", T.c_BadSignature), ("NoName", T.c_NoName), ("BadCall", T.c_BadCall), ("BadPiece", T.c_BadPiece), ("Repeated", T.c_Repeated), ("Refused", T.c_Refused), ("BadRow", T.c_BadRow), ("BadCounts", T.c_BadCounts), ("NothingBinds", T.c_NothingBinds), ("BadChain", T.c_BadChain), ("Stopped", T.c_Stopped), ("BadVariants", T.c_BadVariants), ("BadVersions", T.c_BadVersions), ("BadMoves", T.c_BadMoves), ("Breaks", T.c_Breaks), ("NoFunction", T.c_NoFunction), ("NoSite", T.c_NoSite), ("BadEntry", T.c_BadEntry), ("BadText", T.c_BadText)] "BadMoves" = _; simp [cmOf, List.lookup]
theorem cm_Breaks (T : Tx K mg w base) : T.W.cm "Breaks" = some T.c_Breaks := by show cmOf [("CallError", T.c_CallError), ("BadParameter", T.c_BadParameter), ("BadSignature", T.c_BadSignature), ("NoName", T.c_NoName), ("BadCall", T.c_BadCall), ("BadPiece", T.c_BadPiece), ("Repeated", T.c_Repeated), ("Refused", T.c_Refused), ("BadRow", T.c_BadRow), ("BadCounts", T.c_BadCounts), ("NothingBinds", T.c_NothingBinds), ("BadChain", T.c_BadChain), ("Stopped", T.c_Stopped), ("BadVariants", T.c_BadVariants), ("BadVersions", T.c_BadVersions), ("BadMoves", T.c_BadMoves), ("Breaks", T.c_Breaks), ("NoFunction", T.c_NoFunction), ("NoSite", T.c_NoSite), ("BadEntry", T.c_BadEntry), ("BadText", T.c_BadText)] "Breaks" = _; simp [cmOf, List.lookup]
theorem cm_NoFunction (T : Tx K mg w base) : T.W.cm "NoFunction" = some T.c_NoFunction := by show cmOf [("CallError", T.c_CallError), ("BadParameter", T.c_BadParameter), ("BadSignature", T.c_BadSignature), ("NoName", T.c_NoName), ("BadCall", T.c_BadCall), ("BadPiece", T.c_BadPiece), ("Repeated", T.c_Repeated), ("Refused", T.c_Refused), ("BadRow", T.c_BadRow), ("BadCounts", T.c_BadCounts), ("NothingBinds", T.c_NothingBinds), ("BadChain", T.c_BadChain), ("Stopped", T.c_Stopped), ("BadVariants", T.c_BadVariants), ("BadVersions", T.c_BadVersions), ("BadMoves", T.c_BadMoves), ("Breaks", T.c_Breaks), ("NoFunction", T.c_NoFunction), ("NoSite", T.c_NoSite), ("BadEntry", T.c_BadEntry), ("BadText", T.c_BadText)] "NoFunction" = _; simp [cmOf, List.lookup]
theorem cm_NoSite (T : Tx K mg w base) : T.W.cm "NoSite" = some T.c_NoSite := by show cmOf [("CallError", T.c_CallError), ("BadParameter", T.c_BadParameter), ("BadSignature", T.c_BadSignature), ("NoName", T.c_NoName), ("BadCall", T.c_BadCall), ("BadPiece", T.c_BadPiece), ("Repeated", T.c_Repeated), ("Refused", T.c_Refused), ("BadRow", T.c_BadRow), ("BadCounts", T.c_BadCounts), ("NothingBinds", T.c_NothingBinds), ("BadChain", T.c_BadChain), ("Stopped", T.c_Stopped), ("BadVariants", T.c_BadVariants), ("BadVersions", T.c_BadVersions), ("BadMoves", T.c_BadMoves), ("Breaks", T.c_Breaks), ("NoFunction", T.c_NoFunction), ("NoSite", T.c_NoSite), ("BadEntry", T.c_BadEntry), ("BadText", T.c_BadText)] "NoSite" = _; simp [cmOf, List.lookup]
theorem cm_BadEntry (T : Tx K mg w base) : T.W.cm "BadEntry" = some T.c_BadEntry := by show cmOf [("CallError", T.c_CallError), ("BadParameter", T.c_BadParameter), ("BadSignature", T.c_BadSignature), ("NoName", T.c_NoName), ("BadCall", T.c_BadCall), ("BadPiece", T.c_BadPiece), ("Repeated", T.c_Repeated), ("Refused", T.c_Refused), ("BadRow", T.c_BadRow), ("BadCounts", T.c_BadCounts), ("NothingBinds", T.c_NothingBinds), ("BadChain", T.c_BadChain), ("Stopped", T.c_Stopped), ("BadVariants", T.c_BadVariants), ("BadVersions", T.c_BadVersions), ("BadMoves", T.c_BadMoves), ("Breaks", T.c_Breaks), ("NoFunction", T.c_NoFunction), ("NoSite", T.c_NoSite), ("BadEntry", T.c_BadEntry), ("BadText", T.c_BadText)] "BadEntry" = _; simp [cmOf, List.lookup]
theorem cm_BadText (T : Tx K mg w base) : T.W.cm "BadText" = some T.c_BadText := by show cmOf [("CallError", T.c_CallError), ("BadParameter", T.c_BadParameter), ("BadSignature", T.c_BadSignature), ("NoName", T.c_NoName), ("BadCall", T.c_BadCall), ("BadPiece", T.c_BadPiece), ("Repeated", T.c_Repeated), ("Refused", T.c_Refused), ("BadRow", T.c_BadRow), ("BadCounts", T.c_BadCounts), ("NothingBinds", T.c_NothingBinds), ("BadChain", T.c_BadChain), ("Stopped", T.c_Stopped), ("BadVariants", T.c_BadVariants), ("BadVersions", T.c_BadVersions), ("BadMoves", T.c_BadMoves), ("Breaks", T.c_Breaks), ("NoFunction", T.c_NoFunction), ("NoSite", T.c_NoSite), ("BadEntry", T.c_BadEntry), ("BadText", T.c_BadText)] "BadText" = _; simp [cmOf, List.lookup]
theorem fx_BadChain_index (T : Tx K mg w base) : FldX T.W "BadChain" "index" := ⟨fun g h => (T.isf T.W.tabs).exc _ g (by decide) h, fun g h => by rw [cm_BadChain T] at h; cases h; exact T.nf_BadChain_index⟩
theorem fx_BadEntry_index (T : Tx K mg w base) : FldX T.W "BadEntry" "index" := ⟨fun g h => (T.isf T.W.tabs).exc _ g (by decide) h, fun g h => by rw [cm_BadEntry T] at h; cases h; exact T.nf_BadEntry_index⟩
theorem fx_BadMoves_index (T : Tx K mg w base) : FldX T.W "BadMoves" "index" := ⟨fun g h => (T.isf T.W.tabs).exc _ g (by decide) h, fun g h => by rw [cm_BadMoves T] at h; cases h; exact T.nf_BadMoves_index⟩
theorem fx_BadPiece_index (T : Tx K mg w base) : FldX T.W "BadPiece" "index" := ⟨fun g h => (T.isf T.W.tabs).exc _ g (by decide) h, fun g h => by rw [cm_BadPiece T] at h; cases h; exact T.nf_BadPiece_index⟩
theorem fx_BadRow_index (T : Tx K mg w base) : FldX T.W "BadRow" "index" := ⟨fun g h => (T.isf T.W.tabs).exc _ g (by decide) h, fun g h => by rw [cm_BadRow T] at h; cases h; exact T.nf_BadRow_index⟩
theorem fx_BadSignature_index (T : Tx K mg w base) : FldX T.W "BadSignature" "index" := ⟨fun g h => (T.isf T.W.tabs).exc _ g (by decide) h, fun g h => by rw [cm_BadSignature T] at h; cases h; exact T.nf_BadSignature_index⟩
theorem fx_BadText_index (T : Tx K mg w base) : FldX T.W "BadText" "index" := ⟨fun g h => (T.isf T.W.tabs).exc _ g (by decide) h, fun g h => by rw [cm_BadText T] at h; cases h; exact T.nf_BadText_index⟩
theorem fx_BadVariants_index (T : Tx K mg w base) : FldX T.W "BadVariants" "index" := ⟨fun g h => (T.isf T.W.tabs).exc _ g (by decide) h, fun g h => by rw [cm_BadVariants T] at h; cases h; exact T.nf_BadVariants_index⟩
theorem fx_BadVersions_index (T : Tx K mg w base) : FldX T.W "BadVersions" "index" := ⟨fun g h => (T.isf T.W.tabs).exc _ g (by decide) h, fun g h => by rw [cm_BadVersions T] at h; cases h; exact T.nf_BadVersions_index⟩
theorem fx_Breaks_numbers (T : Tx K mg w base) : FldX T.W "Breaks" "numbers" := ⟨fun g h => (T.isf T.W.tabs).exc _ g (by decide) h, fun g h => by rw [cm_Breaks T] at h; cases h; exact T.nf_Breaks_numbers⟩
theorem fx_NoFunction_name (T : Tx K mg w base) : FldX T.W "NoFunction" "name" := ⟨fun g h => (T.isf T.W.tabs).exc _ g (by decide) h, fun g h => by rw [cm_NoFunction T] at h; cases h; exact T.nf_NoFunction_name⟩
theorem fx_NoName_name (T : Tx K mg w base) : FldX T.W "NoName" "name" := ⟨fun g h => (T.isf T.W.tabs).exc _ g (by decide) h, fun g h => by rw [cm_NoName T] at h; cases h; exact T.nf_NoName_name⟩
theorem fx_NoSite_number (T : Tx K mg w base) : FldX T.W "NoSite" "number" := ⟨fun g h => (T.isf T.W.tabs).exc _ g (by decide) h, fun g h => by rw [cm_NoSite T] at h; cases h; exact T.nf_NoSite_number⟩
theorem fx_Refused_obstruction (T : Tx K mg w base) : FldX T.W "Refused" "obstruction" := ⟨fun g h => (T.isf T.W.tabs).exc _ g (by decide) h, fun g h => by rw [cm_Refused T] at h; cases h; exact T.nf_Refused_obstruction⟩
theorem fx_Repeated_name (T : Tx K mg w base) : FldX T.W "Repeated" "name" := ⟨fun g h => (T.isf T.W.tabs).exc _ g (by decide) h, fun g h => by rw [cm_Repeated T] at h; cases h; exact T.nf_Repeated_name⟩
theorem fx_Stopped_index (T : Tx K mg w base) : FldX T.W "Stopped" "index" := ⟨fun g h => (T.isf T.W.tabs).exc _ g (by decide) h, fun g h => by rw [cm_Stopped T] at h; cases h; exact T.nf_Stopped_index⟩
theorem fx_Stopped_reason (T : Tx K mg w base) : FldX T.W "Stopped" "reason" := ⟨fun g h => (T.isf T.W.tabs).exc _ g (by decide) h, fun g h => by rw [cm_Stopped T] at h; cases h; exact T.nf_Stopped_reason⟩
theorem sc_Lmarks : FnScope ["_law_error", "_law_marks_here"] ["_law_error"] (defScope s_Lmarks) := ⟨rfl, rfl, rfl, by decide +kernel, rfl, by decide +kernel, by decide +kernel⟩
theorem ok_Lmarks (T : Tx K mg w base) : FnOk P w K mg base (L2.CX P w) 1 T.a_Lmarks T.fd_Lmarks ["_law_error"] (spM T.W m_Lmarks) :=
  ok_fun T.F_Lmarks sc_Lmarks (fun vs H Q E h => by exact spM_len (P := 1) h) fun cdv A out s H vs Q E hr h => ⟨tS T.W E b_Lmarks, (mss_cons (pss_cons (ms_set (ps_set (i := 1) sc_Lmarks.nd rfl (by first | exact Or.inl rfl | exact Or.inr rfl | exact Or.inr (Or.inl rfl) | exact Or.inr (Or.inr rfl)) (me_lst (b := false) (pe_lst (ma_cons (pa_cons (me_is (cl := (.cls "BadParameter")) (u := (.ref T.c_BadParameter)) (T.isf _) ⟨by decide, T.c_BadParameter, cm_BadParameter T, rfl⟩ (pe_callB call_isM (by rfl) T.n_isinstance (by decide +kernel) (pa_cons (me_var (pv 0)) (pa_cons (pe_glob rfl T.g_BadParameter rfl) pa_nil)))) (ma_cons (pa_cons (me_is (cl := (.cls "BadSignature")) (u := (.ref T.c_BadSignature)) (T.isf _) ⟨by decide, T.c_BadSignature, cm_BadSignature T, rfl⟩ (pe_callB call_isM (by rfl) T.n_isinstance (by decide +kernel) (pa_cons (me_var (pv 0)) (pa_cons (pe_glob rfl T.g_BadSignature rfl) pa_nil)))) (ma_cons (pa_cons (me_is (cl := (.cls "NoName")) (u := (.ref T.c_NoName)) (T.isf _) ⟨by decide, T.c_NoName, cm_NoName T, rfl⟩ (pe_callB call_isM (by rfl) T.n_isinstance (by decide +kernel) (pa_cons (me_var (pv 0)) (pa_cons (pe_glob rfl T.g_NoName rfl) pa_nil)))) (ma_nil pa_nil)))))))))))
    (mss_cons (pss_cons (ms_set (ps_set (i := 1) sc_Lmarks.nd rfl (by first | exact Or.inl rfl | exact Or.inr rfl | exact Or.inr (Or.inl rfl) | exact Or.inr (Or.inr rfl)) (me_op (opm_add (b := false)) (pe_op Cs.op_addD (me_var (pv 1)) (me_lst (b := false) (pe_lst (ma_cons (pa_cons (me_is (cl := (.cls "BadCall")) (u := (.ref T.c_BadCall)) (T.isf _) ⟨by decide, T.c_BadCall, cm_BadCall T, rfl⟩ (pe_callB call_isM (by rfl) T.n_isinstance (by decide +kernel) (pa_cons (me_var (pv 0)) (pa_cons (pe_glob rfl T.g_BadCall rfl) pa_nil)))) (ma_cons (pa_cons (me_is (cl := (.cls "BadPiece")) (u := (.ref T.c_BadPiece)) (T.isf _) ⟨by decide, T.c_BadPiece, cm_BadPiece T, rfl⟩ (pe_callB call_isM (by rfl) T.n_isinstance (by decide +kernel) (pa_cons (me_var (pv 0)) (pa_cons (pe_glob rfl T.g_BadPiece rfl) pa_nil)))) (ma_cons (pa_cons (me_is (cl := (.cls "Repeated")) (u := (.ref T.c_Repeated)) (T.isf _) ⟨by decide, T.c_Repeated, cm_Repeated T, rfl⟩ (pe_callB call_isM (by rfl) T.n_isinstance (by decide +kernel) (pa_cons (me_var (pv 0)) (pa_cons (pe_glob rfl T.g_Repeated rfl) pa_nil)))) (ma_nil pa_nil)))))))))))))
    (mss_cons (pss_cons (ms_set (ps_set (i := 1) sc_Lmarks.nd rfl (by first | exact Or.inl rfl | exact Or.inr rfl | exact Or.inr (Or.inl rfl) | exact Or.inr (Or.inr rfl)) (me_op (opm_add (b := false)) (pe_op Cs.op_addD (me_var (pv 1)) (me_lst (b := false) (pe_lst (ma_cons (pa_cons (me_is (cl := (.cls "Refused")) (u := (.ref T.c_Refused)) (T.isf _) ⟨by decide, T.c_Refused, cm_Refused T, rfl⟩ (pe_callB call_isM (by rfl) T.n_isinstance (by decide +kernel) (pa_cons (me_var (pv 0)) (pa_cons (pe_glob rfl T.g_Refused rfl) pa_nil)))) (ma_cons (pa_cons (me_is (cl := (.cls "BadRow")) (u := (.ref T.c_BadRow)) (T.isf _) ⟨by decide, T.c_BadRow, cm_BadRow T, rfl⟩ (pe_callB call_isM (by rfl) T.n_isinstance (by decide +kernel) (pa_cons (me_var (pv 0)) (pa_cons (pe_glob rfl T.g_BadRow rfl) pa_nil)))) (ma_cons (pa_cons (me_is (cl := (.cls "BadCounts")) (u := (.ref T.c_BadCounts)) (T.isf _) ⟨by decide, T.c_BadCounts, cm_BadCounts T, rfl⟩ (pe_callB call_isM (by rfl) T.n_isinstance (by decide +kernel) (pa_cons (me_var (pv 0)) (pa_cons (pe_glob rfl T.g_BadCounts rfl) pa_nil)))) (ma_nil pa_nil)))))))))))))
    (mss_cons (pss_cons (ms_set (ps_set (i := 1) sc_Lmarks.nd rfl (by first | exact Or.inl rfl | exact Or.inr rfl | exact Or.inr (Or.inl rfl) | exact Or.inr (Or.inr rfl)) (me_op (opm_add (b := false)) (pe_op Cs.op_addD (me_var (pv 1)) (me_lst (b := false) (pe_lst (ma_cons (pa_cons (me_is (cl := (.cls "NothingBinds")) (u := (.ref T.c_NothingBinds)) (T.isf _) ⟨by decide, T.c_NothingBinds, cm_NothingBinds T, rfl⟩ (pe_callB call_isM (by rfl) T.n_isinstance (by decide +kernel) (pa_cons (me_var (pv 0)) (pa_cons (pe_glob rfl T.g_NothingBinds rfl) pa_nil)))) (ma_cons (pa_cons (me_is (cl := (.cls "BadChain")) (u := (.ref T.c_BadChain)) (T.isf _) ⟨by decide, T.c_BadChain, cm_BadChain T, rfl⟩ (pe_callB call_isM (by rfl) T.n_isinstance (by decide +kernel) (pa_cons (me_var (pv 0)) (pa_cons (pe_glob rfl T.g_BadChain rfl) pa_nil)))) (ma_cons (pa_cons (me_is (cl := (.cls "Stopped")) (u := (.ref T.c_Stopped)) (T.isf _) ⟨by decide, T.c_Stopped, cm_Stopped T, rfl⟩ (pe_callB call_isM (by rfl) T.n_isinstance (by decide +kernel) (pa_cons (me_var (pv 0)) (pa_cons (pe_glob rfl T.g_Stopped rfl) pa_nil)))) (ma_nil pa_nil)))))))))))))
    (mss_cons (pss_cons (ms_set (ps_set (i := 1) sc_Lmarks.nd rfl (by first | exact Or.inl rfl | exact Or.inr rfl | exact Or.inr (Or.inl rfl) | exact Or.inr (Or.inr rfl)) (me_op (opm_add (b := false)) (pe_op Cs.op_addD (me_var (pv 1)) (me_lst (b := false) (pe_lst (ma_cons (pa_cons (me_is (cl := (.cls "BadVariants")) (u := (.ref T.c_BadVariants)) (T.isf _) ⟨by decide, T.c_BadVariants, cm_BadVariants T, rfl⟩ (pe_callB call_isM (by rfl) T.n_isinstance (by decide +kernel) (pa_cons (me_var (pv 0)) (pa_cons (pe_glob rfl T.g_BadVariants rfl) pa_nil)))) (ma_cons (pa_cons (me_is (cl := (.cls "BadVersions")) (u := (.ref T.c_BadVersions)) (T.isf _) ⟨by decide, T.c_BadVersions, cm_BadVersions T, rfl⟩ (pe_callB call_isM (by rfl) T.n_isinstance (by decide +kernel) (pa_cons (me_var (pv 0)) (pa_cons (pe_glob rfl T.g_BadVersions rfl) pa_nil)))) (ma_cons (pa_cons (me_is (cl := (.cls "BadMoves")) (u := (.ref T.c_BadMoves)) (T.isf _) ⟨by decide, T.c_BadMoves, cm_BadMoves T, rfl⟩ (pe_callB call_isM (by rfl) T.n_isinstance (by decide +kernel) (pa_cons (me_var (pv 0)) (pa_cons (pe_glob rfl T.g_BadMoves rfl) pa_nil)))) (ma_nil pa_nil)))))))))))))
    (mss_cons (pss_cons (ms_set (ps_set (i := 1) sc_Lmarks.nd rfl (by first | exact Or.inl rfl | exact Or.inr rfl | exact Or.inr (Or.inl rfl) | exact Or.inr (Or.inr rfl)) (me_op (opm_add (b := false)) (pe_op Cs.op_addD (me_var (pv 1)) (me_lst (b := false) (pe_lst (ma_cons (pa_cons (me_is (cl := (.cls "Breaks")) (u := (.ref T.c_Breaks)) (T.isf _) ⟨by decide, T.c_Breaks, cm_Breaks T, rfl⟩ (pe_callB call_isM (by rfl) T.n_isinstance (by decide +kernel) (pa_cons (me_var (pv 0)) (pa_cons (pe_glob rfl T.g_Breaks rfl) pa_nil)))) (ma_cons (pa_cons (me_is (cl := (.cls "NoFunction")) (u := (.ref T.c_NoFunction)) (T.isf _) ⟨by decide, T.c_NoFunction, cm_NoFunction T, rfl⟩ (pe_callB call_isM (by rfl) T.n_isinstance (by decide +kernel) (pa_cons (me_var (pv 0)) (pa_cons (pe_glob rfl T.g_NoFunction rfl) pa_nil)))) (ma_cons (pa_cons (me_is (cl := (.cls "NoSite")) (u := (.ref T.c_NoSite)) (T.isf _) ⟨by decide, T.c_NoSite, cm_NoSite T, rfl⟩ (pe_callB call_isM (by rfl) T.n_isinstance (by decide +kernel) (pa_cons (me_var (pv 0)) (pa_cons (pe_glob rfl T.g_NoSite rfl) pa_nil)))) (ma_nil pa_nil)))))))))))))
    (pss_one (ms_ret (ps_ret (me_op (opm_add (b := false)) (pe_op Cs.op_addD (me_var (pv 1)) (me_lst (b := false) (pe_lst (ma_cons (pa_cons (me_is (cl := (.cls "BadEntry")) (u := (.ref T.c_BadEntry)) (T.isf _) ⟨by decide, T.c_BadEntry, cm_BadEntry T, rfl⟩ (pe_callB call_isM (by rfl) T.n_isinstance (by decide +kernel) (pa_cons (me_var (pv 0)) (pa_cons (pe_glob rfl T.g_BadEntry rfl) pa_nil)))) (ma_cons (pa_cons (me_is (cl := (.cls "BadText")) (u := (.ref T.c_BadText)) (T.isf _) ⟨by decide, T.c_BadText, cm_BadText T, rfl⟩ (pe_callB call_isM (by rfl) T.n_isinstance (by decide +kernel) (pa_cons (me_var (pv 0)) (pa_cons (pe_glob rfl T.g_BadText rfl) pa_nil)))) (ma_nil pa_nil)))))))))))))))))))))))), pureM (N := ["_law_error", "_law_marks_here"]) h⟩
theorem sc_Lapart : FnScope ["_law_made", "_law_at", "_law_error", "_law_k", "_law_mark"] ["_law_made"] (defScope s_Lapart) := ⟨rfl, rfl, rfl, by decide +kernel, rfl, by decide +kernel, by decide +kernel⟩
theorem ok_Lapart (T : Tx K mg w base) : FnOk P w K mg base (L2.CX P w) 2 T.a_Lapart T.fd_Lapart ["_law_made"] (spM T.W m_Lapart) :=
  ok_fun T.F_Lapart sc_Lapart (fun vs H Q E h => by exact spM_len (P := 1) h) fun cdv A out s H vs Q E hr h => ⟨tS T.W E b_Lapart, (mss_cons (pss_cons (ms_for (ps_for (passes_own rfl) rfl (mi_enum (Cs.pi_enumA (by rfl) T.n_enumerate (ma_cons (pa_cons (me_var (pv 0)) (ma_nil pa_nil))))) (mg_tup (pg_tup rfl (mgs_cons (pgs_cons (mg_name (pg_name (i := 1) sc_Lapart.nd rfl (by first | exact Or.inl rfl | exact Or.inr rfl | exact Or.inr (Or.inl rfl) | exact Or.inr (Or.inr rfl)))) (mgs_cons (pgs_cons (mg_name (pg_name (i := 2) sc_Lapart.nd rfl (by first | exact Or.inl rfl | exact Or.inr rfl | exact Or.inr (Or.inl rfl) | exact Or.inr (Or.inr rfl)))) (mgs_nil pgs_nil))))))) (mss_cons (pss_cons (ms_if (ps_if (PW.pt (mw_or (pw_or (mt_not (pt_not (mt_val (pt_val (me_is (cl := (.cls "CallError")) (u := (.ref T.c_CallError)) (T.isf _) ⟨by decide, T.c_CallError, cm_CallError T, rfl⟩ (pe_callB call_isM (by rfl) T.n_isinstance (by decide +kernel) (pa_cons (me_var (pv 2)) (pa_cons (pe_glob rfl T.g_CallError rfl) pa_nil)))))))) (pw_or1 (mt_not (pt_not (mt_val (pt_val (me_is (cl := (.ty "ValueError")) (u := (.ty "ValueError")) (T.isf _) ⟨by decide, rfl⟩ (pe_callB call_isM (by rfl) T.n_isinstance (by decide +kernel) (pa_cons (me_var (pv 2)) (pa_cons (pe_bltn (v := .ty "ValueError") (by rfl) T.n_ValueError (by decide +kernel) rfl) pa_nil)))))))))))) (pss_one (ms_ret (ps_ret (me_bl pe_bl)))) (mss_nil pss_nil)))
    (pss_one (ms_if (ps_if (mt_cmp opm_ne (pt_cmpR (op_neZ hr.units) (me_lc (b := false) (lct_tup2 (by decide) (by decide)) (pe_lc (own := [("_law_k", 3), ("_law_mark", 4)]) (g := (gTup K 2 (gCons (gName 3) (gCons (gName 4) gNil)))) (tt := tT T.W E0' (mB (mVar 4))) (te := tE T.W E0' (mVar 3)) rfl sc_Lapart.nd (mi_enum (Cs.pi_enumA (by rfl) T.n_enumerate (ma_cons (pa_cons (me_call (pe_call (ok_Lmarks T) (hr.mono (by decide)) rfl T.g_Lmarks T.k_Lmarks T.b_Lmarks .nil (pass_at (takes_of rfl rfl rfl rfl)) (by exact (ma_cons (pa_cons (me_var (pv 2)) (ma_nil pa_nil)))))) (ma_nil pa_nil))))) (blkOk_by (own := [("_law_k", 3), ("_law_mark", 4)]) (N := ["_law_made", "_law_at", "_law_error", "_law_k", "_law_mark"]) (sc := defScope s_Lapart) (by decide +kernel)) (fun _ _ _ _ _ => (pg_tup rfl (pgs_cons (pg_name (i := 3) sc_Lapart.nd rfl (by first | exact Or.inl rfl | exact Or.inr rfl | exact Or.inr (Or.inl rfl) | exact Or.inr (Or.inr rfl))) (pgs_cons (pg_name (i := 4) sc_Lapart.nd rfl (by first | exact Or.inl rfl | exact Or.inr rfl | exact Or.inr (Or.inl rfl) | exact Or.inr (Or.inr rfl))) pgs_nil)))) (fun _ _ _ _ _ => ((pts_one (mt_val (pt_val (me_var (pv 4))))))) (fun _ _ _ _ _ => (me_var (pv 3))))) (me_lst (b := false) (pe_lst (ma_cons (pa_cons (me_var (pv 1)) (ma_nil pa_nil))))) (nomark _))) (pss_one (ms_ret (ps_ret (me_bl pe_bl)))) (mss_nil pss_nil))))))))
    (pss_one (ms_ret (ps_ret (me_bl pe_bl)))))), pureM (N := ["_law_made", "_law_at", "_law_error", "_law_k", "_law_mark"]) h⟩
theorem sc_Lbegin : FnScope ["_law_cell", "_law_turn"] ["_law_cell", "_law_turn"] (defScope s_Lbegin) := ⟨rfl, rfl, rfl, by decide +kernel, rfl, by decide +kernel, by decide +kernel⟩
theorem ok_Lbegin (T : Tx K mg w base) : FnOk P w K mg base (L2.CX P w) 1 T.a_Lbegin T.fd_Lbegin ["_law_cell", "_law_turn"] (spM T.W m_Lbegin) :=
  ok_fun T.F_Lbegin sc_Lbegin (fun vs H Q E h => by exact spM_len (P := 2) h) fun cdv A out s H vs Q E hr h => ⟨tS T.W E b_Lbegin, (pss_one (ms_ret (ps_ret (me_lst (b := true) (pe_lst (ma_cons (pa_cons (me_cb cbm_max2 (pe_callB (Cs.call_max2X rfl) (by rfl) T.n_max (by decide +kernel) (ma_cons (pa_cons (me_int pe_int) (ma_cons (pa_cons (me_op opm_sub (pe_op op_sub (me_var (pv 0)) (me_op opm_pow (pe_op Cs.op_powW (me_int pe_int) (me_int pe_int))))) (ma_nil pa_nil))))))) (ma_cons (pa_cons (me_op (opm_add (b := false)) (pe_op Cs.op_addD (me_var (pv 0)) (me_op (opm_mul (b := false)) (pe_op Cs.op_mulD (me_int pe_int) (me_var (pv 1)))))) (ma_cons (pa_cons (me_int pe_int) (ma_nil pa_nil)))))))))))), pureM (N := ["_law_cell", "_law_turn"]) h⟩
theorem sc_BadChain_dinitd : FnScope ["self", "index"] ["self", "index"] (defScope s_BadChain_dinitd) := ⟨rfl, rfl, rfl, by decide +kernel, rfl, by decide +kernel, by decide +kernel⟩
theorem ok_BadChain_dinitd (T : Tx K mg w base) : FnOk P w K mg base (L2.CX P w) 1 T.a_BadChain_dinitd T.fd_BadChain_dinitd ["self", "index"] (spXI K "index") :=
  ok_fun T.F_BadChain_dinitd sc_BadChain_dinitd (fun vs H Q E h => by exact spXI_len h) fun cdv A out s H vs Q E hr h => ⟨_, pss_cons (ps_expr (pe_basinit rfl T.g_CallError T.cr_CallError T.bi (pa_cons (pv 0) (pa_cons pe_str pa_nil)))) (pss_one (ps_ost (pv 0) (pv 1))), pureXI h⟩
theorem sc_BadEntry_dinitd : FnScope ["self", "index"] ["self", "index"] (defScope s_BadEntry_dinitd) := ⟨rfl, rfl, rfl, by decide +kernel, rfl, by decide +kernel, by decide +kernel⟩
theorem ok_BadEntry_dinitd (T : Tx K mg w base) : FnOk P w K mg base (L2.CX P w) 1 T.a_BadEntry_dinitd T.fd_BadEntry_dinitd ["self", "index"] (spXI K "index") :=
  ok_fun T.F_BadEntry_dinitd sc_BadEntry_dinitd (fun vs H Q E h => by exact spXI_len h) fun cdv A out s H vs Q E hr h => ⟨_, pss_cons (ps_expr (pe_basinit rfl T.g_CallError T.cr_CallError T.bi (pa_cons (pv 0) (pa_cons pe_str pa_nil)))) (pss_one (ps_ost (pv 0) (pv 1))), pureXI h⟩
theorem sc_BadMoves_dinitd : FnScope ["self", "index"] ["self", "index"] (defScope s_BadMoves_dinitd) := ⟨rfl, rfl, rfl, by decide +kernel, rfl, by decide +kernel, by decide +kernel⟩
theorem ok_BadMoves_dinitd (T : Tx K mg w base) : FnOk P w K mg base (L2.CX P w) 1 T.a_BadMoves_dinitd T.fd_BadMoves_dinitd ["self", "index"] (spXI K "index") :=
  ok_fun T.F_BadMoves_dinitd sc_BadMoves_dinitd (fun vs H Q E h => by exact spXI_len h) fun cdv A out s H vs Q E hr h => ⟨_, pss_cons (ps_expr (pe_basinit rfl T.g_CallError T.cr_CallError T.bi (pa_cons (pv 0) (pa_cons pe_str pa_nil)))) (pss_one (ps_ost (pv 0) (pv 1))), pureXI h⟩
theorem sc_BadPiece_dinitd : FnScope ["self", "index"] ["self", "index"] (defScope s_BadPiece_dinitd) := ⟨rfl, rfl, rfl, by decide +kernel, rfl, by decide +kernel, by decide +kernel⟩
theorem ok_BadPiece_dinitd (T : Tx K mg w base) : FnOk P w K mg base (L2.CX P w) 1 T.a_BadPiece_dinitd T.fd_BadPiece_dinitd ["self", "index"] (spXI K "index") :=
  ok_fun T.F_BadPiece_dinitd sc_BadPiece_dinitd (fun vs H Q E h => by exact spXI_len h) fun cdv A out s H vs Q E hr h => ⟨_, pss_cons (ps_expr (pe_basinit rfl T.g_CallError T.cr_CallError T.bi (pa_cons (pv 0) (pa_cons pe_str pa_nil)))) (pss_one (ps_ost (pv 0) (pv 1))), pureXI h⟩
theorem sc_BadRow_dinitd : FnScope ["self", "index"] ["self", "index"] (defScope s_BadRow_dinitd) := ⟨rfl, rfl, rfl, by decide +kernel, rfl, by decide +kernel, by decide +kernel⟩
theorem ok_BadRow_dinitd (T : Tx K mg w base) : FnOk P w K mg base (L2.CX P w) 1 T.a_BadRow_dinitd T.fd_BadRow_dinitd ["self", "index"] (spXI K "index") :=
  ok_fun T.F_BadRow_dinitd sc_BadRow_dinitd (fun vs H Q E h => by exact spXI_len h) fun cdv A out s H vs Q E hr h => ⟨_, pss_cons (ps_expr (pe_basinit rfl T.g_CallError T.cr_CallError T.bi (pa_cons (pv 0) (pa_cons pe_str pa_nil)))) (pss_one (ps_ost (pv 0) (pv 1))), pureXI h⟩
theorem sc_BadSignature_dinitd : FnScope ["self", "index"] ["self", "index"] (defScope s_BadSignature_dinitd) := ⟨rfl, rfl, rfl, by decide +kernel, rfl, by decide +kernel, by decide +kernel⟩
theorem ok_BadSignature_dinitd (T : Tx K mg w base) : FnOk P w K mg base (L2.CX P w) 1 T.a_BadSignature_dinitd T.fd_BadSignature_dinitd ["self", "index"] (spXI K "index") :=
  ok_fun T.F_BadSignature_dinitd sc_BadSignature_dinitd (fun vs H Q E h => by exact spXI_len h) fun cdv A out s H vs Q E hr h => ⟨_, pss_cons (ps_expr (pe_basinit rfl T.g_CallError T.cr_CallError T.bi (pa_cons (pv 0) (pa_cons pe_str pa_nil)))) (pss_one (ps_ost (pv 0) (pv 1))), pureXI h⟩
theorem sc_BadText_dinitd : FnScope ["self", "index"] ["self", "index"] (defScope s_BadText_dinitd) := ⟨rfl, rfl, rfl, by decide +kernel, rfl, by decide +kernel, by decide +kernel⟩
theorem ok_BadText_dinitd (T : Tx K mg w base) : FnOk P w K mg base (L2.CX P w) 1 T.a_BadText_dinitd T.fd_BadText_dinitd ["self", "index"] (spXI K "index") :=
  ok_fun T.F_BadText_dinitd sc_BadText_dinitd (fun vs H Q E h => by exact spXI_len h) fun cdv A out s H vs Q E hr h => ⟨_, pss_cons (ps_expr (pe_basinit rfl T.g_CallError T.cr_CallError T.bi (pa_cons (pv 0) (pa_cons pe_str pa_nil)))) (pss_one (ps_ost (pv 0) (pv 1))), pureXI h⟩
theorem sc_BadVariants_dinitd : FnScope ["self", "index"] ["self", "index"] (defScope s_BadVariants_dinitd) := ⟨rfl, rfl, rfl, by decide +kernel, rfl, by decide +kernel, by decide +kernel⟩
theorem ok_BadVariants_dinitd (T : Tx K mg w base) : FnOk P w K mg base (L2.CX P w) 1 T.a_BadVariants_dinitd T.fd_BadVariants_dinitd ["self", "index"] (spXI K "index") :=
  ok_fun T.F_BadVariants_dinitd sc_BadVariants_dinitd (fun vs H Q E h => by exact spXI_len h) fun cdv A out s H vs Q E hr h => ⟨_, pss_cons (ps_expr (pe_basinit rfl T.g_CallError T.cr_CallError T.bi (pa_cons (pv 0) (pa_cons pe_str pa_nil)))) (pss_one (ps_ost (pv 0) (pv 1))), pureXI h⟩
theorem sc_BadVersions_dinitd : FnScope ["self", "index"] ["self", "index"] (defScope s_BadVersions_dinitd) := ⟨rfl, rfl, rfl, by decide +kernel, rfl, by decide +kernel, by decide +kernel⟩
theorem ok_BadVersions_dinitd (T : Tx K mg w base) : FnOk P w K mg base (L2.CX P w) 1 T.a_BadVersions_dinitd T.fd_BadVersions_dinitd ["self", "index"] (spXI K "index") :=
  ok_fun T.F_BadVersions_dinitd sc_BadVersions_dinitd (fun vs H Q E h => by exact spXI_len h) fun cdv A out s H vs Q E hr h => ⟨_, pss_cons (ps_expr (pe_basinit rfl T.g_CallError T.cr_CallError T.bi (pa_cons (pv 0) (pa_cons pe_str pa_nil)))) (pss_one (ps_ost (pv 0) (pv 1))), pureXI h⟩
theorem sc_Breaks_dinitd : FnScope ["self", "numbers"] ["self", "numbers"] (defScope s_Breaks_dinitd) := ⟨rfl, rfl, rfl, by decide +kernel, rfl, by decide +kernel, by decide +kernel⟩
theorem ok_Breaks_dinitd (T : Tx K mg w base) : FnOk P w K mg base (L2.CX P w) 1 T.a_Breaks_dinitd T.fd_Breaks_dinitd ["self", "numbers"] (spXI K "numbers") :=
  ok_fun T.F_Breaks_dinitd sc_Breaks_dinitd (fun vs H Q E h => by exact spXI_len h) fun cdv A out s H vs Q E hr h => ⟨_, pss_cons (ps_expr (pe_basinit rfl T.g_CallError T.cr_CallError T.bi (pa_cons (pv 0) (pa_cons pe_str pa_nil)))) (pss_one (ps_ost (pv 0) (pv 1))), pureXI h⟩
theorem sc_NoFunction_dinitd : FnScope ["self", "name"] ["self", "name"] (defScope s_NoFunction_dinitd) := ⟨rfl, rfl, rfl, by decide +kernel, rfl, by decide +kernel, by decide +kernel⟩
theorem ok_NoFunction_dinitd (T : Tx K mg w base) : FnOk P w K mg base (L2.CX P w) 1 T.a_NoFunction_dinitd T.fd_NoFunction_dinitd ["self", "name"] (spXI K "name") :=
  ok_fun T.F_NoFunction_dinitd sc_NoFunction_dinitd (fun vs H Q E h => by exact spXI_len h) fun cdv A out s H vs Q E hr h => ⟨_, pss_cons (ps_expr (pe_basinit rfl T.g_CallError T.cr_CallError T.bi (pa_cons (pv 0) (pa_cons pe_str pa_nil)))) (pss_one (ps_ost (pv 0) (pv 1))), pureXI h⟩
theorem sc_NoName_dinitd : FnScope ["self", "name"] ["self", "name"] (defScope s_NoName_dinitd) := ⟨rfl, rfl, rfl, by decide +kernel, rfl, by decide +kernel, by decide +kernel⟩
theorem ok_NoName_dinitd (T : Tx K mg w base) : FnOk P w K mg base (L2.CX P w) 1 T.a_NoName_dinitd T.fd_NoName_dinitd ["self", "name"] (spXI K "name") :=
  ok_fun T.F_NoName_dinitd sc_NoName_dinitd (fun vs H Q E h => by exact spXI_len h) fun cdv A out s H vs Q E hr h => ⟨_, pss_cons (ps_expr (pe_basinit rfl T.g_CallError T.cr_CallError T.bi (pa_cons (pv 0) (pa_cons pe_str pa_nil)))) (pss_one (ps_ost (pv 0) (pv 1))), pureXI h⟩
theorem sc_NoSite_dinitd : FnScope ["self", "number"] ["self", "number"] (defScope s_NoSite_dinitd) := ⟨rfl, rfl, rfl, by decide +kernel, rfl, by decide +kernel, by decide +kernel⟩
theorem ok_NoSite_dinitd (T : Tx K mg w base) : FnOk P w K mg base (L2.CX P w) 1 T.a_NoSite_dinitd T.fd_NoSite_dinitd ["self", "number"] (spXI K "number") :=
  ok_fun T.F_NoSite_dinitd sc_NoSite_dinitd (fun vs H Q E h => by exact spXI_len h) fun cdv A out s H vs Q E hr h => ⟨_, pss_cons (ps_expr (pe_basinit rfl T.g_CallError T.cr_CallError T.bi (pa_cons (pv 0) (pa_cons pe_str pa_nil)))) (pss_one (ps_ost (pv 0) (pv 1))), pureXI h⟩
theorem sc_Refused_dinitd : FnScope ["self", "obstruction"] ["self", "obstruction"] (defScope s_Refused_dinitd) := ⟨rfl, rfl, rfl, by decide +kernel, rfl, by decide +kernel, by decide +kernel⟩
theorem ok_Refused_dinitd (T : Tx K mg w base) : FnOk P w K mg base (L2.CX P w) 1 T.a_Refused_dinitd T.fd_Refused_dinitd ["self", "obstruction"] (spXI K "obstruction") :=
  ok_fun T.F_Refused_dinitd sc_Refused_dinitd (fun vs H Q E h => by exact spXI_len h) fun cdv A out s H vs Q E hr h => ⟨_, pss_cons (ps_expr (pe_basinit rfl T.g_CallError T.cr_CallError T.bi (pa_cons (pv 0) (pa_cons pe_str pa_nil)))) (pss_one (ps_ost (pv 0) (pv 1))), pureXI h⟩
theorem sc_Repeated_dinitd : FnScope ["self", "name"] ["self", "name"] (defScope s_Repeated_dinitd) := ⟨rfl, rfl, rfl, by decide +kernel, rfl, by decide +kernel, by decide +kernel⟩
theorem ok_Repeated_dinitd (T : Tx K mg w base) : FnOk P w K mg base (L2.CX P w) 1 T.a_Repeated_dinitd T.fd_Repeated_dinitd ["self", "name"] (spXI K "name") :=
  ok_fun T.F_Repeated_dinitd sc_Repeated_dinitd (fun vs H Q E h => by exact spXI_len h) fun cdv A out s H vs Q E hr h => ⟨_, pss_cons (ps_expr (pe_basinit rfl T.g_CallError T.cr_CallError T.bi (pa_cons (pv 0) (pa_cons pe_str pa_nil)))) (pss_one (ps_ost (pv 0) (pv 1))), pureXI h⟩
theorem sc_Stopped_dinitd : FnScope ["self", "index", "reason"] ["self", "index", "reason"] (defScope s_Stopped_dinitd) := ⟨rfl, rfl, rfl, by decide +kernel, rfl, by decide +kernel, by decide +kernel⟩
theorem ok_Stopped_dinitd (T : Tx K mg w base) : FnOk P w K mg base (L2.CX P w) 1 T.a_Stopped_dinitd T.fd_Stopped_dinitd ["self", "index", "reason"] (spXI2 K "index" "reason") :=
  ok_fun T.F_Stopped_dinitd sc_Stopped_dinitd (fun vs H Q E h => by exact spXI2_len h) fun cdv A out s H vs Q E hr h => ⟨_, pss_cons (ps_expr (pe_basinit rfl T.g_CallError T.cr_CallError T.bi (pa_cons (pv 0) (pa_cons pe_str pa_nil)))) (pss_cons (ps_ost (pv 0) (pv 1)) (pss_one (ps_ost (pv 0) (pv 2)))), pureXI2 h⟩
theorem sc_Lby_position : FnScope ["_law_one", "_law_two", "_law_made"] ["_law_one", "_law_two"] (defScope s_Lby_position) := ⟨rfl, rfl, rfl, by decide +kernel, rfl, by decide +kernel, by decide +kernel⟩
theorem ok_Lby_position (T : Tx K mg w base) : FnOk P w K mg base (L2.CX P w) 3 T.a_Lby_position T.fd_Lby_position ["_law_one", "_law_two"] (spM T.W m_Lby_position) :=
  ok_fun T.F_Lby_position sc_Lby_position (fun vs H Q E h => by exact spM_len (P := 2) h) fun cdv A out s H vs Q E hr h => ⟨tS T.W E b_Lby_position, (mss_cons (pss_cons (ms_set (ps_set (i := 2) sc_Lby_position.nd rfl (by first | exact Or.inl rfl | exact Or.inr rfl | exact Or.inr (Or.inl rfl) | exact Or.inr (Or.inr rfl)) (me_lst (b := false) (pe_lst (ma_cons (pa_cons (me_mkX0 (cm_BadParameter T) (pe_mkX (pmk_own PySem.F.excBase_ValueError T.x_BadParameter T.g_BadParameter T.kp_BadParameter (raises_own T.sb_BadParameter T.ty_BadParameter) (by rfl)))) (ma_cons (pa_cons (me_mkX1 (cm_BadSignature T) T.ox_BadSignature T.nf_BadSignature_index (pe_mkX (pmk_oex T.ox_BadSignature T.in_BadSignature T.ti_BadSignature (ok_BadSignature_dinitd T) (hr.mono (by decide)) T.b_BadSignature_dinitd .nil pass_no rfl T.g_BadSignature (ma_cons (pa_cons (me_var (pv 0)) (ma_nil pa_nil)))))) (ma_cons (pa_cons (me_mkX1 (cm_NoName T) T.ox_NoName T.nf_NoName_name (pe_mkX (pmk_oex T.ox_NoName T.in_NoName T.ti_NoName (ok_NoName_dinitd T) (hr.mono (by decide)) T.b_NoName_dinitd .nil pass_no rfl T.g_NoName (ma_cons (pa_cons (me_var (pv 0)) (ma_nil pa_nil)))))) (ma_cons (pa_cons (me_mkX0 (cm_BadCall T) (pe_mkX (pmk_own PySem.F.excBase_ValueError T.x_BadCall T.g_BadCall T.kp_BadCall (raises_own T.sb_BadCall T.ty_BadCall) (by rfl)))) (ma_cons (pa_cons (me_mkX1 (cm_BadPiece T) T.ox_BadPiece T.nf_BadPiece_index (pe_mkX (pmk_oex T.ox_BadPiece T.in_BadPiece T.ti_BadPiece (ok_BadPiece_dinitd T) (hr.mono (by decide)) T.b_BadPiece_dinitd .nil pass_no rfl T.g_BadPiece (ma_cons (pa_cons (me_var (pv 0)) (ma_nil pa_nil)))))) (ma_cons (pa_cons (me_mkX1 (cm_Repeated T) T.ox_Repeated T.nf_Repeated_name (pe_mkX (pmk_oex T.ox_Repeated T.in_Repeated T.ti_Repeated (ok_Repeated_dinitd T) (hr.mono (by decide)) T.b_Repeated_dinitd .nil pass_no rfl T.g_Repeated (ma_cons (pa_cons (me_var (pv 0)) (ma_nil pa_nil)))))) (ma_nil pa_nil)))))))))))))))))
    (mss_cons (pss_cons (ms_set (ps_set (i := 2) sc_Lby_position.nd rfl (by first | exact Or.inl rfl | exact Or.inr rfl | exact Or.inr (Or.inl rfl) | exact Or.inr (Or.inr rfl)) (me_op (opm_add (b := false)) (pe_op Cs.op_addD (me_var (pv 2)) (me_lst (b := false) (pe_lst (ma_cons (pa_cons (me_mkX1 (cm_Refused T) T.ox_Refused T.nf_Refused_obstruction (pe_mkX (pmk_oex T.ox_Refused T.in_Refused T.ti_Refused (ok_Refused_dinitd T) (hr.mono (by decide)) T.b_Refused_dinitd .nil pass_no rfl T.g_Refused (ma_cons (pa_cons (me_var (pv 0)) (ma_nil pa_nil)))))) (ma_cons (pa_cons (me_mkX1 (cm_BadRow T) T.ox_BadRow T.nf_BadRow_index (pe_mkX (pmk_oex T.ox_BadRow T.in_BadRow T.ti_BadRow (ok_BadRow_dinitd T) (hr.mono (by decide)) T.b_BadRow_dinitd .nil pass_no rfl T.g_BadRow (ma_cons (pa_cons (me_var (pv 0)) (ma_nil pa_nil)))))) (ma_cons (pa_cons (me_mkX0 (cm_BadCounts T) (pe_mkX (pmk_own PySem.F.excBase_ValueError T.x_BadCounts T.g_BadCounts T.kp_BadCounts (raises_own T.sb_BadCounts T.ty_BadCounts) (by rfl)))) (ma_cons (pa_cons (me_mkX0 (cm_NothingBinds T) (pe_mkX (pmk_own PySem.F.excBase_ValueError T.x_NothingBinds T.g_NothingBinds T.kp_NothingBinds (raises_own T.sb_NothingBinds T.ty_NothingBinds) (by rfl)))) (ma_cons (pa_cons (me_mkX1 (cm_BadChain T) T.ox_BadChain T.nf_BadChain_index (pe_mkX (pmk_oex T.ox_BadChain T.in_BadChain T.ti_BadChain (ok_BadChain_dinitd T) (hr.mono (by decide)) T.b_BadChain_dinitd .nil pass_no rfl T.g_BadChain (ma_cons (pa_cons (me_var (pv 0)) (ma_nil pa_nil)))))) (ma_cons (pa_cons (me_mkX2 (cm_Stopped T) T.ox_Stopped T.nf_Stopped_index T.nf_Stopped_reason (pe_mkX (pmk_oex T.ox_Stopped T.in_Stopped T.ti_Stopped (ok_Stopped_dinitd T) (hr.mono (by decide)) T.b_Stopped_dinitd .nil pass_no rfl T.g_Stopped (ma_cons (pa_cons (me_var (pv 0)) (ma_cons (pa_cons (me_var (pv 1)) (ma_nil pa_nil)))))))) (ma_nil pa_nil)))))))))))))))))))
    (mss_cons (pss_cons (ms_set (ps_set (i := 2) sc_Lby_position.nd rfl (by first | exact Or.inl rfl | exact Or.inr rfl | exact Or.inr (Or.inl rfl) | exact Or.inr (Or.inr rfl)) (me_op (opm_add (b := false)) (pe_op Cs.op_addD (me_var (pv 2)) (me_lst (b := false) (pe_lst (ma_cons (pa_cons (me_mkX1 (cm_BadVariants T) T.ox_BadVariants T.nf_BadVariants_index (pe_mkX (pmk_oex T.ox_BadVariants T.in_BadVariants T.ti_BadVariants (ok_BadVariants_dinitd T) (hr.mono (by decide)) T.b_BadVariants_dinitd .nil pass_no rfl T.g_BadVariants (ma_cons (pa_cons (me_var (pv 0)) (ma_nil pa_nil)))))) (ma_cons (pa_cons (me_mkX1 (cm_BadVersions T) T.ox_BadVersions T.nf_BadVersions_index (pe_mkX (pmk_oex T.ox_BadVersions T.in_BadVersions T.ti_BadVersions (ok_BadVersions_dinitd T) (hr.mono (by decide)) T.b_BadVersions_dinitd .nil pass_no rfl T.g_BadVersions (ma_cons (pa_cons (me_var (pv 0)) (ma_nil pa_nil)))))) (ma_cons (pa_cons (me_mkX1 (cm_BadMoves T) T.ox_BadMoves T.nf_BadMoves_index (pe_mkX (pmk_oex T.ox_BadMoves T.in_BadMoves T.ti_BadMoves (ok_BadMoves_dinitd T) (hr.mono (by decide)) T.b_BadMoves_dinitd .nil pass_no rfl T.g_BadMoves (ma_cons (pa_cons (me_var (pv 0)) (ma_nil pa_nil)))))) (ma_cons (pa_cons (me_mkX1 (cm_Breaks T) T.ox_Breaks T.nf_Breaks_numbers (pe_mkX (pmk_oex T.ox_Breaks T.in_Breaks T.ti_Breaks (ok_Breaks_dinitd T) (hr.mono (by decide)) T.b_Breaks_dinitd .nil pass_no rfl T.g_Breaks (ma_cons (pa_cons (me_var (pv 0)) (ma_nil pa_nil)))))) (ma_cons (pa_cons (me_mkX1 (cm_NoFunction T) T.ox_NoFunction T.nf_NoFunction_name (pe_mkX (pmk_oex T.ox_NoFunction T.in_NoFunction T.ti_NoFunction (ok_NoFunction_dinitd T) (hr.mono (by decide)) T.b_NoFunction_dinitd .nil pass_no rfl T.g_NoFunction (ma_cons (pa_cons (me_var (pv 0)) (ma_nil pa_nil)))))) (ma_cons (pa_cons (me_mkX1 (cm_NoSite T) T.ox_NoSite T.nf_NoSite_number (pe_mkX (pmk_oex T.ox_NoSite T.in_NoSite T.ti_NoSite (ok_NoSite_dinitd T) (hr.mono (by decide)) T.b_NoSite_dinitd .nil pass_no rfl T.g_NoSite (ma_cons (pa_cons (me_var (pv 0)) (ma_nil pa_nil)))))) (ma_nil pa_nil)))))))))))))))))))
    (pss_one (ms_ret (ps_ret (me_op (opm_add (b := false)) (pe_op Cs.op_addD (me_var (pv 2)) (me_lst (b := false) (pe_lst (ma_cons (pa_cons (me_mkX1 (cm_BadEntry T) T.ox_BadEntry T.nf_BadEntry_index (pe_mkX (pmk_oex T.ox_BadEntry T.in_BadEntry T.ti_BadEntry (ok_BadEntry_dinitd T) (hr.mono (by decide)) T.b_BadEntry_dinitd .nil pass_no rfl T.g_BadEntry (ma_cons (pa_cons (me_var (pv 0)) (ma_nil pa_nil)))))) (ma_cons (pa_cons (me_mkX1 (cm_BadText T) T.ox_BadText T.nf_BadText_index (pe_mkX (pmk_oex T.ox_BadText T.in_BadText T.ti_BadText (ok_BadText_dinitd T) (hr.mono (by decide)) T.b_BadText_dinitd .nil pass_no rfl T.g_BadText (ma_cons (pa_cons (me_var (pv 0)) (ma_nil pa_nil)))))) (ma_nil pa_nil)))))))))))))))))), pureM (N := ["_law_one", "_law_two", "_law_made"]) h⟩
theorem sc_Lby_word : FnScope ["_law_one", "_law_two", "_law_made"] ["_law_one", "_law_two"] (defScope s_Lby_word) := ⟨rfl, rfl, rfl, by decide +kernel, rfl, by decide +kernel, by decide +kernel⟩
theorem ok_Lby_word (T : Tx K mg w base) : FnOk P w K mg base (L2.CX P w) 3 T.a_Lby_word T.fd_Lby_word ["_law_one", "_law_two"] (spM T.W m_Lby_word) :=
  ok_fun T.F_Lby_word sc_Lby_word (fun vs H Q E h => by exact spM_len (P := 2) h) fun cdv A out s H vs Q E hr h => ⟨tS T.W E b_Lby_word, (mss_cons (pss_cons (ms_set (ps_set (i := 2) sc_Lby_word.nd rfl (by first | exact Or.inl rfl | exact Or.inr rfl | exact Or.inr (Or.inl rfl) | exact Or.inr (Or.inr rfl)) (me_lst (b := false) (pe_lst (ma_cons (pa_cons (me_mkX0 (cm_BadParameter T) (pe_mkX (pmk_own PySem.F.excBase_ValueError T.x_BadParameter T.g_BadParameter T.kp_BadParameter (raises_own T.sb_BadParameter T.ty_BadParameter) (by rfl)))) (ma_cons (pa_cons (me_mkXK1 (cm_BadSignature T) T.ox_BadSignature T.nf_BadSignature_index (pe_mkX (pmk_oexK (ks := ["index"]) T.ox_BadSignature T.in_BadSignature T.ti_BadSignature (ok_BadSignature_dinitd T) (hr.mono (by decide)) T.kw_BadSignature_dinitd_1_index pass_no rfl T.g_BadSignature (mk_cons (pk_cons (me_var (pv 0)) (mk_nil pk_nil)))))) (ma_cons (pa_cons (me_mkXK1 (cm_NoName T) T.ox_NoName T.nf_NoName_name (pe_mkX (pmk_oexK (ks := ["name"]) T.ox_NoName T.in_NoName T.ti_NoName (ok_NoName_dinitd T) (hr.mono (by decide)) T.kw_NoName_dinitd_1_name pass_no rfl T.g_NoName (mk_cons (pk_cons (me_var (pv 0)) (mk_nil pk_nil)))))) (ma_cons (pa_cons (me_mkX0 (cm_BadCall T) (pe_mkX (pmk_own PySem.F.excBase_ValueError T.x_BadCall T.g_BadCall T.kp_BadCall (raises_own T.sb_BadCall T.ty_BadCall) (by rfl)))) (ma_cons (pa_cons (me_mkXK1 (cm_BadPiece T) T.ox_BadPiece T.nf_BadPiece_index (pe_mkX (pmk_oexK (ks := ["index"]) T.ox_BadPiece T.in_BadPiece T.ti_BadPiece (ok_BadPiece_dinitd T) (hr.mono (by decide)) T.kw_BadPiece_dinitd_1_index pass_no rfl T.g_BadPiece (mk_cons (pk_cons (me_var (pv 0)) (mk_nil pk_nil)))))) (ma_nil pa_nil)))))))))))))))
    (mss_cons (pss_cons (ms_set (ps_set (i := 2) sc_Lby_word.nd rfl (by first | exact Or.inl rfl | exact Or.inr rfl | exact Or.inr (Or.inl rfl) | exact Or.inr (Or.inr rfl)) (me_op (opm_add (b := false)) (pe_op Cs.op_addD (me_var (pv 2)) (me_lst (b := false) (pe_lst (ma_cons (pa_cons (me_mkXK1 (cm_Repeated T) T.ox_Repeated T.nf_Repeated_name (pe_mkX (pmk_oexK (ks := ["name"]) T.ox_Repeated T.in_Repeated T.ti_Repeated (ok_Repeated_dinitd T) (hr.mono (by decide)) T.kw_Repeated_dinitd_1_name pass_no rfl T.g_Repeated (mk_cons (pk_cons (me_var (pv 0)) (mk_nil pk_nil)))))) (ma_cons (pa_cons (me_mkXK1 (cm_Refused T) T.ox_Refused T.nf_Refused_obstruction (pe_mkX (pmk_oexK (ks := ["obstruction"]) T.ox_Refused T.in_Refused T.ti_Refused (ok_Refused_dinitd T) (hr.mono (by decide)) T.kw_Refused_dinitd_1_obstruction pass_no rfl T.g_Refused (mk_cons (pk_cons (me_var (pv 0)) (mk_nil pk_nil)))))) (ma_cons (pa_cons (me_mkXK1 (cm_BadRow T) T.ox_BadRow T.nf_BadRow_index (pe_mkX (pmk_oexK (ks := ["index"]) T.ox_BadRow T.in_BadRow T.ti_BadRow (ok_BadRow_dinitd T) (hr.mono (by decide)) T.kw_BadRow_dinitd_1_index pass_no rfl T.g_BadRow (mk_cons (pk_cons (me_var (pv 0)) (mk_nil pk_nil)))))) (ma_cons (pa_cons (me_mkX0 (cm_BadCounts T) (pe_mkX (pmk_own PySem.F.excBase_ValueError T.x_BadCounts T.g_BadCounts T.kp_BadCounts (raises_own T.sb_BadCounts T.ty_BadCounts) (by rfl)))) (ma_nil pa_nil)))))))))))))))
    (mss_cons (pss_cons (ms_set (ps_set (i := 2) sc_Lby_word.nd rfl (by first | exact Or.inl rfl | exact Or.inr rfl | exact Or.inr (Or.inl rfl) | exact Or.inr (Or.inr rfl)) (me_op (opm_add (b := false)) (pe_op Cs.op_addD (me_var (pv 2)) (me_lst (b := false) (pe_lst (ma_cons (pa_cons (me_mkX0 (cm_NothingBinds T) (pe_mkX (pmk_own PySem.F.excBase_ValueError T.x_NothingBinds T.g_NothingBinds T.kp_NothingBinds (raises_own T.sb_NothingBinds T.ty_NothingBinds) (by rfl)))) (ma_cons (pa_cons (me_mkXK1 (cm_BadChain T) T.ox_BadChain T.nf_BadChain_index (pe_mkX (pmk_oexK (ks := ["index"]) T.ox_BadChain T.in_BadChain T.ti_BadChain (ok_BadChain_dinitd T) (hr.mono (by decide)) T.kw_BadChain_dinitd_1_index pass_no rfl T.g_BadChain (mk_cons (pk_cons (me_var (pv 0)) (mk_nil pk_nil)))))) (ma_cons (pa_cons (me_mkXK2 (cm_Stopped T) T.ox_Stopped T.nf_Stopped_index T.nf_Stopped_reason (pe_mkX (pmk_oexK (ks := ["reason", "index"]) T.ox_Stopped T.in_Stopped T.ti_Stopped (ok_Stopped_dinitd T) (hr.mono (by decide)) T.kw_Stopped_dinitd_1_reason_index pass_no rfl T.g_Stopped (mk_cons (pk_cons (me_var (pv 1)) (mk_cons (pk_cons (me_var (pv 0)) (mk_nil pk_nil)))))))) (ma_cons (pa_cons (me_mkXK1 (cm_BadVariants T) T.ox_BadVariants T.nf_BadVariants_index (pe_mkX (pmk_oexK (ks := ["index"]) T.ox_BadVariants T.in_BadVariants T.ti_BadVariants (ok_BadVariants_dinitd T) (hr.mono (by decide)) T.kw_BadVariants_dinitd_1_index pass_no rfl T.g_BadVariants (mk_cons (pk_cons (me_var (pv 0)) (mk_nil pk_nil)))))) (ma_nil pa_nil)))))))))))))))
    (mss_cons (pss_cons (ms_set (ps_set (i := 2) sc_Lby_word.nd rfl (by first | exact Or.inl rfl | exact Or.inr rfl | exact Or.inr (Or.inl rfl) | exact Or.inr (Or.inr rfl)) (me_op (opm_add (b := false)) (pe_op Cs.op_addD (me_var (pv 2)) (me_lst (b := false) (pe_lst (ma_cons (pa_cons (me_mkXK1 (cm_BadVersions T) T.ox_BadVersions T.nf_BadVersions_index (pe_mkX (pmk_oexK (ks := ["index"]) T.ox_BadVersions T.in_BadVersions T.ti_BadVersions (ok_BadVersions_dinitd T) (hr.mono (by decide)) T.kw_BadVersions_dinitd_1_index pass_no rfl T.g_BadVersions (mk_cons (pk_cons (me_var (pv 0)) (mk_nil pk_nil)))))) (ma_cons (pa_cons (me_mkXK1 (cm_BadMoves T) T.ox_BadMoves T.nf_BadMoves_index (pe_mkX (pmk_oexK (ks := ["index"]) T.ox_BadMoves T.in_BadMoves T.ti_BadMoves (ok_BadMoves_dinitd T) (hr.mono (by decide)) T.kw_BadMoves_dinitd_1_index pass_no rfl T.g_BadMoves (mk_cons (pk_cons (me_var (pv 0)) (mk_nil pk_nil)))))) (ma_cons (pa_cons (me_mkXK1 (cm_Breaks T) T.ox_Breaks T.nf_Breaks_numbers (pe_mkX (pmk_oexK (ks := ["numbers"]) T.ox_Breaks T.in_Breaks T.ti_Breaks (ok_Breaks_dinitd T) (hr.mono (by decide)) T.kw_Breaks_dinitd_1_numbers pass_no rfl T.g_Breaks (mk_cons (pk_cons (me_var (pv 0)) (mk_nil pk_nil)))))) (ma_cons (pa_cons (me_mkXK1 (cm_NoFunction T) T.ox_NoFunction T.nf_NoFunction_name (pe_mkX (pmk_oexK (ks := ["name"]) T.ox_NoFunction T.in_NoFunction T.ti_NoFunction (ok_NoFunction_dinitd T) (hr.mono (by decide)) T.kw_NoFunction_dinitd_1_name pass_no rfl T.g_NoFunction (mk_cons (pk_cons (me_var (pv 0)) (mk_nil pk_nil)))))) (ma_nil pa_nil)))))))))))))))
    (pss_one (ms_ret (ps_ret (me_op (opm_add (b := false)) (pe_op Cs.op_addD (me_var (pv 2)) (me_lst (b := false) (pe_lst (ma_cons (pa_cons (me_mkXK1 (cm_NoSite T) T.ox_NoSite T.nf_NoSite_number (pe_mkX (pmk_oexK (ks := ["number"]) T.ox_NoSite T.in_NoSite T.ti_NoSite (ok_NoSite_dinitd T) (hr.mono (by decide)) T.kw_NoSite_dinitd_1_number pass_no rfl T.g_NoSite (mk_cons (pk_cons (me_var (pv 0)) (mk_nil pk_nil)))))) (ma_cons (pa_cons (me_mkXK1 (cm_BadEntry T) T.ox_BadEntry T.nf_BadEntry_index (pe_mkX (pmk_oexK (ks := ["index"]) T.ox_BadEntry T.in_BadEntry T.ti_BadEntry (ok_BadEntry_dinitd T) (hr.mono (by decide)) T.kw_BadEntry_dinitd_1_index pass_no rfl T.g_BadEntry (mk_cons (pk_cons (me_var (pv 0)) (mk_nil pk_nil)))))) (ma_cons (pa_cons (me_mkXK1 (cm_BadText T) T.ox_BadText T.nf_BadText_index (pe_mkX (pmk_oexK (ks := ["index"]) T.ox_BadText T.in_BadText T.ti_BadText (ok_BadText_dinitd T) (hr.mono (by decide)) T.kw_BadText_dinitd_1_index pass_no rfl T.g_BadText (mk_cons (pk_cons (me_var (pv 0)) (mk_nil pk_nil)))))) (ma_nil pa_nil)))))))))))))))))))))), pureM (N := ["_law_one", "_law_two", "_law_made"]) h⟩
theorem sc_Lfields : FnScope ["_law_made", "_law_found"] ["_law_made"] (defScope s_Lfields) := ⟨rfl, rfl, rfl, by decide +kernel, rfl, by decide +kernel, by decide +kernel⟩
theorem ok_Lfields (T : Tx K mg w base) : FnOk P w K mg base (L2.CX P w) 1 T.a_Lfields T.fd_Lfields ["_law_made"] (spM T.W m_Lfields) :=
  ok_fun T.F_Lfields sc_Lfields (fun vs H Q E h => by exact spM_len (P := 1) h) fun cdv A out s H vs Q E hr h => ⟨tS T.W E b_Lfields, (mss_cons (pss_cons (ms_set (ps_set (i := 1) sc_Lfields.nd rfl (by first | exact Or.inl rfl | exact Or.inr rfl | exact Or.inr (Or.inl rfl) | exact Or.inr (Or.inr rfl)) (me_lst (b := false) (pe_lst (ma_cons (pa_cons (me_fldX (allC (fx_BadSignature_index T) (allC (fx_BadPiece_index T) (allC (fx_BadRow_index T) (allC (fx_BadChain_index T) (allC (fx_Stopped_index T) (allC (fx_BadVariants_index T) (allC (fx_BadVersions_index T) (all3 (fx_BadMoves_index T) (fx_BadEntry_index T) (fx_BadText_index T))))))))) (pe_fldX (me_op opm_ix (pe_ix ix_seq (me_var (pv 0)) (me_int pe_int) (fun _ _ => rfl))))) (ma_cons (pa_cons (me_fldX (all3 (fx_NoName_name T) (fx_Repeated_name T) (fx_NoFunction_name T)) (pe_fldX (me_op opm_ix (pe_ix ix_seq (me_var (pv 0)) (me_int pe_int) (fun _ _ => rfl))))) (ma_cons (pa_cons (me_fldX (allC (fx_BadSignature_index T) (allC (fx_BadPiece_index T) (allC (fx_BadRow_index T) (allC (fx_BadChain_index T) (allC (fx_Stopped_index T) (allC (fx_BadVariants_index T) (allC (fx_BadVersions_index T) (all3 (fx_BadMoves_index T) (fx_BadEntry_index T) (fx_BadText_index T))))))))) (pe_fldX (me_op opm_ix (pe_ix ix_seq (me_var (pv 0)) (me_int pe_int) (fun _ _ => rfl))))) (ma_cons (pa_cons (me_fldX (all3 (fx_NoName_name T) (fx_Repeated_name T) (fx_NoFunction_name T)) (pe_fldX (me_op opm_ix (pe_ix ix_seq (me_var (pv 0)) (me_int pe_int) (fun _ _ => rfl))))) (ma_cons (pa_cons (me_fldX (all1 (fx_Refused_obstruction T)) (pe_fldX (me_op opm_ix (pe_ix ix_seq (me_var (pv 0)) (me_int pe_int) (fun _ _ => rfl))))) (ma_cons (pa_cons (me_fldX (allC (fx_BadSignature_index T) (allC (fx_BadPiece_index T) (allC (fx_BadRow_index T) (allC (fx_BadChain_index T) (allC (fx_Stopped_index T) (allC (fx_BadVariants_index T) (allC (fx_BadVersions_index T) (all3 (fx_BadMoves_index T) (fx_BadEntry_index T) (fx_BadText_index T))))))))) (pe_fldX (me_op opm_ix (pe_ix ix_seq (me_var (pv 0)) (me_int pe_int) (fun _ _ => rfl))))) (ma_nil pa_nil)))))))))))))))))
    (mss_cons (pss_cons (ms_set (ps_set (i := 1) sc_Lfields.nd rfl (by first | exact Or.inl rfl | exact Or.inr rfl | exact Or.inr (Or.inl rfl) | exact Or.inr (Or.inr rfl)) (me_op (opm_add (b := false)) (pe_op Cs.op_addD (me_var (pv 1)) (me_lst (b := false) (pe_lst (ma_cons (pa_cons (me_fldX (allC (fx_BadSignature_index T) (allC (fx_BadPiece_index T) (allC (fx_BadRow_index T) (allC (fx_BadChain_index T) (allC (fx_Stopped_index T) (allC (fx_BadVariants_index T) (allC (fx_BadVersions_index T) (all3 (fx_BadMoves_index T) (fx_BadEntry_index T) (fx_BadText_index T))))))))) (pe_fldX (me_op opm_ix (pe_ix ix_seq (me_var (pv 0)) (me_int pe_int) (fun _ _ => rfl))))) (ma_cons (pa_cons (me_fldX (allC (fx_BadSignature_index T) (allC (fx_BadPiece_index T) (allC (fx_BadRow_index T) (allC (fx_BadChain_index T) (allC (fx_Stopped_index T) (allC (fx_BadVariants_index T) (allC (fx_BadVersions_index T) (all3 (fx_BadMoves_index T) (fx_BadEntry_index T) (fx_BadText_index T))))))))) (pe_fldX (me_op opm_ix (pe_ix ix_seq (me_var (pv 0)) (me_int pe_int) (fun _ _ => rfl))))) (ma_cons (pa_cons (me_fldX (all1 (fx_Stopped_reason T)) (pe_fldX (me_op opm_ix (pe_ix ix_seq (me_var (pv 0)) (me_int pe_int) (fun _ _ => rfl))))) (ma_cons (pa_cons (me_fldX (allC (fx_BadSignature_index T) (allC (fx_BadPiece_index T) (allC (fx_BadRow_index T) (allC (fx_BadChain_index T) (allC (fx_Stopped_index T) (allC (fx_BadVariants_index T) (allC (fx_BadVersions_index T) (all3 (fx_BadMoves_index T) (fx_BadEntry_index T) (fx_BadText_index T))))))))) (pe_fldX (me_op opm_ix (pe_ix ix_seq (me_var (pv 0)) (me_int pe_int) (fun _ _ => rfl))))) (ma_cons (pa_cons (me_fldX (allC (fx_BadSignature_index T) (allC (fx_BadPiece_index T) (allC (fx_BadRow_index T) (allC (fx_BadChain_index T) (allC (fx_Stopped_index T) (allC (fx_BadVariants_index T) (allC (fx_BadVersions_index T) (all3 (fx_BadMoves_index T) (fx_BadEntry_index T) (fx_BadText_index T))))))))) (pe_fldX (me_op opm_ix (pe_ix ix_seq (me_var (pv 0)) (me_int pe_int) (fun _ _ => rfl))))) (ma_nil pa_nil)))))))))))))))))
    (mss_cons (pss_cons (ms_set (ps_set (i := 1) sc_Lfields.nd rfl (by first | exact Or.inl rfl | exact Or.inr rfl | exact Or.inr (Or.inl rfl) | exact Or.inr (Or.inr rfl)) (me_op (opm_add (b := false)) (pe_op Cs.op_addD (me_var (pv 1)) (me_lst (b := false) (pe_lst (ma_cons (pa_cons (me_fldX (allC (fx_BadSignature_index T) (allC (fx_BadPiece_index T) (allC (fx_BadRow_index T) (allC (fx_BadChain_index T) (allC (fx_Stopped_index T) (allC (fx_BadVariants_index T) (allC (fx_BadVersions_index T) (all3 (fx_BadMoves_index T) (fx_BadEntry_index T) (fx_BadText_index T))))))))) (pe_fldX (me_op opm_ix (pe_ix ix_seq (me_var (pv 0)) (me_int pe_int) (fun _ _ => rfl))))) (ma_cons (pa_cons (me_fldX (all1 (fx_Breaks_numbers T)) (pe_fldX (me_op opm_ix (pe_ix ix_seq (me_var (pv 0)) (me_int pe_int) (fun _ _ => rfl))))) (ma_cons (pa_cons (me_fldX (all3 (fx_NoName_name T) (fx_Repeated_name T) (fx_NoFunction_name T)) (pe_fldX (me_op opm_ix (pe_ix ix_seq (me_var (pv 0)) (me_int pe_int) (fun _ _ => rfl))))) (ma_cons (pa_cons (me_fldX (all1 (fx_NoSite_number T)) (pe_fldX (me_op opm_ix (pe_ix ix_seq (me_var (pv 0)) (me_int pe_int) (fun _ _ => rfl))))) (ma_cons (pa_cons (me_fldX (allC (fx_BadSignature_index T) (allC (fx_BadPiece_index T) (allC (fx_BadRow_index T) (allC (fx_BadChain_index T) (allC (fx_Stopped_index T) (allC (fx_BadVariants_index T) (allC (fx_BadVersions_index T) (all3 (fx_BadMoves_index T) (fx_BadEntry_index T) (fx_BadText_index T))))))))) (pe_fldX (me_op opm_ix (pe_ix ix_seq (me_var (pv 0)) (me_int pe_int) (fun _ _ => rfl))))) (ma_nil pa_nil)))))))))))))))))
    (pss_one (ms_ret (ps_ret (me_op (opm_add (b := false)) (pe_op Cs.op_addD (me_var (pv 1)) (me_lst (b := false) (pe_lst (ma_cons (pa_cons (me_fldX (allC (fx_BadSignature_index T) (allC (fx_BadPiece_index T) (allC (fx_BadRow_index T) (allC (fx_BadChain_index T) (allC (fx_Stopped_index T) (allC (fx_BadVariants_index T) (allC (fx_BadVersions_index T) (all3 (fx_BadMoves_index T) (fx_BadEntry_index T) (fx_BadText_index T))))))))) (pe_fldX (me_op opm_ix (pe_ix ix_seq (me_var (pv 0)) (me_int pe_int) (fun _ _ => rfl))))) (ma_nil pa_nil)))))))))))))))), pureM (N := ["_law_made", "_law_found"]) h⟩
theorem sc_Ldraw : FnScope ["_law_state", "_law_size", "_law_found"] ["_law_state", "_law_size"] (defScope s_Ldraw) := ⟨rfl, rfl, rfl, by decide +kernel, rfl, by decide +kernel, by decide +kernel⟩
theorem ok_Ldraw (T : Tx K mg w base) : FnOk P w K mg base (L2.CX P w) 1 T.a_Ldraw T.fd_Ldraw ["_law_state", "_law_size"] (spM T.W m_Ldraw) :=
  ok_fun T.F_Ldraw sc_Ldraw (fun vs H Q E h => by exact spM_len (P := 2) h) fun cdv A out s H vs Q E hr h => ⟨tS T.W E b_Ldraw, (mss_cons (pss_cons (ms_if (ps_if (mt_cmp opm_gt (pt_cmpR op_gt (me_op opm_ix (pe_ix ix_seq (me_var (pv 0)) (me_int pe_int) (fun _ _ => rfl))) (me_int pe_int) (nomark _))) (mss_cons (pss_cons (ms_set (ps_set (i := 2) sc_Ldraw.nd rfl (by first | exact Or.inl rfl | exact Or.inr rfl | exact Or.inr (Or.inl rfl) | exact Or.inr (Or.inr rfl)) (me_op opm_mod (pe_op op_modN (me_op opm_ix (pe_ix ix_seq (me_var (pv 0)) (me_int pe_int) (fun _ _ => rfl))) (me_var (pv 1))))))
    (mss_cons (pss_cons (ms_asg (ps_asg (me_op opm_div (pe_op op_fdivN (me_op opm_ix (pe_ix ix_seq (me_var (pv 0)) (me_int pe_int) (fun _ _ => rfl))) (me_var (pv 1)))) (mg_subL (pg_sub (me_var (pv 0)) (me_int pe_int) set_list))))
    (pss_one (ms_ret (ps_ret (me_var (pv 2))))))))) (mss_nil pss_nil)))
    (mss_cons (pss_cons (ms_asg (ps_asg (me_op (opm_add (b := false)) (pe_op Cs.op_addD (me_op opm_ix (pe_ix ix_seq (me_var (pv 0)) (me_int pe_int) (fun _ _ => rfl))) (me_int pe_int))) (mg_subL (pg_sub (me_var (pv 0)) (me_int pe_int) set_list))))
    (mss_cons (pss_cons (ms_set (ps_set (i := 2) sc_Ldraw.nd rfl (by first | exact Or.inl rfl | exact Or.inr rfl | exact Or.inr (Or.inl rfl) | exact Or.inr (Or.inr rfl)) (me_op (opm_add (b := false)) (pe_op Cs.op_addD (me_op opm_mod (pe_op op_modN (me_op opm_ix (pe_ix ix_seq (me_var (pv 0)) (me_int pe_int) (fun _ _ => rfl))) (me_int pe_int))) (me_op (opm_mul (b := false)) (pe_op Cs.op_mulD (me_int pe_int) (me_op opm_ix (pe_ix ix_seq (me_var (pv 0)) (me_int pe_int) (fun _ _ => rfl)))))))))
    (mss_cons (pss_cons (ms_set (ps_set (i := 2) sc_Ldraw.nd rfl (by first | exact Or.inl rfl | exact Or.inr rfl | exact Or.inr (Or.inl rfl) | exact Or.inr (Or.inr rfl)) (me_op (opm_mul (b := false)) (pe_op Cs.op_mulD (me_var (pv 2)) (me_op (opm_add (b := false)) (pe_op Cs.op_addD (me_op (opm_add (b := false)) (pe_op Cs.op_addD (me_op opm_mod (pe_op op_modN (me_op opm_ix (pe_ix ix_seq (me_var (pv 0)) (me_int pe_int) (fun _ _ => rfl))) (me_int pe_int))) (me_op (opm_mul (b := false)) (pe_op Cs.op_mulD (me_op (opm_mul (b := false)) (pe_op Cs.op_mulD (me_int pe_int) (me_op opm_ix (pe_ix ix_seq (me_var (pv 0)) (me_int pe_int) (fun _ _ => rfl))))) (me_op opm_ix (pe_ix ix_seq (me_var (pv 0)) (me_int pe_int) (fun _ _ => rfl))))))) (me_int pe_int)))))))
    (pss_one (ms_ret (ps_ret (me_op opm_mod (pe_op op_modN (me_op opm_div (pe_op op_fdivN (me_op opm_mod (pe_op op_modN (me_op opm_pow (pe_op Cs.op_powW (me_var (pv 2)) (me_int pe_int))) (me_int pe_int))) (me_int pe_int))) (me_var (pv 1))))))))))))))), pureM (N := ["_law_state", "_law_size", "_law_found"]) h⟩
theorem sc_Lpick : FnScope ["_law_state", "_law_items"] ["_law_state", "_law_items"] (defScope s_Lpick) := ⟨rfl, rfl, rfl, by decide +kernel, rfl, by decide +kernel, by decide +kernel⟩
theorem ok_Lpick (T : Tx K mg w base) : FnOk P w K mg base (L2.CX P w) 2 T.a_Lpick T.fd_Lpick ["_law_state", "_law_items"] (spM T.W m_Lpick) :=
  ok_fun T.F_Lpick sc_Lpick (fun vs H Q E h => by exact spM_len (P := 2) h) fun cdv A out s H vs Q E hr h => ⟨tS T.W E b_Lpick, (pss_one (ms_ret (ps_ret (me_op opm_ix (pe_ix ix_seq (me_var (pv 1)) (me_call (pe_call (ok_Ldraw T) (hr.mono (by decide)) rfl T.g_Ldraw T.k_Ldraw T.b_Ldraw .nil (pass_at (takes_of rfl rfl rfl rfl)) (by exact (ma_cons (pa_cons (me_var (pv 0)) (ma_cons (pa_cons (me_cb cbm_len (pe_callB call_lenA (by rfl) T.n_len (by decide +kernel) (ma_cons (pa_cons (me_var (pv 1)) (ma_nil pa_nil))))) (ma_nil pa_nil)))))))) (fun _ _ => rfl)))))), pureM (N := ["_law_state", "_law_items"]) h⟩
theorem sc_law : FnScope ["_law_script", "_law_turn", "_law_cell", "_law_state", "_law_some", "_law_one", "_law_two", "_law_k", "_law_due", "_law_made"] ["_law_script"] (defScope s_law) := ⟨rfl, rfl, rfl, by decide +kernel, rfl, by decide +kernel, by decide +kernel⟩
theorem ok_law (T : Tx K mg w base) (hm : ∀ ns : List Int, ns.length ≤ 63 → ∃ μ, m_law [.lst (ns.map D.int)] [] = .ok (.bl true) μ) : Cs.FnG P w K mg base CX0 4 T.a_law T.fd_law ["_law_script"] (spLawT K T.W.tabs) :=
  Cs.Fun.okG T.F_law sc_law (fun vs H Q E h => by exact spM_len (law_sp (W := T.W) hm h.1 h.2.1 h.2.2)) fun cdv A out s H vs Q E hgd hr h => ⟨tS T.W E0' b_law, (mss_cons (pss_cons (ms_for (ps_for PassesOwn.never rfl (mi_enum (Cs.pi_enumA (by rfl) T.n_enumerate (ma_cons (pa_cons (me_slice (b := false) (pe_slice Cs.sl_D (me_orT (pe_orT (me_var (pv 0)) (pe_one (me_lst (b := false) (pe_lst (ma_cons (pa_cons (me_int pe_int) (ma_nil pa_nil)))))))) (mo_none po_none) (mo_some (po_some (me_int pe_int))))) (ma_nil pa_nil))))) (mg_tup (pg_tup rfl (mgs_cons (pgs_cons (mg_name (pg_name (i := 1) sc_law.nd rfl (by first | exact Or.inl rfl | exact Or.inr rfl | exact Or.inr (Or.inl rfl) | exact Or.inr (Or.inr rfl)))) (mgs_cons (pgs_cons (mg_name (pg_name (i := 2) sc_law.nd rfl (by first | exact Or.inl rfl | exact Or.inr rfl | exact Or.inr (Or.inl rfl) | exact Or.inr (Or.inr rfl)))) (mgs_nil pgs_nil))))))) (mss_cons (pss_cons (ms_set (ps_set (i := 3) sc_law.nd rfl (by first | exact Or.inl rfl | exact Or.inr rfl | exact Or.inr (Or.inl rfl) | exact Or.inr (Or.inr rfl)) (me_call (pe_call (ok_Lbegin T) (hr.mono (by decide)) rfl T.g_Lbegin T.k_Lbegin T.b_Lbegin .nil pass_no (by exact (ma_cons (pa_cons (me_var (pv 2)) (ma_cons (pa_cons (me_var (pv 1)) (ma_nil pa_nil))))))))))
    (mss_cons (pss_cons (ms_set (ps_set (i := 4) sc_law.nd rfl (by first | exact Or.inl rfl | exact Or.inr rfl | exact Or.inr (Or.inl rfl) | exact Or.inr (Or.inr rfl)) (me_lst (b := false) (pe_lst (ma_cons (pa_cons (me_int pe_int) (ma_cons (pa_cons (me_un unm_neg (pe_un un_neg (me_int pe_int))) (ma_cons (pa_cons (me_int pe_int) (ma_cons (pa_cons (me_op opm_pow (pe_op Cs.op_powW (me_int pe_int) (me_int pe_int))) (ma_cons (pa_cons (me_bl pe_bl) (ma_cons (pa_cons (me_non pe_non) (ma_cons (pa_cons (me_str pe_str) (ma_cons (pa_cons (me_str pe_str) (ma_cons (pa_cons (me_str pe_str) (ma_cons (pa_cons (me_tup (pe_tup (ma_nil pa_nil))) (ma_cons (pa_cons (me_tup (pe_tup (ma_cons (pa_cons (me_int pe_int) (ma_cons (pa_cons (me_str pe_str) (ma_nil pa_nil))))))) (ma_cons (pa_cons (me_tup (pe_tup (ma_cons (pa_cons (me_str pe_str) (ma_cons (pa_cons (me_str pe_str) (ma_nil pa_nil))))))) (ma_cons (pa_cons (me_dnew (b := false) pe_dnewK) (ma_cons (pa_cons (me_lst (b := false) (pe_lst (ma_cons (pa_cons (me_int pe_int) (ma_nil pa_nil))))) (ma_nil pa_nil)))))))))))))))))))))))))))))))))
    (mss_cons (pss_cons (ms_set (ps_set (i := 4) sc_law.nd rfl (by first | exact Or.inl rfl | exact Or.inr rfl | exact Or.inr (Or.inl rfl) | exact Or.inr (Or.inr rfl)) (me_op (opm_add (b := false)) (pe_op Cs.op_addD (me_var (pv 4)) (me_lst (b := false) (pe_lst (ma_cons (pa_cons (me_disp (b := false) (trs := [((mC (.str "a")), (mC (.int 1)))]) (pe_disp (pps_cons (me_str pe_str) (me_int pe_int) pps_nil) (by rfl) (by rfl) (fun z => by cases z) (by decide))) (ma_cons (pa_cons (me_tup (pe_tup (ma_cons (pa_cons (me_str pe_str) (ma_cons (pa_cons (me_int pe_int) (ma_cons (pa_cons (me_int pe_int) (ma_nil pa_nil))))))))) (ma_cons (pa_cons (me_tup (pe_tup (ma_cons (pa_cons (me_int pe_int) (ma_cons (pa_cons (me_int pe_int) (ma_nil pa_nil))))))) (ma_cons (pa_cons (me_tup (pe_tup (ma_cons (pa_cons (me_str pe_str) (ma_cons (pa_cons (me_str pe_str) (ma_nil pa_nil))))))) (ma_cons (pa_cons (me_lst (b := false) (pe_lst (ma_nil pa_nil))) (ma_nil pa_nil)))))))))))))))))
    (mss_cons (pss_cons (ms_asg (ps_asg (me_lc (b := false) (lct_name (by decide)) (pe_lc (own := [("_law_k", 7)]) (g := (gName 7)) (tt := tT T.W E0' mYes) (te := tE T.W E0' (mCall m_Lpick (mCons (mVar 3) (mCons (mVar 4) mNil)))) rfl sc_law.nd (mi_rng1 (pi_range1 rfl T.n_range (ma_cons (pa_cons (me_int pe_int) (ma_nil pa_nil))))) (blkOk_by (own := [("_law_k", 7)]) (N := ["_law_script", "_law_turn", "_law_cell", "_law_state", "_law_some", "_law_one", "_law_two", "_law_k", "_law_due", "_law_made"]) (sc := defScope s_law) (by decide +kernel)) (fun _ _ _ _ _ => (pg_name (i := 7) sc_law.nd rfl (by first | exact Or.inl rfl | exact Or.inr rfl | exact Or.inr (Or.inl rfl) | exact Or.inr (Or.inr rfl)))) (fun _ _ _ _ _ => (mt_yes pts_nil)) (fun _ _ _ _ _ => (me_call (pe_call (ok_Lpick T) (hr.mono (by decide)) rfl T.g_Lpick T.k_Lpick T.b_Lpick .nil pass_no (by exact (ma_cons (pa_cons (me_var (pv 3)) (ma_cons (pa_cons (me_var (pv 4)) (ma_nil pa_nil))))))))))) (mg_lst (pg_lst rfl (mgs_cons (pgs_cons (mg_name (pg_name (i := 5) sc_law.nd rfl (by first | exact Or.inl rfl | exact Or.inr rfl | exact Or.inr (Or.inl rfl) | exact Or.inr (Or.inr rfl)))) (mgs_cons (pgs_cons (mg_name (pg_name (i := 6) sc_law.nd rfl (by first | exact Or.inl rfl | exact Or.inr rfl | exact Or.inr (Or.inl rfl) | exact Or.inr (Or.inr rfl)))) (mgs_nil pgs_nil)))))))))
    (mss_cons (pss_cons (ms_set (ps_set (i := 8) sc_law.nd rfl (by first | exact Or.inl rfl | exact Or.inr rfl | exact Or.inr (Or.inl rfl) | exact Or.inr (Or.inr rfl)) (me_op (opm_add (b := false)) (pe_op Cs.op_addD (me_op (opm_add (b := false)) (pe_op Cs.op_addD (me_op (opm_mul (b := false)) (pe_op Cs.op_mulD (me_lst (b := true) (pe_lst (ma_cons (pa_cons (me_var (pv 5)) (ma_nil pa_nil))))) (me_int pe_int))) (me_lst (b := false) (pe_lst (ma_cons (pa_cons (me_var (pv 6)) (ma_nil pa_nil))))))) (me_op (opm_mul (b := false)) (pe_op Cs.op_mulD (me_lst (b := true) (pe_lst (ma_cons (pa_cons (me_var (pv 5)) (ma_nil pa_nil))))) (me_int pe_int)))))))
    (pss_one (ms_for (ps_for PassesOwn.never rfl (mi_any (Cs.pi_any (me_lst (b := false) (pe_lst (ma_cons (pa_cons (me_call (pe_call (ok_Lby_position T) (hr.mono (by decide)) rfl T.g_Lby_position T.k_Lby_position T.b_Lby_position .nil pass_no (by exact (ma_cons (pa_cons (me_var (pv 5)) (ma_cons (pa_cons (me_var (pv 6)) (ma_nil pa_nil)))))))) (ma_cons (pa_cons (me_call (pe_call (ok_Lby_word T) (hr.mono (by decide)) rfl T.g_Lby_word T.k_Lby_word T.b_Lby_word .nil pass_no (by exact (ma_cons (pa_cons (me_var (pv 5)) (ma_cons (pa_cons (me_var (pv 6)) (ma_nil pa_nil)))))))) (ma_nil pa_nil))))))))) (mg_name (pg_name (i := 9) sc_law.nd rfl (by first | exact Or.inl rfl | exact Or.inr rfl | exact Or.inr (Or.inl rfl) | exact Or.inr (Or.inr rfl)))) (pss_one (ms_if (ps_if (PW.pt (mw_or (pw_or (mt_cmp opm_ne (pt_cmpR (op_neZ hr.units) (me_cb cbm_len (pe_callB call_lenA (by rfl) T.n_len (by decide +kernel) (ma_cons (pa_cons (me_var (pv 9)) (ma_nil pa_nil))))) (me_int pe_int) (nomark _))) (mw_or (pw_or (mt_not (pt_not (mt_val (pt_val (me_call (pe_call (ok_Lapart T) (hr.mono (by decide)) rfl T.g_Lapart T.k_Lapart T.b_Lapart .nil pass_no (by exact (ma_cons (pa_cons (me_var (pv 9)) (ma_nil pa_nil)))))))))) (pw_or1 (mt_cmp opm_ne (pt_cmpR (op_neZ hr.units) (me_cb cbm_repr (pe_callB (Cs.call_reprD hgd (hu66 hr)) (by rfl) T.n_repr (by decide +kernel) (ma_cons (pa_cons (me_call (pe_call (ok_Lfields T) (hr.mono (by decide)) rfl T.g_Lfields T.k_Lfields T.b_Lfields .nil pass_no (by exact (ma_cons (pa_cons (me_var (pv 9)) (ma_nil pa_nil)))))) (ma_nil pa_nil))))) (me_cb cbm_repr (pe_callB (Cs.call_reprD hgd (hu66 hr)) (by rfl) T.n_repr (by decide +kernel) (ma_cons (pa_cons (me_var (pv 8)) (ma_nil pa_nil))))) (nomark _))))))))) (pss_one (ms_ret (ps_ret (me_bl pe_bl)))) (mss_nil pss_nil)))))))))))))))))))
    (pss_one (ms_ret (ps_ret (me_bl pe_bl)))))), pureM (N := ["_law_script", "_law_turn", "_law_cell", "_law_state", "_law_some", "_law_one", "_law_two", "_law_k", "_law_due", "_law_made"]) (law_sp (W := T.W) hm h.1 h.2.1 h.2.2)⟩
end
end K06
namespace K06
open PySem PySem.Spec L2 Mi
section
theorem all_mk (hm : ∀ ns : List Int, ns.length ≤ 63 → ∃ μ, m_law [.lst (ns.map D.int)] [] = .ok (.bl true) μ) {l : PySem.W.OpenLaw} {qq : Program} {w : World} {K : PySem.W.Frag} {h : Heap} {mg : Str → Option Value} {fa : Addr} (X : K.In h) (G : h.Ns mainGlobals mg) (hfa : mg "law" = some (.ref fa))
    {C_CallError : Addr} {C_BadParameter : Addr} {C_BadSignature : Addr} {C_NoName : Addr} {C_BadCall : Addr} {C_BadPiece : Addr} {C_Repeated : Addr} {C_Refused : Addr} {C_BadRow : Addr} {C_BadCounts : Addr} {C_NothingBinds : Addr} {C_BadChain : Addr} {C_Stopped : Addr} {C_BadVariants : Addr} {C_BadVersions : Addr} {C_BadMoves : Addr} {C_Breaks : Addr} {C_NoFunction : Addr} {C_NoSite : Addr} {C_BadEntry : Addr} {C_BadText : Addr} {f1 : Addr} {od1 an1 : Option Addr} {sl1 : Array (Option Value)} {oc1 kV1 dc1 pm1 cd1 ct1 : Value} {f2 : Addr} {od2 an2 : Option Addr} {sl2 : Array (Option Value)} {oc2 kV2 dc2 pm2 cd2 ct2 : Value} {f3 : Addr} {od3 an3 : Option Addr} {sl3 : Array (Option Value)} {oc3 kV3 dc3 pm3 cd3 ct3 : Value} {f4 : Addr} {od4 an4 : Option Addr} {sl4 : Array (Option Value)} {oc4 kV4 dc4 pm4 cd4 ct4 : Value} {f5 : Addr} {od5 an5 : Option Addr} {sl5 : Array (Option Value)} {oc5 kV5 dc5 pm5 cd5 ct5 : Value} {f6 : Addr} {od6 an6 : Option Addr} {sl6 : Array (Option Value)} {oc6 kV6 dc6 pm6 cd6 ct6 : Value} {f7 : Addr} {od7 an7 : Option Addr} {sl7 : Array (Option Value)} {oc7 kV7 dc7 pm7 cd7 ct7 : Value} {f8 : Addr} {od8 an8 : Option Addr} {sl8 : Array (Option Value)} {oc8 kV8 dc8 pm8 cd8 ct8 : Value} {f9 : Addr} {od9 an9 : Option Addr} {sl9 : Array (Option Value)} {oc9 kV9 dc9 pm9 cd9 ct9 : Value} {f10 : Addr} {od10 an10 : Option Addr} {sl10 : Array (Option Value)} {oc10 kV10 dc10 pm10 cd10 ct10 : Value} {f11 : Addr} {od11 an11 : Option Addr} {sl11 : Array (Option Value)} {oc11 kV11 dc11 pm11 cd11 ct11 : Value} {f12 : Addr} {od12 an12 : Option Addr} {sl12 : Array (Option Value)} {oc12 kV12 dc12 pm12 cd12 ct12 : Value} {f13 : Addr} {od13 an13 : Option Addr} {sl13 : Array (Option Value)} {oc13 kV13 dc13 pm13 cd13 ct13 : Value} {f14 : Addr} {od14 an14 : Option Addr} {sl14 : Array (Option Value)} {oc14 kV14 dc14 pm14 cd14 ct14 : Value} {f15 : Addr} {od15 an15 : Option Addr} {sl15 : Array (Option Value)} {oc15 kV15 dc15 pm15 cd15 ct15 : Value} {f16 : Addr} {od16 an16 : Option Addr} {sl16 : Array (Option Value)} {oc16 kV16 dc16 pm16 cd16 ct16 : Value} {f17 : Addr} {od17 an17 : Option Addr} {sl17 : Array (Option Value)} {oc17 kV17 dc17 pm17 cd17 ct17 : Value} {f18 : Addr} {od18 an18 : Option Addr} {sl18 : Array (Option Value)} {oc18 kV18 dc18 pm18 cd18 ct18 : Value} {f19 : Addr} {od19 an19 : Option Addr} {sl19 : Array (Option Value)} {oc19 kV19 dc19 pm19 cd19 ct19 : Value} {f20 : Addr} {od20 an20 : Option Addr} {sl20 : Array (Option Value)} {oc20 kV20 dc20 pm20 cd20 ct20 : Value} {f21 : Addr} {od21 an21 : Option Addr} {sl21 : Array (Option Value)} {oc21 kV21 dc21 pm21 cd21 ct21 : Value} {f22 : Addr} {od22 an22 : Option Addr} {sl22 : Array (Option Value)} {oc22 kV22 dc22 pm22 cd22 ct22 : Value} {f23 : Addr} {od23 an23 : Option Addr} {sl23 : Array (Option Value)} {oc23 kV23 dc23 pm23 cd23 ct23 : Value} {f24 : Addr} {od24 an24 : Option Addr} {sl24 : Array (Option Value)} {oc24 kV24 dc24 pm24 cd24 ct24 : Value} {f25 : Addr} {od25 an25 : Option Addr} {sl25 : Array (Option Value)} {oc25 kV25 dc25 pm25 cd25 ct25 : Value}
    (a_CallError : PySem.W.nsIn K mainGlobals "CallError" = some (some (.ref C_CallError)))
    (a_BadParameter : PySem.W.nsIn K mainGlobals "BadParameter" = some (some (.ref C_BadParameter)))
    (a_BadSignature : PySem.W.nsIn K mainGlobals "BadSignature" = some (some (.ref C_BadSignature)))
    (a_NoName : PySem.W.nsIn K mainGlobals "NoName" = some (some (.ref C_NoName)))
    (a_BadCall : PySem.W.nsIn K mainGlobals "BadCall" = some (some (.ref C_BadCall)))
    (a_BadPiece : PySem.W.nsIn K mainGlobals "BadPiece" = some (some (.ref C_BadPiece)))
    (a_Repeated : PySem.W.nsIn K mainGlobals "Repeated" = some (some (.ref C_Repeated)))
    (a_Refused : PySem.W.nsIn K mainGlobals "Refused" = some (some (.ref C_Refused)))
    (a_BadRow : PySem.W.nsIn K mainGlobals "BadRow" = some (some (.ref C_BadRow)))
    (a_BadCounts : PySem.W.nsIn K mainGlobals "BadCounts" = some (some (.ref C_BadCounts)))
    (a_NothingBinds : PySem.W.nsIn K mainGlobals "NothingBinds" = some (some (.ref C_NothingBinds)))
    (a_BadChain : PySem.W.nsIn K mainGlobals "BadChain" = some (some (.ref C_BadChain)))
    (a_Stopped : PySem.W.nsIn K mainGlobals "Stopped" = some (some (.ref C_Stopped)))
    (a_BadVariants : PySem.W.nsIn K mainGlobals "BadVariants" = some (some (.ref C_BadVariants)))
    (a_BadVersions : PySem.W.nsIn K mainGlobals "BadVersions" = some (some (.ref C_BadVersions)))
    (a_BadMoves : PySem.W.nsIn K mainGlobals "BadMoves" = some (some (.ref C_BadMoves)))
    (a_Breaks : PySem.W.nsIn K mainGlobals "Breaks" = some (some (.ref C_Breaks)))
    (a_NoFunction : PySem.W.nsIn K mainGlobals "NoFunction" = some (some (.ref C_NoFunction)))
    (a_NoSite : PySem.W.nsIn K mainGlobals "NoSite" = some (some (.ref C_NoSite)))
    (a_BadEntry : PySem.W.nsIn K mainGlobals "BadEntry" = some (some (.ref C_BadEntry)))
    (a_BadText : PySem.W.nsIn K mainGlobals "BadText" = some (some (.ref C_BadText)))
    (a1 : PySem.W.nsIn K mainGlobals "_law_marks" = some (some (.ref f1)))
    (a2 : PySem.W.nsIn K mainGlobals "_law_apart" = some (some (.ref f2)))
    (a3 : PySem.W.nsIn K mainGlobals "_law_begin" = some (some (.ref f3)))
    (a20 : PySem.W.nsIn K mainGlobals "_law_by_position" = some (some (.ref f20)))
    (a21 : PySem.W.nsIn K mainGlobals "_law_by_word" = some (some (.ref f21)))
    (a22 : PySem.W.nsIn K mainGlobals "_law_fields" = some (some (.ref f22)))
    (a23 : PySem.W.nsIn K mainGlobals "_law_draw" = some (some (.ref f23)))
    (a24 : PySem.W.nsIn K mainGlobals "_law_pick" = some (some (.ref f24)))
    (a25 : PySem.W.nsIn K mainGlobals "law" = some (some (.ref f25)))
    (in4 : PySem.W.findIn K (.ref C_BadChain) "__init__" = some (some (.ref f4)))
    (in5 : PySem.W.findIn K (.ref C_BadEntry) "__init__" = some (some (.ref f5)))
    (in6 : PySem.W.findIn K (.ref C_BadMoves) "__init__" = some (some (.ref f6)))
    (in7 : PySem.W.findIn K (.ref C_BadPiece) "__init__" = some (some (.ref f7)))
    (in8 : PySem.W.findIn K (.ref C_BadRow) "__init__" = some (some (.ref f8)))
    (in9 : PySem.W.findIn K (.ref C_BadSignature) "__init__" = some (some (.ref f9)))
    (in10 : PySem.W.findIn K (.ref C_BadText) "__init__" = some (some (.ref f10)))
    (in11 : PySem.W.findIn K (.ref C_BadVariants) "__init__" = some (some (.ref f11)))
    (in12 : PySem.W.findIn K (.ref C_BadVersions) "__init__" = some (some (.ref f12)))
    (in13 : PySem.W.findIn K (.ref C_Breaks) "__init__" = some (some (.ref f13)))
    (in14 : PySem.W.findIn K (.ref C_NoFunction) "__init__" = some (some (.ref f14)))
    (in15 : PySem.W.findIn K (.ref C_NoName) "__init__" = some (some (.ref f15)))
    (in16 : PySem.W.findIn K (.ref C_NoSite) "__init__" = some (some (.ref f16)))
    (in17 : PySem.W.findIn K (.ref C_Refused) "__init__" = some (some (.ref f17)))
    (in18 : PySem.W.findIn K (.ref C_Repeated) "__init__" = some (some (.ref f18)))
    (in19 : PySem.W.findIn K (.ref C_Stopped) "__init__" = some (some (.ref f19)))
    (l1 : K.lookup f1 = some ⟨oc1, od1, .func (PySem.W.fnOf "_law_marks" "_law_marks" (defArgs s_Lmarks) (defBody s_Lmarks) (defScope s_Lmarks) .none kV1 dc1 pm1 an1 cd1 ct1), sl1⟩)
    (l2 : K.lookup f2 = some ⟨oc2, od2, .func (PySem.W.fnOf "_law_apart" "_law_apart" (defArgs s_Lapart) (defBody s_Lapart) (defScope s_Lapart) .none kV2 dc2 pm2 an2 cd2 ct2), sl2⟩)
    (l3 : K.lookup f3 = some ⟨oc3, od3, .func (PySem.W.fnOf "_law_begin" "_law_begin" (defArgs s_Lbegin) (defBody s_Lbegin) (defScope s_Lbegin) .none kV3 dc3 pm3 an3 cd3 ct3), sl3⟩)
    (l4 : K.lookup f4 = some ⟨oc4, od4, .func (PySem.W.fnOf "__init__" "BadChain.__init__" (defArgs s_BadChain_dinitd) (defBody s_BadChain_dinitd) (defScope s_BadChain_dinitd) .none kV4 dc4 pm4 an4 cd4 ct4), sl4⟩)
    (l5 : K.lookup f5 = some ⟨oc5, od5, .func (PySem.W.fnOf "__init__" "BadEntry.__init__" (defArgs s_BadEntry_dinitd) (defBody s_BadEntry_dinitd) (defScope s_BadEntry_dinitd) .none kV5 dc5 pm5 an5 cd5 ct5), sl5⟩)
    (l6 : K.lookup f6 = some ⟨oc6, od6, .func (PySem.W.fnOf "__init__" "BadMoves.__init__" (defArgs s_BadMoves_dinitd) (defBody s_BadMoves_dinitd) (defScope s_BadMoves_dinitd) .none kV6 dc6 pm6 an6 cd6 ct6), sl6⟩)
    (l7 : K.lookup f7 = some ⟨oc7, od7, .func (PySem.W.fnOf "__init__" "BadPiece.__init__" (defArgs s_BadPiece_dinitd) (defBody s_BadPiece_dinitd) (defScope s_BadPiece_dinitd) .none kV7 dc7 pm7 an7 cd7 ct7), sl7⟩)
    (l8 : K.lookup f8 = some ⟨oc8, od8, .func (PySem.W.fnOf "__init__" "BadRow.__init__" (defArgs s_BadRow_dinitd) (defBody s_BadRow_dinitd) (defScope s_BadRow_dinitd) .none kV8 dc8 pm8 an8 cd8 ct8), sl8⟩)
    (l9 : K.lookup f9 = some ⟨oc9, od9, .func (PySem.W.fnOf "__init__" "BadSignature.__init__" (defArgs s_BadSignature_dinitd) (defBody s_BadSignature_dinitd) (defScope s_BadSignature_dinitd) .none kV9 dc9 pm9 an9 cd9 ct9), sl9⟩)
    (l10 : K.lookup f10 = some ⟨oc10, od10, .func (PySem.W.fnOf "__init__" "BadText.__init__" (defArgs s_BadText_dinitd) (defBody s_BadText_dinitd) (defScope s_BadText_dinitd) .none kV10 dc10 pm10 an10 cd10 ct10), sl10⟩)
    (l11 : K.lookup f11 = some ⟨oc11, od11, .func (PySem.W.fnOf "__init__" "BadVariants.__init__" (defArgs s_BadVariants_dinitd) (defBody s_BadVariants_dinitd) (defScope s_BadVariants_dinitd) .none kV11 dc11 pm11 an11 cd11 ct11), sl11⟩)
    (l12 : K.lookup f12 = some ⟨oc12, od12, .func (PySem.W.fnOf "__init__" "BadVersions.__init__" (defArgs s_BadVersions_dinitd) (defBody s_BadVersions_dinitd) (defScope s_BadVersions_dinitd) .none kV12 dc12 pm12 an12 cd12 ct12), sl12⟩)
    (l13 : K.lookup f13 = some ⟨oc13, od13, .func (PySem.W.fnOf "__init__" "Breaks.__init__" (defArgs s_Breaks_dinitd) (defBody s_Breaks_dinitd) (defScope s_Breaks_dinitd) .none kV13 dc13 pm13 an13 cd13 ct13), sl13⟩)
    (l14 : K.lookup f14 = some ⟨oc14, od14, .func (PySem.W.fnOf "__init__" "NoFunction.__init__" (defArgs s_NoFunction_dinitd) (defBody s_NoFunction_dinitd) (defScope s_NoFunction_dinitd) .none kV14 dc14 pm14 an14 cd14 ct14), sl14⟩)
    (l15 : K.lookup f15 = some ⟨oc15, od15, .func (PySem.W.fnOf "__init__" "NoName.__init__" (defArgs s_NoName_dinitd) (defBody s_NoName_dinitd) (defScope s_NoName_dinitd) .none kV15 dc15 pm15 an15 cd15 ct15), sl15⟩)
    (l16 : K.lookup f16 = some ⟨oc16, od16, .func (PySem.W.fnOf "__init__" "NoSite.__init__" (defArgs s_NoSite_dinitd) (defBody s_NoSite_dinitd) (defScope s_NoSite_dinitd) .none kV16 dc16 pm16 an16 cd16 ct16), sl16⟩)
    (l17 : K.lookup f17 = some ⟨oc17, od17, .func (PySem.W.fnOf "__init__" "Refused.__init__" (defArgs s_Refused_dinitd) (defBody s_Refused_dinitd) (defScope s_Refused_dinitd) .none kV17 dc17 pm17 an17 cd17 ct17), sl17⟩)
    (l18 : K.lookup f18 = some ⟨oc18, od18, .func (PySem.W.fnOf "__init__" "Repeated.__init__" (defArgs s_Repeated_dinitd) (defBody s_Repeated_dinitd) (defScope s_Repeated_dinitd) .none kV18 dc18 pm18 an18 cd18 ct18), sl18⟩)
    (l19 : K.lookup f19 = some ⟨oc19, od19, .func (PySem.W.fnOf "__init__" "Stopped.__init__" (defArgs s_Stopped_dinitd) (defBody s_Stopped_dinitd) (defScope s_Stopped_dinitd) .none kV19 dc19 pm19 an19 cd19 ct19), sl19⟩)
    (l20 : K.lookup f20 = some ⟨oc20, od20, .func (PySem.W.fnOf "_law_by_position" "_law_by_position" (defArgs s_Lby_position) (defBody s_Lby_position) (defScope s_Lby_position) .none kV20 dc20 pm20 an20 cd20 ct20), sl20⟩)
    (l21 : K.lookup f21 = some ⟨oc21, od21, .func (PySem.W.fnOf "_law_by_word" "_law_by_word" (defArgs s_Lby_word) (defBody s_Lby_word) (defScope s_Lby_word) .none kV21 dc21 pm21 an21 cd21 ct21), sl21⟩)
    (l22 : K.lookup f22 = some ⟨oc22, od22, .func (PySem.W.fnOf "_law_fields" "_law_fields" (defArgs s_Lfields) (defBody s_Lfields) (defScope s_Lfields) .none kV22 dc22 pm22 an22 cd22 ct22), sl22⟩)
    (l23 : K.lookup f23 = some ⟨oc23, od23, .func (PySem.W.fnOf "_law_draw" "_law_draw" (defArgs s_Ldraw) (defBody s_Ldraw) (defScope s_Ldraw) .none kV23 dc23 pm23 an23 cd23 ct23), sl23⟩)
    (l24 : K.lookup f24 = some ⟨oc24, od24, .func (PySem.W.fnOf "_law_pick" "_law_pick" (defArgs s_Lpick) (defBody s_Lpick) (defScope s_Lpick) .none kV24 dc24 pm24 an24 cd24 ct24), sl24⟩)
    (l25 : K.lookup f25 = some ⟨oc25, od25, .func (PySem.W.fnOf "law" "law" (defArgs s_law) (defBody s_law) (defScope s_law) .none kV25 dc25 pm25 an25 cd25 ct25), sl25⟩)
    (ti4 : PySem.W.typeIn K (.ref f4) = some (.type "function"))
    (ti5 : PySem.W.typeIn K (.ref f5) = some (.type "function"))
    (ti6 : PySem.W.typeIn K (.ref f6) = some (.type "function"))
    (ti7 : PySem.W.typeIn K (.ref f7) = some (.type "function"))
    (ti8 : PySem.W.typeIn K (.ref f8) = some (.type "function"))
    (ti9 : PySem.W.typeIn K (.ref f9) = some (.type "function"))
    (ti10 : PySem.W.typeIn K (.ref f10) = some (.type "function"))
    (ti11 : PySem.W.typeIn K (.ref f11) = some (.type "function"))
    (ti12 : PySem.W.typeIn K (.ref f12) = some (.type "function"))
    (ti13 : PySem.W.typeIn K (.ref f13) = some (.type "function"))
    (ti14 : PySem.W.typeIn K (.ref f14) = some (.type "function"))
    (ti15 : PySem.W.typeIn K (.ref f15) = some (.type "function"))
    (ti16 : PySem.W.typeIn K (.ref f16) = some (.type "function"))
    (ti17 : PySem.W.typeIn K (.ref f17) = some (.type "function"))
    (ti18 : PySem.W.typeIn K (.ref f18) = some (.type "function"))
    (ti19 : PySem.W.typeIn K (.ref f19) = some (.type "function"))
    (c1 : PySem.W.codeIn K cd1 "_law_marks" = true)
    (k1 : PySem.W.keepIn K (.ref f1) = true)
    (c2 : PySem.W.codeIn K cd2 "_law_apart" = true)
    (k2 : PySem.W.keepIn K (.ref f2) = true)
    (c3 : PySem.W.codeIn K cd3 "_law_begin" = true)
    (k3 : PySem.W.keepIn K (.ref f3) = true)
    (c4 : PySem.W.codeIn K cd4 "BadChain.__init__" = true)
    (k4 : PySem.W.keepIn K (.ref f4) = true)
    (c5 : PySem.W.codeIn K cd5 "BadEntry.__init__" = true)
    (k5 : PySem.W.keepIn K (.ref f5) = true)
    (c6 : PySem.W.codeIn K cd6 "BadMoves.__init__" = true)
    (k6 : PySem.W.keepIn K (.ref f6) = true)
    (c7 : PySem.W.codeIn K cd7 "BadPiece.__init__" = true)
    (k7 : PySem.W.keepIn K (.ref f7) = true)
    (c8 : PySem.W.codeIn K cd8 "BadRow.__init__" = true)
    (k8 : PySem.W.keepIn K (.ref f8) = true)
    (c9 : PySem.W.codeIn K cd9 "BadSignature.__init__" = true)
    (k9 : PySem.W.keepIn K (.ref f9) = true)
    (c10 : PySem.W.codeIn K cd10 "BadText.__init__" = true)
    (k10 : PySem.W.keepIn K (.ref f10) = true)
    (c11 : PySem.W.codeIn K cd11 "BadVariants.__init__" = true)
    (k11 : PySem.W.keepIn K (.ref f11) = true)
    (c12 : PySem.W.codeIn K cd12 "BadVersions.__init__" = true)
    (k12 : PySem.W.keepIn K (.ref f12) = true)
    (c13 : PySem.W.codeIn K cd13 "Breaks.__init__" = true)
    (k13 : PySem.W.keepIn K (.ref f13) = true)
    (c14 : PySem.W.codeIn K cd14 "NoFunction.__init__" = true)
    (k14 : PySem.W.keepIn K (.ref f14) = true)
    (c15 : PySem.W.codeIn K cd15 "NoName.__init__" = true)
    (k15 : PySem.W.keepIn K (.ref f15) = true)
    (c16 : PySem.W.codeIn K cd16 "NoSite.__init__" = true)
    (k16 : PySem.W.keepIn K (.ref f16) = true)
    (c17 : PySem.W.codeIn K cd17 "Refused.__init__" = true)
    (k17 : PySem.W.keepIn K (.ref f17) = true)
    (c18 : PySem.W.codeIn K cd18 "Repeated.__init__" = true)
    (k18 : PySem.W.keepIn K (.ref f18) = true)
    (c19 : PySem.W.codeIn K cd19 "Stopped.__init__" = true)
    (k19 : PySem.W.keepIn K (.ref f19) = true)
    (c20 : PySem.W.codeIn K cd20 "_law_by_position" = true)
    (k20 : PySem.W.keepIn K (.ref f20) = true)
    (c21 : PySem.W.codeIn K cd21 "_law_by_word" = true)
    (k21 : PySem.W.keepIn K (.ref f21) = true)
    (c22 : PySem.W.codeIn K cd22 "_law_fields" = true)
    (k22 : PySem.W.keepIn K (.ref f22) = true)
    (c23 : PySem.W.codeIn K cd23 "_law_draw" = true)
    (k23 : PySem.W.keepIn K (.ref f23) = true)
    (c24 : PySem.W.codeIn K cd24 "_law_pick" = true)
    (k24 : PySem.W.keepIn K (.ref f24) = true)
    (c25 : PySem.W.codeIn K cd25 "law" = true)
    (k25 : PySem.W.keepIn K (.ref f25) = true)
    (xisf : isfB K [("CallError", C_CallError), ("BadParameter", C_BadParameter), ("BadSignature", C_BadSignature), ("NoName", C_NoName), ("BadCall", C_BadCall), ("BadPiece", C_BadPiece), ("Repeated", C_Repeated), ("Refused", C_Refused), ("BadRow", C_BadRow), ("BadCounts", C_BadCounts), ("NothingBinds", C_NothingBinds), ("BadChain", C_BadChain), ("Stopped", C_Stopped), ("BadVariants", C_BadVariants), ("BadVersions", C_BadVersions), ("BadMoves", C_BadMoves), ("Breaks", C_Breaks), ("NoFunction", C_NoFunction), ("NoSite", C_NoSite), ("BadEntry", C_BadEntry), ("BadText", C_BadText)] ["CallError", "BadParameter", "BadSignature", "NoName", "BadCall", "BadPiece", "Repeated", "Refused", "BadRow", "BadCounts", "NothingBinds", "BadChain", "Stopped", "BadVariants", "BadVersions", "BadMoves", "Breaks", "NoFunction", "NoSite", "BadEntry", "BadText"] ["ValueError"] = true)
    (xno : noB K [(C_BadChain, "index"), (C_BadEntry, "index"), (C_BadMoves, "index"), (C_BadPiece, "index"), (C_BadRow, "index"), (C_BadSignature, "index"), (C_BadText, "index"), (C_BadVariants, "index"), (C_BadVersions, "index"), (C_Breaks, "numbers"), (C_NoFunction, "name"), (C_NoName, "name"), (C_NoSite, "number"), (C_Refused, "obstruction"), (C_Repeated, "name"), (C_Stopped, "index"), (C_Stopped, "reason")] = true)
    (xcr_CallError : crB K C_CallError = true)
    (x_BadParameter : PySem.W.excIn K C_BadParameter [.type "ValueError", .type "Exception", .type "BaseException", .type "object"] "ValueError.__new__" = true)
    (kp_BadParameter : PySem.W.keepIn K (.ref C_BadParameter) = true)
    (sb_BadParameter : PySem.W.subIn K (.ref C_BadParameter) (.type "BaseException") = some true)
    (ty_BadParameter : PySem.W.typeIn K (.ref C_BadParameter) = some (.type "type"))
    (xx_BadSignature : OexCls K C_BadSignature)
    (xs_BadSignature : PySem.W.findIn K (.ref C_BadSignature) "__setattr__" = some (some (.builtin "object.__setattr__")))
    (sb_BadSignature : PySem.W.subIn K (.ref C_BadSignature) (.type "BaseException") = some true)
    (ty_BadSignature : PySem.W.typeIn K (.ref C_BadSignature) = some (.type "type"))
    (kp_BadSignature : PySem.W.keepIn K (.ref C_BadSignature) = true)
    (xx_NoName : OexCls K C_NoName)
    (xs_NoName : PySem.W.findIn K (.ref C_NoName) "__setattr__" = some (some (.builtin "object.__setattr__")))
    (sb_NoName : PySem.W.subIn K (.ref C_NoName) (.type "BaseException") = some true)
    (ty_NoName : PySem.W.typeIn K (.ref C_NoName) = some (.type "type"))
    (kp_NoName : PySem.W.keepIn K (.ref C_NoName) = true)
    (x_BadCall : PySem.W.excIn K C_BadCall [.type "ValueError", .type "Exception", .type "BaseException", .type "object"] "ValueError.__new__" = true)
    (kp_BadCall : PySem.W.keepIn K (.ref C_BadCall) = true)
    (sb_BadCall : PySem.W.subIn K (.ref C_BadCall) (.type "BaseException") = some true)
    (ty_BadCall : PySem.W.typeIn K (.ref C_BadCall) = some (.type "type"))
    (xx_BadPiece : OexCls K C_BadPiece)
    (xs_BadPiece : PySem.W.findIn K (.ref C_BadPiece) "__setattr__" = some (some (.builtin "object.__setattr__")))
    (sb_BadPiece : PySem.W.subIn K (.ref C_BadPiece) (.type "BaseException") = some true)
    (ty_BadPiece : PySem.W.typeIn K (.ref C_BadPiece) = some (.type "type"))
    (kp_BadPiece : PySem.W.keepIn K (.ref C_BadPiece) = true)
    (xx_Repeated : OexCls K C_Repeated)
    (xs_Repeated : PySem.W.findIn K (.ref C_Repeated) "__setattr__" = some (some (.builtin "object.__setattr__")))
    (sb_Repeated : PySem.W.subIn K (.ref C_Repeated) (.type "BaseException") = some true)
    (ty_Repeated : PySem.W.typeIn K (.ref C_Repeated) = some (.type "type"))
    (kp_Repeated : PySem.W.keepIn K (.ref C_Repeated) = true)
    (xx_Refused : OexCls K C_Refused)
    (xs_Refused : PySem.W.findIn K (.ref C_Refused) "__setattr__" = some (some (.builtin "object.__setattr__")))
    (sb_Refused : PySem.W.subIn K (.ref C_Refused) (.type "BaseException") = some true)
    (ty_Refused : PySem.W.typeIn K (.ref C_Refused) = some (.type "type"))
    (kp_Refused : PySem.W.keepIn K (.ref C_Refused) = true)
    (xx_BadRow : OexCls K C_BadRow)
    (xs_BadRow : PySem.W.findIn K (.ref C_BadRow) "__setattr__" = some (some (.builtin "object.__setattr__")))
    (sb_BadRow : PySem.W.subIn K (.ref C_BadRow) (.type "BaseException") = some true)
    (ty_BadRow : PySem.W.typeIn K (.ref C_BadRow) = some (.type "type"))
    (kp_BadRow : PySem.W.keepIn K (.ref C_BadRow) = true)
    (x_BadCounts : PySem.W.excIn K C_BadCounts [.type "ValueError", .type "Exception", .type "BaseException", .type "object"] "ValueError.__new__" = true)
    (kp_BadCounts : PySem.W.keepIn K (.ref C_BadCounts) = true)
    (sb_BadCounts : PySem.W.subIn K (.ref C_BadCounts) (.type "BaseException") = some true)
    (ty_BadCounts : PySem.W.typeIn K (.ref C_BadCounts) = some (.type "type"))
    (x_NothingBinds : PySem.W.excIn K C_NothingBinds [.type "ValueError", .type "Exception", .type "BaseException", .type "object"] "ValueError.__new__" = true)
    (kp_NothingBinds : PySem.W.keepIn K (.ref C_NothingBinds) = true)
    (sb_NothingBinds : PySem.W.subIn K (.ref C_NothingBinds) (.type "BaseException") = some true)
    (ty_NothingBinds : PySem.W.typeIn K (.ref C_NothingBinds) = some (.type "type"))
    (xx_BadChain : OexCls K C_BadChain)
    (xs_BadChain : PySem.W.findIn K (.ref C_BadChain) "__setattr__" = some (some (.builtin "object.__setattr__")))
    (sb_BadChain : PySem.W.subIn K (.ref C_BadChain) (.type "BaseException") = some true)
    (ty_BadChain : PySem.W.typeIn K (.ref C_BadChain) = some (.type "type"))
    (kp_BadChain : PySem.W.keepIn K (.ref C_BadChain) = true)
    (xx_Stopped : OexCls K C_Stopped)
    (xs_Stopped : PySem.W.findIn K (.ref C_Stopped) "__setattr__" = some (some (.builtin "object.__setattr__")))
    (sb_Stopped : PySem.W.subIn K (.ref C_Stopped) (.type "BaseException") = some true)
    (ty_Stopped : PySem.W.typeIn K (.ref C_Stopped) = some (.type "type"))
    (kp_Stopped : PySem.W.keepIn K (.ref C_Stopped) = true)
    (xx_BadVariants : OexCls K C_BadVariants)
    (xs_BadVariants : PySem.W.findIn K (.ref C_BadVariants) "__setattr__" = some (some (.builtin "object.__setattr__")))
    (sb_BadVariants : PySem.W.subIn K (.ref C_BadVariants) (.type "BaseException") = some true)
    (ty_BadVariants : PySem.W.typeIn K (.ref C_BadVariants) = some (.type "type"))
    (kp_BadVariants : PySem.W.keepIn K (.ref C_BadVariants) = true)
    (xx_BadVersions : OexCls K C_BadVersions)
    (xs_BadVersions : PySem.W.findIn K (.ref C_BadVersions) "__setattr__" = some (some (.builtin "object.__setattr__")))
    (sb_BadVersions : PySem.W.subIn K (.ref C_BadVersions) (.type "BaseException") = some true)
    (ty_BadVersions : PySem.W.typeIn K (.ref C_BadVersions) = some (.type "type"))
    (kp_BadVersions : PySem.W.keepIn K (.ref C_BadVersions) = true)
    (xx_BadMoves : OexCls K C_BadMoves)
    (xs_BadMoves : PySem.W.findIn K (.ref C_BadMoves) "__setattr__" = some (some (.builtin "object.__setattr__")))
    (sb_BadMoves : PySem.W.subIn K (.ref C_BadMoves) (.type "BaseException") = some true)
    (ty_BadMoves : PySem.W.typeIn K (.ref C_BadMoves) = some (.type "type"))
    (kp_BadMoves : PySem.W.keepIn K (.ref C_BadMoves) = true)
    (xx_Breaks : OexCls K C_Breaks)
    (xs_Breaks : PySem.W.findIn K (.ref C_Breaks) "__setattr__" = some (some (.builtin "object.__setattr__")))
    (sb_Breaks : PySem.W.subIn K (.ref C_Breaks) (.type "BaseException") = some true)
    (ty_Breaks : PySem.W.typeIn K (.ref C_Breaks) = some (.type "type"))
    (kp_Breaks : PySem.W.keepIn K (.ref C_Breaks) = true)
    (xx_NoFunction : OexCls K C_NoFunction)
    (xs_NoFunction : PySem.W.findIn K (.ref C_NoFunction) "__setattr__" = some (some (.builtin "object.__setattr__")))
    (sb_NoFunction : PySem.W.subIn K (.ref C_NoFunction) (.type "BaseException") = some true)
    (ty_NoFunction : PySem.W.typeIn K (.ref C_NoFunction) = some (.type "type"))
    (kp_NoFunction : PySem.W.keepIn K (.ref C_NoFunction) = true)
    (xx_NoSite : OexCls K C_NoSite)
    (xs_NoSite : PySem.W.findIn K (.ref C_NoSite) "__setattr__" = some (some (.builtin "object.__setattr__")))
    (sb_NoSite : PySem.W.subIn K (.ref C_NoSite) (.type "BaseException") = some true)
    (ty_NoSite : PySem.W.typeIn K (.ref C_NoSite) = some (.type "type"))
    (kp_NoSite : PySem.W.keepIn K (.ref C_NoSite) = true)
    (xx_BadEntry : OexCls K C_BadEntry)
    (xs_BadEntry : PySem.W.findIn K (.ref C_BadEntry) "__setattr__" = some (some (.builtin "object.__setattr__")))
    (sb_BadEntry : PySem.W.subIn K (.ref C_BadEntry) (.type "BaseException") = some true)
    (ty_BadEntry : PySem.W.typeIn K (.ref C_BadEntry) = some (.type "type"))
    (kp_BadEntry : PySem.W.keepIn K (.ref C_BadEntry) = true)
    (xx_BadText : OexCls K C_BadText)
    (xs_BadText : PySem.W.findIn K (.ref C_BadText) "__setattr__" = some (some (.builtin "object.__setattr__")))
    (sb_BadText : PySem.W.subIn K (.ref C_BadText) (.type "BaseException") = some true)
    (ty_BadText : PySem.W.typeIn K (.ref C_BadText) = some (.type "type"))
    (kp_BadText : PySem.W.keepIn K (.ref C_BadText) = true)
    (bi : PySem.W.findCls K (.ref C_CallError) (.type "type") "__init__" = some (.val (.builtin "ValueError.__init__")))
    (z_ValueError : PySem.W.nsIn K mainGlobals "ValueError" = some none)
    (z_enumerate : PySem.W.nsIn K mainGlobals "enumerate" = some none)
    (z_isinstance : PySem.W.nsIn K mainGlobals "isinstance" = some none)
    (z_len : PySem.W.nsIn K mainGlobals "len" = some none)
    (z_max : PySem.W.nsIn K mainGlobals "max" = some none)
    (z_range : PySem.W.nsIn K mainGlobals "range" = some none)
    (z_repr : PySem.W.nsIn K mainGlobals "repr" = some none) :
    ∃ (fd : FuncData) (cs : List (Addr × Addr)) (ts : List (Addr × Str)), ts.map (·.1) = cs.map (·.2) ∧ (∀ p ∈ cs, K.lookup p.2 = none ∧ ∃ (y : Str) (e : DefRec), (PyProof.Rows.recsOf qq).find? (fun e => e.name == y) = some e ∧ PySem.W.tabIn K y = some p) ∧
      (∀ (s : Shared) (v : Value), BindsTo s fd ⟨[v], []⟩ [("_law_script", v)]) ∧ ∀ base : Heap, K.In base → base.Ns mainGlobals mg → (∀ p ∈ cs, LamX.TabB base mg p.1 p.2) → Cs.FnG l.prog w K mg base CX0 4 fa fd ["_law_script"] (spLawT K ts) := by
  have e := (PySem.W.mg_of X G a25).symm.trans hfa
  obtain rfl : f25 = fa := by cases e; rfl
  refine ⟨PySem.W.fnOf "law" "law" (defArgs s_law) (defBody s_law) (defScope s_law) .none kV25 dc25 pm25 an25 cd25 ct25, [], [], rfl, (fun p hp => by cases hp), fun s v => .of_eq rfl, fun base _ _ htb => ?_⟩
  let T : Tx K mg w base := {
    c_CallError := C_CallError,
    g_CallError := PySem.W.mg_of X G a_CallError,
    c_BadParameter := C_BadParameter,
    g_BadParameter := PySem.W.mg_of X G a_BadParameter,
    c_BadSignature := C_BadSignature,
    g_BadSignature := PySem.W.mg_of X G a_BadSignature,
    c_NoName := C_NoName,
    g_NoName := PySem.W.mg_of X G a_NoName,
    c_BadCall := C_BadCall,
    g_BadCall := PySem.W.mg_of X G a_BadCall,
    c_BadPiece := C_BadPiece,
    g_BadPiece := PySem.W.mg_of X G a_BadPiece,
    c_Repeated := C_Repeated,
    g_Repeated := PySem.W.mg_of X G a_Repeated,
    c_Refused := C_Refused,
    g_Refused := PySem.W.mg_of X G a_Refused,
    c_BadRow := C_BadRow,
    g_BadRow := PySem.W.mg_of X G a_BadRow,
    c_BadCounts := C_BadCounts,
    g_BadCounts := PySem.W.mg_of X G a_BadCounts,
    c_NothingBinds := C_NothingBinds,
    g_NothingBinds := PySem.W.mg_of X G a_NothingBinds,
    c_BadChain := C_BadChain,
    g_BadChain := PySem.W.mg_of X G a_BadChain,
    c_Stopped := C_Stopped,
    g_Stopped := PySem.W.mg_of X G a_Stopped,
    c_BadVariants := C_BadVariants,
    g_BadVariants := PySem.W.mg_of X G a_BadVariants,
    c_BadVersions := C_BadVersions,
    g_BadVersions := PySem.W.mg_of X G a_BadVersions,
    c_BadMoves := C_BadMoves,
    g_BadMoves := PySem.W.mg_of X G a_BadMoves,
    c_Breaks := C_Breaks,
    g_Breaks := PySem.W.mg_of X G a_Breaks,
    c_NoFunction := C_NoFunction,
    g_NoFunction := PySem.W.mg_of X G a_NoFunction,
    c_NoSite := C_NoSite,
    g_NoSite := PySem.W.mg_of X G a_NoSite,
    c_BadEntry := C_BadEntry,
    g_BadEntry := PySem.W.mg_of X G a_BadEntry,
    c_BadText := C_BadText,
    g_BadText := PySem.W.mg_of X G a_BadText,
    g_Lmarks := PySem.W.mg_of X G a1,
    k_Lmarks := k1,
    a_Lmarks := f1,
    fd_Lmarks := _,
    F_Lmarks := fun_mk (st := s_Lmarks) l1 c1 k1,
    b_Lmarks := (fun_mk (st := s_Lmarks) l1 c1 k1).binds (ps := ["_law_error"]) fun _ _ _ _ _ _ us hl => match us, hl with | [_], _ => rfl,
    g_Lapart := PySem.W.mg_of X G a2,
    k_Lapart := k2,
    a_Lapart := f2,
    fd_Lapart := _,
    F_Lapart := fun_mk (st := s_Lapart) l2 c2 k2,
    b_Lapart := (fun_mk (st := s_Lapart) l2 c2 k2).binds (ps := ["_law_made"]) fun _ _ _ _ _ _ us hl => match us, hl with | [_], _ => rfl,
    g_Lbegin := PySem.W.mg_of X G a3,
    k_Lbegin := k3,
    a_Lbegin := f3,
    fd_Lbegin := _,
    F_Lbegin := fun_mk (st := s_Lbegin) l3 c3 k3,
    b_Lbegin := (fun_mk (st := s_Lbegin) l3 c3 k3).binds (ps := ["_law_cell", "_law_turn"]) fun _ _ _ _ _ _ us hl => match us, hl with | [_, _], _ => rfl,
    in_BadChain := in4,
    ti_BadChain := ti4,
    a_BadChain_dinitd := f4,
    fd_BadChain_dinitd := _,
    F_BadChain_dinitd := fun_mk (st := s_BadChain_dinitd) l4 c4 k4,
    b_BadChain_dinitd := (fun_mk (st := s_BadChain_dinitd) l4 c4 k4).binds (ps := ["self", "index"]) fun _ _ _ _ _ _ us hl => match us, hl with | [_, _], _ => rfl,
    kw_BadChain_dinitd_1_index := kb_of (fun_mk (st := s_BadChain_dinitd) l4 c4 k4) (ps := ["self", "index"]) (ks := ["index"]) (n := 1) (ix := [0, 1]) (by simp) fun _ _ _ _ _ _ us ws h1 h2 => match us, h1, ws, h2 with | [_], _, [_], _ => rfl,
    in_BadEntry := in5,
    ti_BadEntry := ti5,
    a_BadEntry_dinitd := f5,
    fd_BadEntry_dinitd := _,
    F_BadEntry_dinitd := fun_mk (st := s_BadEntry_dinitd) l5 c5 k5,
    b_BadEntry_dinitd := (fun_mk (st := s_BadEntry_dinitd) l5 c5 k5).binds (ps := ["self", "index"]) fun _ _ _ _ _ _ us hl => match us, hl with | [_, _], _ => rfl,
    kw_BadEntry_dinitd_1_index := kb_of (fun_mk (st := s_BadEntry_dinitd) l5 c5 k5) (ps := ["self", "index"]) (ks := ["index"]) (n := 1) (ix := [0, 1]) (by simp) fun _ _ _ _ _ _ us ws h1 h2 => match us, h1, ws, h2 with | [_], _, [_], _ => rfl,
    in_BadMoves := in6,
    ti_BadMoves := ti6,
    a_BadMoves_dinitd := f6,
    fd_BadMoves_dinitd := _,
    F_BadMoves_dinitd := fun_mk (st := s_BadMoves_dinitd) l6 c6 k6,
    b_BadMoves_dinitd := (fun_mk (st := s_BadMoves_dinitd) l6 c6 k6).binds (ps := ["self", "index"]) fun _ _ _ _ _ _ us hl => match us, hl with | [_, _], _ => rfl,
    kw_BadMoves_dinitd_1_index := kb_of (fun_mk (st := s_BadMoves_dinitd) l6 c6 k6) (ps := ["self", "index"]) (ks := ["index"]) (n := 1) (ix := [0, 1]) (by simp) fun _ _ _ _ _ _ us ws h1 h2 => match us, h1, ws, h2 with | [_], _, [_], _ => rfl,
    in_BadPiece := in7,
    ti_BadPiece := ti7,
    a_BadPiece_dinitd := f7,
    fd_BadPiece_dinitd := _,
    F_BadPiece_dinitd := fun_mk (st := s_BadPiece_dinitd) l7 c7 k7,
    b_BadPiece_dinitd := (fun_mk (st := s_BadPiece_dinitd) l7 c7 k7).binds (ps := ["self", "index"]) fun _ _ _ _ _ _ us hl => match us, hl with | [_, _], _ => rfl,
    kw_BadPiece_dinitd_1_index := kb_of (fun_mk (st := s_BadPiece_dinitd) l7 c7 k7) (ps := ["self", "index"]) (ks := ["index"]) (n := 1) (ix := [0, 1]) (by simp) fun _ _ _ _ _ _ us ws h1 h2 => match us, h1, ws, h2 with | [_], _, [_], _ => rfl,
    in_BadRow := in8,
    ti_BadRow := ti8,
    a_BadRow_dinitd := f8,
    fd_BadRow_dinitd := _,
    F_BadRow_dinitd := fun_mk (st := s_BadRow_dinitd) l8 c8 k8,
    b_BadRow_dinitd := (fun_mk (st := s_BadRow_dinitd) l8 c8 k8).binds (ps := ["self", "index"]) fun _ _ _ _ _ _ us hl => match us, hl with | [_, _], _ => rfl,
    kw_BadRow_dinitd_1_index := kb_of (fun_mk (st := s_BadRow_dinitd) l8 c8 k8) (ps := ["self", "index"]) (ks := ["index"]) (n := 1) (ix := [0, 1]) (by simp) fun _ _ _ _ _ _ us ws h1 h2 => match us, h1, ws, h2 with | [_], _, [_], _ => rfl,
    in_BadSignature := in9,
    ti_BadSignature := ti9,
    a_BadSignature_dinitd := f9,
    fd_BadSignature_dinitd := _,
    F_BadSignature_dinitd := fun_mk (st := s_BadSignature_dinitd) l9 c9 k9,
    b_BadSignature_dinitd := (fun_mk (st := s_BadSignature_dinitd) l9 c9 k9).binds (ps := ["self", "index"]) fun _ _ _ _ _ _ us hl => match us, hl with | [_, _], _ => rfl,
    kw_BadSignature_dinitd_1_index := kb_of (fun_mk (st := s_BadSignature_dinitd) l9 c9 k9) (ps := ["self", "index"]) (ks := ["index"]) (n := 1) (ix := [0, 1]) (by simp) fun _ _ _ _ _ _ us ws h1 h2 => match us, h1, ws, h2 with | [_], _, [_], _ => rfl,
    in_BadText := in10,
    ti_BadText := ti10,
    a_BadText_dinitd := f10,
    fd_BadText_dinitd := _,
    F_BadText_dinitd := fun_mk (st := s_BadText_dinitd) l10 c10 k10,
    b_BadText_dinitd := (fun_mk (st := s_BadText_dinitd) l10 c10 k10).binds (ps := ["self", "index"]) fun _ _ _ _ _ _ us hl => match us, hl with | [_, _], _ => rfl,
    kw_BadText_dinitd_1_index := kb_of (fun_mk (st := s_BadText_dinitd) l10 c10 k10) (ps := ["self", "index"]) (ks := ["index"]) (n := 1) (ix := [0, 1]) (by simp) fun _ _ _ _ _ _ us ws h1 h2 => match us, h1, ws, h2 with | [_], _, [_], _ => rfl,
    in_BadVariants := in11,
    ti_BadVariants := ti11,
    a_BadVariants_dinitd := f11,
    fd_BadVariants_dinitd := _,
    F_BadVariants_dinitd := fun_mk (st := s_BadVariants_dinitd) l11 c11 k11,
    b_BadVariants_dinitd := (fun_mk (st := s_BadVariants_dinitd) l11 c11 k11).binds (ps := ["self", "index"]) fun _ _ _ _ _ _ us hl => match us, hl with | [_, _], _ => rfl,
    kw_BadVariants_dinitd_1_index := kb_of (fun_mk (st := s_BadVariants_dinitd) l11 c11 k11) (ps := ["self", "index"]) (ks := ["index"]) (n := 1) (ix := [0, 1]) (by simp) fun _ _ _ _ _ _ us ws h1 h2 => match us, h1, ws, h2 with | [_], _, [_], _ => rfl,
    in_BadVersions := in12,
    ti_BadVersions := ti12,
    a_BadVersions_dinitd := f12,
    fd_BadVersions_dinitd := _,
    F_BadVersions_dinitd := fun_mk (st := s_BadVersions_dinitd) l12 c12 k12,
    b_BadVersions_dinitd := (fun_mk (st := s_BadVersions_dinitd) l12 c12 k12).binds (ps := ["self", "index"]) fun _ _ _ _ _ _ us hl => match us, hl with | [_, _], _ => rfl,
    kw_BadVersions_dinitd_1_index := kb_of (fun_mk (st := s_BadVersions_dinitd) l12 c12 k12) (ps := ["self", "index"]) (ks := ["index"]) (n := 1) (ix := [0, 1]) (by simp) fun _ _ _ _ _ _ us ws h1 h2 => match us, h1, ws, h2 with | [_], _, [_], _ => rfl,
    in_Breaks := in13,
    ti_Breaks := ti13,
    a_Breaks_dinitd := f13,
    fd_Breaks_dinitd := _,
    F_Breaks_dinitd := fun_mk (st := s_Breaks_dinitd) l13 c13 k13,
    b_Breaks_dinitd := (fun_mk (st := s_Breaks_dinitd) l13 c13 k13).binds (ps := ["self", "numbers"]) fun _ _ _ _ _ _ us hl => match us, hl with | [_, _], _ => rfl,
    kw_Breaks_dinitd_1_numbers := kb_of (fun_mk (st := s_Breaks_dinitd) l13 c13 k13) (ps := ["self", "numbers"]) (ks := ["numbers"]) (n := 1) (ix := [0, 1]) (by simp) fun _ _ _ _ _ _ us ws h1 h2 => match us, h1, ws, h2 with | [_], _, [_], _ => rfl,
    in_NoFunction := in14,
    ti_NoFunction := ti14,
    a_NoFunction_dinitd := f14,
    fd_NoFunction_dinitd := _,
    F_NoFunction_dinitd := fun_mk (st := s_NoFunction_dinitd) l14 c14 k14,
    b_NoFunction_dinitd := (fun_mk (st := s_NoFunction_dinitd) l14 c14 k14).binds (ps := ["self", "name"]) fun _ _ _ _ _ _ us hl => match us, hl with | [_, _], _ => rfl,
    kw_NoFunction_dinitd_1_name := kb_of (fun_mk (st := s_NoFunction_dinitd) l14 c14 k14) (ps := ["self", "name"]) (ks := ["name"]) (n := 1) (ix := [0, 1]) (by simp) fun _ _ _ _ _ _ us ws h1 h2 => match us, h1, ws, h2 with | [_], _, [_], _ => rfl,
    in_NoName := in15,
    ti_NoName := ti15,
    a_NoName_dinitd := f15,
    fd_NoName_dinitd := _,
    F_NoName_dinitd := fun_mk (st := s_NoName_dinitd) l15 c15 k15,
    b_NoName_dinitd := (fun_mk (st := s_NoName_dinitd) l15 c15 k15).binds (ps := ["self", "name"]) fun _ _ _ _ _ _ us hl => match us, hl with | [_, _], _ => rfl,
    kw_NoName_dinitd_1_name := kb_of (fun_mk (st := s_NoName_dinitd) l15 c15 k15) (ps := ["self", "name"]) (ks := ["name"]) (n := 1) (ix := [0, 1]) (by simp) fun _ _ _ _ _ _ us ws h1 h2 => match us, h1, ws, h2 with | [_], _, [_], _ => rfl,
    in_NoSite := in16,
    ti_NoSite := ti16,
    a_NoSite_dinitd := f16,
    fd_NoSite_dinitd := _,
    F_NoSite_dinitd := fun_mk (st := s_NoSite_dinitd) l16 c16 k16,
    b_NoSite_dinitd := (fun_mk (st := s_NoSite_dinitd) l16 c16 k16).binds (ps := ["self", "number"]) fun _ _ _ _ _ _ us hl => match us, hl with | [_, _], _ => rfl,
    kw_NoSite_dinitd_1_number := kb_of (fun_mk (st := s_NoSite_dinitd) l16 c16 k16) (ps := ["self", "number"]) (ks := ["number"]) (n := 1) (ix := [0, 1]) (by simp) fun _ _ _ _ _ _ us ws h1 h2 => match us, h1, ws, h2 with | [_], _, [_], _ => rfl,
    in_Refused := in17,
    ti_Refused := ti17,
    a_Refused_dinitd := f17,
    fd_Refused_dinitd := _,
    F_Refused_dinitd := fun_mk (st := s_Refused_dinitd) l17 c17 k17,
    b_Refused_dinitd := (fun_mk (st := s_Refused_dinitd) l17 c17 k17).binds (ps := ["self", "obstruction"]) fun _ _ _ _ _ _ us hl => match us, hl with | [_, _], _ => rfl,
    kw_Refused_dinitd_1_obstruction := kb_of (fun_mk (st := s_Refused_dinitd) l17 c17 k17) (ps := ["self", "obstruction"]) (ks := ["obstruction"]) (n := 1) (ix := [0, 1]) (by simp) fun _ _ _ _ _ _ us ws h1 h2 => match us, h1, ws, h2 with | [_], _, [_], _ => rfl,
    in_Repeated := in18,
    ti_Repeated := ti18,
    a_Repeated_dinitd := f18,
    fd_Repeated_dinitd := _,
    F_Repeated_dinitd := fun_mk (st := s_Repeated_dinitd) l18 c18 k18,
    b_Repeated_dinitd := (fun_mk (st := s_Repeated_dinitd) l18 c18 k18).binds (ps := ["self", "name"]) fun _ _ _ _ _ _ us hl => match us, hl with | [_, _], _ => rfl,
    kw_Repeated_dinitd_1_name := kb_of (fun_mk (st := s_Repeated_dinitd) l18 c18 k18) (ps := ["self", "name"]) (ks := ["name"]) (n := 1) (ix := [0, 1]) (by simp) fun _ _ _ _ _ _ us ws h1 h2 => match us, h1, ws, h2 with | [_], _, [_], _ => rfl,
    in_Stopped := in19,
    ti_Stopped := ti19,
    a_Stopped_dinitd := f19,
    fd_Stopped_dinitd := _,
    F_Stopped_dinitd := fun_mk (st := s_Stopped_dinitd) l19 c19 k19,
    b_Stopped_dinitd := (fun_mk (st := s_Stopped_dinitd) l19 c19 k19).binds (ps := ["self", "index", "reason"]) fun _ _ _ _ _ _ us hl => match us, hl with | [_, _, _], _ => rfl,
    kw_Stopped_dinitd_1_reason_index := kb_of (fun_mk (st := s_Stopped_dinitd) l19 c19 k19) (ps := ["self", "index", "reason"]) (ks := ["reason", "index"]) (n := 1) (ix := [0, 2, 1]) (by simp) fun _ _ _ _ _ _ us ws h1 h2 => match us, h1, ws, h2 with | [_], _, [_, _], _ => rfl,
    g_Lby_position := PySem.W.mg_of X G a20,
    k_Lby_position := k20,
    a_Lby_position := f20,
    fd_Lby_position := _,
    F_Lby_position := fun_mk (st := s_Lby_position) l20 c20 k20,
    b_Lby_position := (fun_mk (st := s_Lby_position) l20 c20 k20).binds (ps := ["_law_one", "_law_two"]) fun _ _ _ _ _ _ us hl => match us, hl with | [_, _], _ => rfl,
    g_Lby_word := PySem.W.mg_of X G a21,
    k_Lby_word := k21,
    a_Lby_word := f21,
    fd_Lby_word := _,
    F_Lby_word := fun_mk (st := s_Lby_word) l21 c21 k21,
    b_Lby_word := (fun_mk (st := s_Lby_word) l21 c21 k21).binds (ps := ["_law_one", "_law_two"]) fun _ _ _ _ _ _ us hl => match us, hl with | [_, _], _ => rfl,
    g_Lfields := PySem.W.mg_of X G a22,
    k_Lfields := k22,
    a_Lfields := f22,
    fd_Lfields := _,
    F_Lfields := fun_mk (st := s_Lfields) l22 c22 k22,
    b_Lfields := (fun_mk (st := s_Lfields) l22 c22 k22).binds (ps := ["_law_made"]) fun _ _ _ _ _ _ us hl => match us, hl with | [_], _ => rfl,
    g_Ldraw := PySem.W.mg_of X G a23,
    k_Ldraw := k23,
    a_Ldraw := f23,
    fd_Ldraw := _,
    F_Ldraw := fun_mk (st := s_Ldraw) l23 c23 k23,
    b_Ldraw := (fun_mk (st := s_Ldraw) l23 c23 k23).binds (ps := ["_law_state", "_law_size"]) fun _ _ _ _ _ _ us hl => match us, hl with | [_, _], _ => rfl,
    g_Lpick := PySem.W.mg_of X G a24,
    k_Lpick := k24,
    a_Lpick := f24,
    fd_Lpick := _,
    F_Lpick := fun_mk (st := s_Lpick) l24 c24 k24,
    b_Lpick := (fun_mk (st := s_Lpick) l24 c24 k24).binds (ps := ["_law_state", "_law_items"]) fun _ _ _ _ _ _ us hl => match us, hl with | [_, _], _ => rfl,
    g_law := PySem.W.mg_of X G a25,
    k_law := k25,
    a_law := f25,
    fd_law := _,
    F_law := fun_mk (st := s_law) l25 c25 k25,
    b_law := (fun_mk (st := s_law) l25 c25 k25).binds (ps := ["_law_script"]) fun _ _ _ _ _ _ us hl => match us, hl with | [_], _ => rfl,
    isf := fun _ => isfB_ok xisf,
    nf_BadChain_index := noB_ok xno (by simp),
    nf_BadEntry_index := noB_ok xno (by simp),
    nf_BadMoves_index := noB_ok xno (by simp),
    nf_BadPiece_index := noB_ok xno (by simp),
    nf_BadRow_index := noB_ok xno (by simp),
    nf_BadSignature_index := noB_ok xno (by simp),
    nf_BadText_index := noB_ok xno (by simp),
    nf_BadVariants_index := noB_ok xno (by simp),
    nf_BadVersions_index := noB_ok xno (by simp),
    nf_Breaks_numbers := noB_ok xno (by simp),
    nf_NoFunction_name := noB_ok xno (by simp),
    nf_NoName_name := noB_ok xno (by simp),
    nf_NoSite_number := noB_ok xno (by simp),
    nf_Refused_obstruction := noB_ok xno (by simp),
    nf_Repeated_name := noB_ok xno (by simp),
    nf_Stopped_index := noB_ok xno (by simp),
    nf_Stopped_reason := noB_ok xno (by simp),
    cr_CallError := crB_ok xcr_CallError,
    x_BadParameter := x_BadParameter,
    kp_BadParameter := kp_BadParameter,
    sb_BadParameter := sb_BadParameter,
    ty_BadParameter := ty_BadParameter,
    ox_BadSignature := ⟨xx_BadSignature, xs_BadSignature, sb_BadSignature, ty_BadSignature, kp_BadSignature⟩,
    ox_NoName := ⟨xx_NoName, xs_NoName, sb_NoName, ty_NoName, kp_NoName⟩,
    x_BadCall := x_BadCall,
    kp_BadCall := kp_BadCall,
    sb_BadCall := sb_BadCall,
    ty_BadCall := ty_BadCall,
    ox_BadPiece := ⟨xx_BadPiece, xs_BadPiece, sb_BadPiece, ty_BadPiece, kp_BadPiece⟩,
    ox_Repeated := ⟨xx_Repeated, xs_Repeated, sb_Repeated, ty_Repeated, kp_Repeated⟩,
    ox_Refused := ⟨xx_Refused, xs_Refused, sb_Refused, ty_Refused, kp_Refused⟩,
    ox_BadRow := ⟨xx_BadRow, xs_BadRow, sb_BadRow, ty_BadRow, kp_BadRow⟩,
    x_BadCounts := x_BadCounts,
    kp_BadCounts := kp_BadCounts,
    sb_BadCounts := sb_BadCounts,
    ty_BadCounts := ty_BadCounts,
    x_NothingBinds := x_NothingBinds,
    kp_NothingBinds := kp_NothingBinds,
    sb_NothingBinds := sb_NothingBinds,
    ty_NothingBinds := ty_NothingBinds,
    ox_BadChain := ⟨xx_BadChain, xs_BadChain, sb_BadChain, ty_BadChain, kp_BadChain⟩,
    ox_Stopped := ⟨xx_Stopped, xs_Stopped, sb_Stopped, ty_Stopped, kp_Stopped⟩,
    ox_BadVariants := ⟨xx_BadVariants, xs_BadVariants, sb_BadVariants, ty_BadVariants, kp_BadVariants⟩,
    ox_BadVersions := ⟨xx_BadVersions, xs_BadVersions, sb_BadVersions, ty_BadVersions, kp_BadVersions⟩,
    ox_BadMoves := ⟨xx_BadMoves, xs_BadMoves, sb_BadMoves, ty_BadMoves, kp_BadMoves⟩,
    ox_Breaks := ⟨xx_Breaks, xs_Breaks, sb_Breaks, ty_Breaks, kp_Breaks⟩,
    ox_NoFunction := ⟨xx_NoFunction, xs_NoFunction, sb_NoFunction, ty_NoFunction, kp_NoFunction⟩,
    ox_NoSite := ⟨xx_NoSite, xs_NoSite, sb_NoSite, ty_NoSite, kp_NoSite⟩,
    ox_BadEntry := ⟨xx_BadEntry, xs_BadEntry, sb_BadEntry, ty_BadEntry, kp_BadEntry⟩,
    ox_BadText := ⟨xx_BadText, xs_BadText, sb_BadText, ty_BadText, kp_BadText⟩,
    bi := bi,
    n_ValueError := PySem.W.mg_none_of X G z_ValueError,
    n_enumerate := PySem.W.mg_none_of X G z_enumerate,
    n_isinstance := PySem.W.mg_none_of X G z_isinstance,
    n_len := PySem.W.mg_none_of X G z_len,
    n_max := PySem.W.mg_none_of X G z_max,
    n_range := PySem.W.mg_none_of X G z_range,
    n_repr := PySem.W.mg_none_of X G z_repr}
  exact ok_law T hm
end
end K06
namespace Pl
open PySem PySem.Spec L2 Mi
section
variable {α : Type} {Q : D → Store → Prop} {X : Exc → Store → Prop} {P : Post} {ρ : Mi.Env} {μ μ0 : Store} {n : Nat} {S : Src → Store → Prop}
theorem watch_nil : watch [] μ0 μ := fun _ h => by cases h
@[simp] theorem rs_for {i : MI} {g : MG} {body : MS} : @RpS (mFor i g body n ρ μ) P = @Rp _ (i ρ μ) (fun s μ => @RpS (forS s.w μ g body n s.items ρ μ) P) P.X := by
  unfold mFor; rw [rs_st]
@[simp] theorem ri_any {a : ME} : @Rp _ (miAny a ρ μ) S X = @Rp _ (a ρ μ) (fun d μ => match anyItems μ d with
  | some (ds, w) => S ⟨ds, w⟩ μ
  | none => False) X := by
  unfold miAny; rw [rp_bind]; congr 1; funext d μ; cases anyItems μ d <;> rfl
@[simp] theorem ri_rng1 {a : MA} : @Rp _ (miRng1 a ρ μ) S X = @Rp _ (a ρ μ) (fun ds μ => match ds with
  | [.int j] => (-(2 ^ 62) ≤ j ∧ j < 2 ^ 62) ∧ S ⟨rangeD 0 j.toNat, []⟩ μ
  | _ => False) X := by
  unfold miRng1; rw [rp_bind]; congr 1; funext ds μ
  split
  · rename_i j; by_cases h : -(2 ^ 62) ≤ j ∧ j < 2 ^ 62 <;> simp [h]
  · rename_i h
    first
      | rfl
      | (split
         · rename_i j; exact absurd rfl (h j)
         · rfl)
@[simp] theorem ri_rng2 {a : MA} : @Rp _ (miRng2 a ρ μ) S X = @Rp _ (a ρ μ) (fun ds μ => match ds with
  | [.int i, .int j] => (-(2 ^ 62) ≤ i ∧ i < 2 ^ 62 ∧ -(2 ^ 62) ≤ j ∧ j < 2 ^ 62) ∧ S ⟨rangeD i (j - i).toNat, []⟩ μ
  | _ => False) X := by
  unfold miRng2; rw [rp_bind]; congr 1; funext ds μ
  split
  · rename_i i j; by_cases h : -(2 ^ 62) ≤ i ∧ i < 2 ^ 62 ∧ -(2 ^ 62) ≤ j ∧ j < 2 ^ 62 <;> simp [h]
  · rename_i h
    first
      | rfl
      | (split
         · rename_i i j; exact absurd rfl (h i j)
         · rfl)
@[simp] theorem ri_enum {a : MA} : @Rp _ (miEnum a ρ μ) S X = @Rp _ (a ρ μ) (fun xs μ => match xs with
  | [d] => (match seqL μ d with
    | some ds => S ⟨enumD ds, d.cell⟩ μ
    | none => (match seqT d with
      | some ds => S ⟨enumD ds, []⟩ μ
      | none => False))
  | _ => False) X := by
  unfold miEnum; rw [rp_bind]; congr 1; funext xs μ
  rcases xs with _ | ⟨d, _ | ⟨e, r⟩⟩
  · rfl
  · dsimp only
    cases seqL μ d with
    | some ds => rfl
    | none => dsimp only; cases seqT d <;> rfl
  · rfl
@[simp] theorem rp_lc {b : Bool} {i : MI} {g : D → Mi.Env → Option Mi.Env} {t : MT} {el : ME} {vs : List Nat} : @Rp _ (mLc b i g t el vs ρ μ) Q X = @Rp _ (i ρ μ) (fun s μ => @Rp _ (lcA s.w μ g t el (wipeD ρ vs) s.items [] μ) (fun xs μ => @Rp _ (newL b xs μ) Q X) X) X := by
  unfold mLc; simp only [rp_bind]
variable {L : List D → Store → Prop}
@[simp] theorem seqL_lst {ds : List D} : seqL μ (.lst ds) = some ds := rfl
@[simp] theorem seqL_tup {ds : List D} : seqL μ (.tup ds) = none := rfl
@[simp] theorem seqL_str {z : Str} : seqL μ (.str z) = none := rfl
@[simp] theorem seqL_int {z : Int} : seqL μ (.int z) = none := rfl
@[simp] theorem seqL_bl {z : Bool} : seqL μ (.bl z) = none := rfl
@[simp] theorem seqL_non : seqL μ .non = none := rfl
@[simp] theorem seqL_dct {ks : List Key} {ds : List D} : seqL μ (.dct ks ds) = none := rfl
@[simp] theorem seqT_lst {ds : List D} : seqT (.lst ds) = none := rfl
@[simp] theorem seqT_tup {ds : List D} : seqT (.tup ds) = some ds := rfl
theorem seqL_own {k : Nat} {ds : List D} (h : μ[k]? = some (some (.lst ds))) : seqL μ (.own k) = some ds := by unfold seqL; simp [h]
theorem ownL_own {k : Nat} {ds : List D} (h : μ[k]? = some (some (.lst ds))) : ownL μ (.own k) = some (k, ds) := by unfold ownL; simp [h]
theorem ownK_own {k : Nat} {ks : List Key} {ds : List D} (h : μ[k]? = some (some (.dct ks ds))) : ownK μ (.own k) = some (k, ks, ds) := by unfold ownK; simp [h]
@[simp] theorem dctOf_dct {ks : List Key} {ds : List D} : dctOf μ (.dct ks ds) = some (ks, ds) := rfl
theorem tyM_ownL {k : Nat} {ds : List D} (h : μ[k]? = some (some (.lst ds))) : tyM μ (.own k) = some "list" := by unfold tyM; simp [h]
@[simp] theorem keyOf_int {i : Int} : keyOf (.int i) = some (.inl i) := rfl
@[simp] theorem keyOf_str {x : Str} : keyOf (.str x) = some (.inr x) := rfl
@[simp] theorem f_i2 {g : Int → Int → D} {i j : Int} : @Rp _ (fI2 g (.int i) (.int j) μ) Q X = Q (g i j) μ := rfl
@[simp] theorem f_i2c {C : Int → Int → Prop} {g : Int → Int → D} {i j : Int} : @Rp _ (fI2c C g (.int i) (.int j) μ) Q X = (C i j ∧ Q (g i j) μ) := by
  unfold fI2c; by_cases h : C i j <;> simp [h]
@[simp] theorem f_addI {b : Bool} {i j : Int} : @Rp _ (fAdd b (.int i) (.int j) μ) Q X = Q (.int (i + j)) μ := rfl
@[simp] theorem f_addS {b : Bool} {i j : Str} : @Rp _ (fAdd b (.str i) (.str j) μ) Q X = (i.length + j.length ≤ sizeLine ∧ Q (.str (i ++ j)) μ) := by
  unfold fAdd; by_cases h : i.length + j.length ≤ sizeLine <;> simp [h]
theorem f_addL {b : Bool} {x y : D} {xs ys : List D} (hx : seqL μ x = some xs) (hy : seqL μ y = some ys) : @Rp _ (fAdd b x y μ) Q X = (xs.length + ys.length ≤ sizeLine ∧ @Rp _ (newL b (xs ++ ys) μ) Q X) := by
  have e : fAdd b x y μ = if xs.length + ys.length ≤ sizeLine then newL b (xs ++ ys) μ else .bad := by
    unfold fAdd
    split
    · cases hx
    · cases hx
    · cases hx
    · rw [hx, hy]
  rw [e]; by_cases h : xs.length + ys.length ≤ sizeLine <;> simp [h]
@[simp] theorem f_addLL {b : Bool} {xs ys : List D} : @Rp _ (fAdd b (.lst xs) (.lst ys) μ) Q X = (xs.length + ys.length ≤ sizeLine ∧ @Rp _ (newL b (xs ++ ys) μ) Q X) := f_addL rfl rfl
@[simp] theorem f_mulI {b : Bool} {i j : Int} : @Rp _ (fMul b (.int i) (.int j) μ) Q X = (CMulW i j ∧ Q (.int (i * j)) μ) := by
  unfold fMul; by_cases h : CMulW i j <;> simp [h]
@[simp] theorem f_neg {i : Int} : @Rp _ (fNeg (.int i) μ) Q X = Q (.int (-i)) μ := rfl
@[simp] theorem f_max {i j : Int} : @Rp _ (fMax2 [.int i, .int j] μ) Q X = Q (.int (if j > i then j else i)) μ := rfl
theorem f_lenL {x : D} {xs : List D} (hx : seqL μ x = some xs) : @Rp _ (fLen [x] μ) Q X = Q (.int xs.length) μ := by
  have e : fLen [x] μ = .ok (.int xs.length) μ := by
    unfold fLen
    split
    · rename_i e; cases e; cases hx
    · rename_i e; cases e; simp [hx]
    · rename_i h; exact absurd rfl (h x)
  rw [e]; rfl
@[simp] theorem f_lenLst {xs : List D} : @Rp _ (fLen [.lst xs] μ) Q X = Q (.int xs.length) μ := f_lenL rfl
@[simp] theorem f_lenTup {xs : List D} : @Rp _ (fLen [.tup xs] μ) Q X = Q (.int xs.length) μ := rfl
theorem f_ixL {x : D} {xs : List D} {i : Int} (hx : seqL μ x = some xs) : @Rp _ (fIx x (.int i) μ) Q X = (match atI xs i with
  | some d => Q d μ
  | none => False) := by
  have e : fIx x (.int i) μ = match atI xs i with
      | some d => .ok d μ
      | none => .bad := by
    unfold fIx
    split
    · cases hx
    · rename_i i' _ e; cases e; simp only [hx]; all_goals (cases atI xs i <;> rfl)
    · rename_i h2 h1; exact (h2 _ rfl).elim
  rw [e]
  all_goals (cases atI xs i <;> rfl)
@[simp] theorem f_ixLst {xs : List D} {i : Int} : @Rp _ (fIx (.lst xs) (.int i) μ) Q X = (match atI xs i with
  | some d => Q d μ
  | none => False) := f_ixL rfl
@[simp] theorem f_ixTup {xs : List D} {i : Int} : @Rp _ (fIx (.tup xs) (.int i) μ) Q X = (match atI xs i with
  | some d => Q d μ
  | none => False) := by
  have e : fIx (.tup xs) (.int i) μ = match atI xs i with
      | some d => .ok d μ
      | none => .bad := by
    unfold fIx
    simp only [seqL_tup, seqT_tup]
    all_goals (cases atI xs i <;> rfl)
  rw [e]
  all_goals (cases atI xs i <;> rfl)
theorem atI_nat {α : Type} {xs : List α} {i : Int} (h0 : 0 ≤ i) (h1 : i < xs.length) : ∃ d, atI xs i = some d ∧ d ∈ xs := by
  have hl : i.toNat < xs.length := by omega
  refine ⟨xs[i.toNat], ?_, List.getElem_mem hl⟩
  unfold atI ixN
  rw [if_pos h0, if_pos h1]
  simp [hl]
theorem ixN_nat {n : Nat} {i : Int} (h0 : 0 ≤ i) (h1 : i < n) : ixN n i = some i.toNat := by
  unfold ixN
  rw [if_pos h0, if_pos h1]
@[simp] theorem atI_0 {α : Type} {x : α} {xs : List α} : atI (x :: xs) 0 = some x := by
  unfold atI ixN; simp
@[simp] theorem atI_1 {α : Type} {x y : α} {xs : List α} : atI (x :: y :: xs) 1 = some y := by
  unfold atI ixN
  rw [if_pos (by decide), if_pos (by simp only [List.length_cons]; omega)]; rfl
@[simp] theorem atI_2 {α : Type} {x y z : α} {xs : List α} : atI (x :: y :: z :: xs) 2 = some z := by
  unfold atI ixN
  rw [if_pos (by decide), if_pos (by simp only [List.length_cons]; omega)]; rfl
theorem view_nil {x : D} (hx : seqL μ x = some []) : x.view μ = some (.list []) := by
  cases x with
  | lst ds => cases Option.some.inj hx; rfl
  | own k =>
    unfold seqL at hx
    dsimp only at hx
    cases e : μ[k]? with
    | none => rw [e] at hx; cases hx
    | some o =>
      rw [e] at hx
      cases o with
      | none => cases hx
      | some y =>
        cases y with
        | lst ds =>
          cases Option.some.inj hx
          show vf 4 μ k = _
          unfold vf
          rw [e]
          rfl
        | _ => cases hx
  | _ => cases hx
theorem f_eqNil {neg : Bool} {x : D} {xs : List D} (hx : seqL μ x = some xs) : @Rp _ (fEq neg x (.lst []) μ) Q X = Q (.bl (if neg = true then !xs.isEmpty else xs.isEmpty)) μ := by
  unfold fEq
  simp only [hx, seqL_lst]
  cases xs with
  | nil =>
    rw [if_pos rfl]
    unfold eqView
    rw [view_nil hx, show D.view μ (.lst []) = some (.list []) from rfl]
    have : SeqAt.shaped (.list []) = true := by decide
    simp only [this]
    cases neg <;> rfl
  | cons a as =>
    rw [if_neg (by simp)]
    cases neg <;> rfl
end
end Pl
namespace Pl
open PySem PySem.Spec L2 Mi
noncomputable def b_begin : MS := (mRet (mLst true (mCons (mCb fMax2 (mCons (mC (.int 0)) (mCons (mOp (fI2 fun i j => .int (i - j)) (mVar 0) (mOp (fI2c Cs.CPowW fun i j => .int (i ^ j.toNat)) (mC (.int 10)) (mC (.int 18)))) mNil))) (mCons (mOp (fAdd false) (mVar 0) (mOp (fMul false) (mC (.int 977)) (mVar 1))) (mCons (mC (.int 0)) mNil)))))
noncomputable def m_begin : List D → Store → Res D := mFn 2 2 b_begin
noncomputable def b_draw : MS := (mSeq (mIfS (mB (mOp (fI2 fun i j => .bl (decide (j < i))) (mOp fIx (mVar 0) (mC (.int 0))) (mC (.int 0)))) (mSeq (mSet 2 (mOp (fI2c (fun _ j => j ≠ 0) fun i j => .int (i.fmod j)) (mOp fIx (mVar 0) (mC (.int 0))) (mVar 1)))
  (mSeq (mAsg (mOp (fI2c CDivN fun i j => .int (i.fdiv j)) (mOp fIx (mVar 0) (mC (.int 0))) (mVar 1)) (mgSubL (mVar 0) (mC (.int 0))))
  (mRet (mVar 2)))) mNext)
  (mSeq (mAsg (mOp (fAdd false) (mOp fIx (mVar 0) (mC (.int 2))) (mC (.int 1))) (mgSubL (mVar 0) (mC (.int 2))))
  (mSeq (mSet 2 (mOp (fAdd false) (mOp (fI2c (fun _ j => j ≠ 0) fun i j => .int (i.fmod j)) (mOp fIx (mVar 0) (mC (.int 1))) (mC (.int 2147483629))) (mOp (fMul false) (mC (.int 104729)) (mOp fIx (mVar 0) (mC (.int 2))))))
  (mSeq (mSet 2 (mOp (fMul false) (mVar 2) (mOp (fAdd false) (mOp (fAdd false) (mOp (fI2c (fun _ j => j ≠ 0) fun i j => .int (i.fmod j)) (mOp fIx (mVar 0) (mC (.int 1))) (mC (.int 2147483587))) (mOp (fMul false) (mOp (fMul false) (mC (.int 7919)) (mOp fIx (mVar 0) (mC (.int 2)))) (mOp fIx (mVar 0) (mC (.int 2))))) (mC (.int 11)))))
  (mRet (mOp (fI2c (fun _ j => j ≠ 0) fun i j => .int (i.fmod j)) (mOp (fI2c CDivN fun i j => .int (i.fdiv j)) (mOp (fI2c (fun _ j => j ≠ 0) fun i j => .int (i.fmod j)) (mOp (fI2c Cs.CPowW fun i j => .int (i ^ j.toNat)) (mVar 2) (mC (.int 3))) (mC (.int 2147483647))) (mC (.int 11))) (mVar 1)))))))
noncomputable def m_draw : List D → Store → Res D := mFn 3 2 b_draw
noncomputable def b_pick : MS := (mRet (mOp fIx (mVar 1) (mCall m_draw (mCons (mVar 0) (mCons (mCb fLen (mCons (mVar 1) mNil)) mNil)))))
noncomputable def m_pick : List D → Store → Res D := mFn 2 2 b_pick
def St (μ : Store) (s c : Nat) : Prop := ∃ a b z : Int, μ[s]? = some (some (.lst [.int a, .int b, .int z])) ∧ 0 ≤ z ∧ z ≤ c
structure Fr (s : Nat) (μ μ' : Store) : Prop where
  len : μ.length ≤ μ'.length
  at_ : ∀ n, n < μ.length → n ≠ s → μ'[n]? = μ[n]?
section
variable {Q : D → Store → Prop} {X : Exc → Store → Prop} {P : Post} {ρ : Mi.Env} {μ μ' μ'' : Store} {s c n : Nat}
theorem St.lt (h : St μ s c) : s < μ.length := by
  obtain ⟨a, b, z, e, _⟩ := h
  exact (List.getElem?_eq_some_iff.mp e).1
theorem St.le (h : St μ s c) {d : Nat} (l : c ≤ d) : St μ s d := by
  obtain ⟨a, b, z, e, h0, h1⟩ := h
  exact ⟨a, b, z, e, h0, by omega⟩
theorem Fr.refl : Fr s μ μ := ⟨Nat.le_refl _, fun _ _ _ => rfl⟩
theorem Fr.trans (h : Fr s μ μ') (k : Fr s μ' μ'') : Fr s μ μ'' := ⟨Nat.le_trans h.len k.len, fun n l ne => (k.at_ n (Nat.lt_of_lt_of_le l h.len) ne).trans (h.at_ n l ne)⟩
theorem Fr.set {x : Option Cell} : Fr s μ (μ.set s x) := ⟨by simp, fun n l ne => by rw [List.getElem?_set_ne (Ne.symm ne)]⟩
theorem Fr.new {x : Option Cell} : Fr s μ (μ ++ [x]) := ⟨by simp, fun n l ne => by rw [List.getElem?_append_left l]⟩
theorem Fr.put {k : Nat} {x : Option Cell} (h : Fr s μ μ') (l : μ.length ≤ k) : Fr s μ (μ'.set k x) := ⟨by rw [List.length_set]; exact h.len, fun n l2 ne => by rw [List.getElem?_set_ne (by omega)]; exact h.at_ n l2 ne⟩
theorem St.new {x : Option Cell} (h : St μ s c) : St (μ ++ [x]) s c := by
  have l := h.lt
  obtain ⟨a, b, z, e, h0, h1⟩ := h
  exact ⟨a, b, z, by rw [List.getElem?_append_left l]; exact e, h0, h1⟩
theorem St.put {k : Nat} {x : Option Cell} (h : St μ s c) (ne : k ≠ s) : St (μ.set k x) s c := by
  obtain ⟨a, b, z, e, h0, h1⟩ := h
  exact ⟨a, b, z, by rw [List.getElem?_set_ne ne]; exact e, h0, h1⟩
theorem begin_rp {cell turn : Int} (h0 : 0 ≤ turn) (h1 : turn < 1000) (k : ∀ x y : Int, Q (.own μ.length) (μ ++ [some (.lst [.int x, .int y, .int 0])])) : @Rp _ (m_begin [.int cell, .int turn] μ) Q X := by
  simp only [m_begin, b_begin, startD, rp_fn, rs_ret, rp_lst, rp_cons, rp_cb, rp_op, rp_var, rp_c, rp_nil, f_i2, f_i2c, f_max, f_addI, f_mulI, rp_newL]
  simp
  refine ⟨by unfold Cs.CPowW; decide +kernel, Cs.mulW_of (a := 10) (b := 10) (by decide) (by omega) (by decide) (by decide) (by decide), by decide, ?_⟩
  exact k _ _
theorem draw_rp {n : Int} (h : St μ s c) (hc : c < 1000000) (h0 : 0 < n) (h1 : n < 1073741824) (k : ∀ (r : Int) μ', 0 ≤ r → r < n → St μ' s (c + 1) → Fr s μ μ' → Q (.int r) μ') : @Rp _ (m_draw [.own s, .int n] μ) Q X := by
  have hl := h.lt
  obtain ⟨x, y, z, hs, z0, z1⟩ := h
  have set1 : ∀ v : Option Cell, (μ.set s v)[s]? = some v := fun v => by simp [hl]
  have hs2 := set1 (some (.lst [.int x, .int y, .int (z + 1)]))
  have f1 := Cs.fmod_lt (a := y) (b := 2147483629) (by decide)
  have f2 := Cs.fmod_lt (a := y) (b := 2147483587) (by decide)
  have hz2 : (z + 1).natAbs < 2 ^ 20 := by
    have : (2:Nat) ^ 20 = 1048576 := by decide
    omega
  have m1 : CMulW 104729 (z + 1) := Cs.mulW_of (a := 17) (b := 20) (by decide) hz2 (by decide) (by decide) (by decide)
  have m2 : CMulW 7919 (z + 1) := Cs.mulW_of (a := 13) (b := 20) (by decide) hz2 (by decide) (by decide) (by decide)
  have b2 : (7919 * (z + 1)).natAbs < 2 ^ 33 := wide_lt (a := 13) (b := 20) (by decide) hz2
  have m3 : CMulW (7919 * (z + 1)) (z + 1) := Cs.mulW_of (a := 33) (b := 20) b2 hz2 (by decide) (by decide) (by decide)
  have b3 : (7919 * (z + 1) * (z + 1)).natAbs < 2 ^ 53 := wide_lt (a := 33) (b := 20) b2 hz2
  have b1 : (104729 * (z + 1)).natAbs < 2 ^ 37 := wide_lt (a := 17) (b := 20) (by decide) hz2
  have e37 : (2:Nat) ^ 37 = 137438953472 := by decide
  have e53 : (2:Nat) ^ 53 = 9007199254740992 := by decide
  have u1 : (y.fmod 2147483629 + 104729 * (z + 1)).natAbs < 2 ^ 38 := by
    have e38 : (2:Nat) ^ 38 = 274877906944 := by decide
    omega
  have u2 : (y.fmod 2147483587 + 7919 * (z + 1) * (z + 1) + 11).natAbs < 2 ^ 54 := by
    have e54 : (2:Nat) ^ 54 = 18014398509481984 := by decide
    omega
  have m4 : CMulW (y.fmod 2147483629 + 104729 * (z + 1)) (y.fmod 2147483587 + 7919 * (z + 1) * (z + 1) + 11) := Cs.mulW_of (a := 38) (b := 54) u1 u2 (by decide) (by decide) (by decide)
  have u3 : ((y.fmod 2147483629 + 104729 * (z + 1)) * (y.fmod 2147483587 + 7919 * (z + 1) * (z + 1) + 11)).natAbs < 2 ^ 92 := wide_lt (a := 38) (b := 54) u1 u2
  have p1 : Cs.CPowW ((y.fmod 2147483629 + 104729 * (z + 1)) * (y.fmod 2147483587 + 7919 * (z + 1) * (z + 1) + 11)) 3 := by
    refine ⟨by decide, ?_⟩
    have l := PySem.Flt.log2_lt_of (by decide) u3
    have e27 : (2:Int) ^ 27 = 134217728 := by decide
    omega
  have d1 : CDivN x n := ⟨by omega, by omega⟩
  have d2 : ∀ v : Int, CDivN v 11 := fun v => ⟨by decide, by decide⟩
  have n0 : n ≠ 0 := by omega
  have e2 : ∀ v, [D.int x, D.int y, D.int z].set (Int.toNat 2) v = [D.int x, D.int y, v] := fun _ => rfl
  have S1 := seqL_own hs
  have S2 := seqL_own hs2
  simp only [m_draw, b_draw, startD, rp_fn, rs_ret, rs_seq, rs_if, rs_set, rs_asg, rs_next, rp_B, rp_op, rp_var, rp_c, f_i2, f_i2c, f_addI, f_mulI, rg_subL, f_ixL S1, ownL_own hs, List.map, List.length, List.replicate, List.cons_append, List.nil_append, List.getElem?_cons_zero, List.getElem?_cons_succ, List.set_cons_zero, List.set_cons_succ, atI_0, atI_1, atI_2, Nat.reduceAdd, Nat.reduceSub, Nat.sub_self, ixN_nat (n := 3) (i := 0) (by decide) (by decide), ixN_nat (n := 3) (i := 2) (by decide) (by decide), true_and]
  by_cases hx : 0 < x
  · simp only [hx, decide_true, if_true, n0, ne_eq, not_false_eq_true, true_and, d1]
    refine k _ _ (Cs.fmod_lt h0).1 (Cs.fmod_lt h0).2 ⟨_, y, z, set1 _, z0, by omega⟩ .set
  · simp only [hx, decide_false, Bool.false_eq_true, if_false, e2, f_ixL S2, atI_0, atI_1, atI_2, f_i2c, f_addI, f_mulI, ne_eq, m1, m2, m3, m4, p1, n0, d2, not_false_eq_true, true_and, List.getElem?_cons_zero, List.getElem?_cons_succ, List.set_cons_zero, List.set_cons_succ]
    refine ⟨by decide, by decide, by decide, ?_⟩
    exact k _ _ (Cs.fmod_lt h0).1 (Cs.fmod_lt h0).2 ⟨x, y, z + 1, hs2, by omega, by omega⟩ .set
theorem pick_rp {x : D} {xs : List D} (h : St μ s c) (hc : c < 1000000) (hx : ∀ μ', Fr s μ μ' → seqL μ' x = some xs) (h0 : 0 < xs.length) (h1 : xs.length < 1073741824) (k : ∀ d μ', d ∈ xs → St μ' s (c + 1) → Fr s μ μ' → Q d μ') : @Rp _ (m_pick [.own s, x] μ) Q X := by
  have e1 : ∀ Q, @Rp _ (fLen [x] μ) Q X = Q (.int xs.length) μ := fun Q => f_lenL (hx μ .refl)
  simp only [m_pick, b_pick, startD, rp_fn, rs_ret, rp_op, rp_var, rp_call, rp_cons, rp_nil, rp_cb, e1, List.map, List.length, List.replicate, List.cons_append, List.nil_append, List.getElem?_cons_zero, List.getElem?_cons_succ, Nat.reduceAdd, Nat.reduceSub, Nat.sub_self, true_and]
  refine draw_rp h hc (by omega) (by omega) fun r μ' r0 r1 st fr => ?_
  obtain ⟨d, e, hd⟩ := atI_nat (xs := xs) r0 r1
  rw [f_ixL (hx μ' fr), e]
  exact k d μ' hd st fr
end
end Pl
namespace Pl
open PySem PySem.Spec L2 Mi
section
variable {Q : D → Store → Prop} {X : Exc → Store → Prop} {P : Post} {ρ : Mi.Env} {μ μ' μ'' : Store} {s c n : Nat} {d : D}
theorem ok_of {α : Type} {r : Res α} {a : α} (h : @Rp _ r (fun b μ' => b = a ∧ μ' = μ) fun _ _ => False) : r = .ok a μ := by
  obtain ⟨b, μ', e, rfl, rfl⟩ := rp_get h
  exact e
theorem f_ltI {i j : Int} : @Rp _ (fLt (.int i) (.int j) μ) Q X = Q (.bl (decide (i < j))) μ := by
  have e : fLt (.int i) (.int j) μ = .ok (.bl (decide (i < j))) μ := by
    unfold fLt
    rw [show D.view μ (.int i) = some (.int i) from rfl, show D.view μ (.int j) = some (.int j) from rfl]
    dsimp only
    rw [if_pos (by refine ⟨rfl, rfl, rfl, ?_, ?_⟩; exact (fun z => by cases z); exact Nat.zero_le _)]
    rw [PySem.W.dataLt_int]
  rw [e]; rfl
@[simp] theorem any_str {z : Str} : anyItems μ (.str z) = some (chars z, []) := rfl
@[simp] theorem any_lst {ds : List D} : anyItems μ (.lst ds) = some (ds, []) := rfl
@[simp] theorem any_tup {ds : List D} : anyItems μ (.tup ds) = some (ds, []) := rfl
@[simp] theorem f_leS {i j : Str} : @Rp _ (fLeS (.str i) (.str j) μ) Q X = Q (.bl (!decide (j.cps.toList < i.cps.toList))) μ := rfl
end
end Pl
namespace Pl
open PySem PySem.Spec L2 Mi
section
variable {Q : D → Store → Prop} {X : Exc → Store → Prop} {P : Post} {ρ : Mi.Env} {μ μ' μ0 : Store} {s c n : Nat} {d : D} {L : List Key × List D → Store → Prop}
@[simp] theorem rp_dc {b : Bool} {i : MI} {g : D → Mi.Env → Option Mi.Env} {t : MT} {ek ev : ME} {vs : List Nat} : @Rp _ (mDc b i g t ek ev vs ρ μ) Q X = @Rp _ (i ρ μ) (fun s μ => @Rp _ (dcA s.w μ g t ek ev (wipeD ρ vs) s.items [] [] μ) (fun p μ => @Rp _ (newK b p.1 p.2 μ) Q X) X) X := by
  unfold mDc; simp only [rp_bind]
theorem putKK_new {ks : List Key} {k : Key} (h : k ∉ ks) : putKK ks k = ks ++ [k] := by unfold putKK; rw [if_neg h]
theorem putKV_new {α : Type} {ks : List Key} {k : Key} {z : α} {ds : List α} (h : k ∉ ks) (hl : ks.length = ds.length) : putKV k z ks ds = ds ++ [z] := by
  induction ks generalizing ds with
  | nil => cases ds <;> simp [putKV] at hl ⊢
  | cons a as ih =>
    cases ds with
    | nil => simp at hl
    | cons e es =>
      unfold putKV
      have h1 : a ≠ k := fun q => h (q ▸ List.mem_cons_self)
      rw [if_neg h1, ih (fun q => h (List.mem_cons_of_mem _ q)) (by simpa using hl)]
      rfl
theorem watch_rfl {w : List Nat} : watch w μ μ := fun _ _ => rfl
theorem strsD_map : ∀ ss : List Str, strsD (ss.map D.str) = some ss
  | [] => rfl
  | s :: ss => by show (strsD (ss.map D.str)).map _ = _; rw [strsD_map ss]; rfl
end
end Pl
namespace Pl
open PySem PySem.Spec L2 Mi
def keyGd : Key → Bool
  | .inr z => decide (z.length ≤ 20) && PyData.strOk z
  | .inl _ => false
mutual
def gd : D → Bool
  | .non => true
  | .bl _ => true
  | .int i => decide (i.natAbs < 1000000)
  | .str z => keyGd (.inr z)
  | .lst ds => gds ds
  | .tup ds => gds ds
  | .dct ks ds => decide (ks.length = ds.length) && decide (ks.length ≤ 3) && decide ks.Nodup && ks.all keyGd && gds ds
  | _ => false
def gds : List D → Bool
  | [] => true
  | d :: ds => gd d && gds ds
end
mutual
def wt : D → Nat
  | .lst ds => wts ds
  | .tup ds => wts ds
  | .dct _ ds => wts ds + 22 * ds.length
  | _ => 20
def wts : List D → Nat
  | [] => 0
  | d :: ds => wt d + 1 + wts ds
end
mutual
def nest : D → Nat
  | .lst ds => nests ds + 1
  | .tup ds => nests ds + 1
  | .dct _ ds => nests ds + 1
  | _ => 0
def nests : List D → Nat
  | [] => 0
  | d :: ds => max (nest d) (nests ds)
end
structure Shows (d : D) (p : PyData) : Prop where
  s : p.showable = true
  l : PyData.leavesShort 60 p = true
  w : p.weight ≤ wt d
  n : p.depth ≤ nest d
inductive ShA : List D → List PyData → Prop
  | nil : ShA [] []
  | cons {d : D} {p : PyData} {ds : List D} {ps : List PyData} : Shows d p → ShA ds ps → ShA (d :: ds) (p :: ps)
theorem ShA.all : ∀ {ds : List D} {ps : List PyData}, ShA ds ps → PyData.showableAll ps = true ∧ PyData.leavesShortAll 60 ps = true ∧ PyData.weightAll ps ≤ wts ds ∧ PyData.depthAll ps ≤ nests ds
  | _, _, .nil => by simp [PyData.showableAll, PyData.leavesShortAll, PyData.weightAll, PyData.depthAll]
  | _, _, .cons h t => by
    obtain ⟨a, b, c, e⟩ := t.all
    have hw := h.w
    have hn := h.n
    refine ⟨by simp only [PyData.showableAll, h.s, a, Bool.and_self], by simp only [PyData.leavesShortAll, h.l, b, Bool.and_self], ?_, ?_⟩
    · simp only [PyData.weightAll, wts]; omega
    · simp only [PyData.depthAll, nests]; omega
theorem shows_key {k : Key} (h : keyGd k = true) : (Cs.keyD k).showable = true ∧ PyData.leavesShort 60 (Cs.keyD k) = true ∧ (Cs.keyD k).weight ≤ 20 ∧ (Cs.keyD k).depth = 0 := by
  cases k with
  | inl i => cases h
  | inr z =>
    unfold keyGd at h
    rw [Bool.and_eq_true, decide_eq_true_eq] at h
    refine ⟨rfl, ?_, h.1, rfl⟩
    rw [Cs.keyD, PyData.leavesShort, List.all_eq_true]
    intro c hc
    have q := h.2
    unfold PyData.strOk at q
    rw [Array.all_eq_true'] at q
    have q2 := q c (by simpa using hc)
    exact decide_eq_true (Nat.lt_trans (of_decide_eq_true q2) (by decide))
theorem ShA.kv : ∀ {ks : List Key} {ds : List D} {ps : List PyData}, ks.length = ds.length → ks.all keyGd = true → ShA ds ps →
    PyData.showableKv (Cs.dctD ks ps) = true ∧ PyData.leavesShortKv 60 (Cs.dctD ks ps) = true ∧ PyData.weightKv (Cs.dctD ks ps) ≤ wts ds + 22 * ds.length ∧ PyData.depthKv (Cs.dctD ks ps) ≤ nests ds
  | [], ds, ps, hl, _, _ => by
    refine ⟨by simp [Cs.dctD, PyData.showableKv], by simp [Cs.dctD, PyData.leavesShortKv], by simp [Cs.dctD, PyData.weightKv], by simp [Cs.dctD, PyData.depthKv]⟩
  | k :: ks, [], ps, hl, _, _ => by simp at hl
  | k :: ks, d :: ds, _, hl, hk, .cons (p := p) (ps := ps) h t => by
    rw [List.all_cons, Bool.and_eq_true] at hk
    obtain ⟨a, b, c, e⟩ := ShA.kv (by simpa using hl) hk.2 t
    obtain ⟨a2, b2, c2, e2⟩ := shows_key hk.1
    have hw := h.w
    have hn := h.n
    have ed : Cs.dctD (k :: ks) (p :: ps) = (Cs.keyD k, p) :: Cs.dctD ks ps := rfl
    rw [ed]
    refine ⟨by simp only [PyData.showableKv, h.s, a, a2, Bool.and_self], by simp only [PyData.leavesShortKv, h.l, b, b2, Bool.and_self], ?_, ?_⟩
    · simp only [PyData.weightKv, wts, List.length_cons]; omega
    · simp only [PyData.depthKv, nests, e2]; omega
theorem shows_int {i : Int} (h : i.natAbs < 1000000) : Shows (.int i) (.int i) := by
  have hl : i.natAbs.log2 < 20 := by
    by_cases c : i.natAbs = 0
    · rw [c]; decide
    · exact (Nat.log2_lt c).mpr (Nat.lt_of_lt_of_le h (by decide))
  refine ⟨by simp only [PyData.showable]; exact decide_eq_true (by omega), ?_, ?_, by rw [PyData.depth]; exact Nat.zero_le _⟩
  · simp only [PyData.leavesShort]
    exact decide_eq_true (Nat.le_trans (PyData.shown_int_le (Nat.lt_trans h (by decide))) (by decide))
  · simp only [PyData.weight, wt]
    split <;> omega
mutual
theorem gd_shows : ∀ {d : D}, gd d = true → ∃ p, (∀ f, d.pdW f = some p) ∧ Shows d p
  | .non, _ => ⟨.none, fun _ => rfl, rfl, rfl, Nat.zero_le _, Nat.le_refl _⟩
  | .bl b, _ => ⟨.bool b, fun _ => rfl, rfl, rfl, Nat.zero_le _, Nat.le_refl _⟩
  | .int i, h => ⟨.int i, fun _ => rfl, shows_int (by unfold gd at h; exact of_decide_eq_true h)⟩
  | .str z, h => by
    unfold gd at h
    obtain ⟨a, b, c, e⟩ := shows_key h
    exact ⟨.str z, fun _ => rfl, a, b, c, Nat.le_of_eq e⟩
  | .lst ds, h => by
    unfold gd at h
    obtain ⟨ps, e, k⟩ := gds_shows h
    obtain ⟨a, b, c, n⟩ := k.all
    refine ⟨.list ps, fun f => by unfold D.pdW; rw [e f]; rfl, by simpa [PyData.showable] using a, by simpa [PyData.leavesShort] using b, by simpa [PyData.weight, wt] using c, by simpa [PyData.depth, nest] using n⟩
  | .tup ds, h => by
    unfold gd at h
    obtain ⟨ps, e, k⟩ := gds_shows h
    obtain ⟨a, b, c, n⟩ := k.all
    refine ⟨.tuple ps, fun f => by unfold D.pdW; rw [e f]; rfl, by simpa [PyData.showable] using a, by simpa [PyData.leavesShort] using b, by simpa [PyData.weight, wt] using c, by simpa [PyData.depth, nest] using n⟩
  | .dct ks ds, h => by
    unfold gd at h
    simp only [Bool.and_eq_true, decide_eq_true_eq] at h
    obtain ⟨ps, e, k⟩ := gds_shows h.2
    obtain ⟨a, b, c, n⟩ := k.kv h.1.1.1.1 h.1.2
    refine ⟨.dict (Cs.dctD ks ps), fun f => by unfold D.pdW; rw [e f]; rfl, by simpa [PyData.showable] using a, by simpa [PyData.leavesShort] using b, by simpa [PyData.weight, wt] using c, by simpa [PyData.depth, nest] using n⟩
theorem gds_shows : ∀ {ds : List D}, gds ds = true → ∃ ps, (∀ f, pdsW f ds = some ps) ∧ ShA ds ps
  | [], _ => ⟨[], fun _ => rfl, .nil⟩
  | d :: ds, h => by
    unfold gds at h
    rw [Bool.and_eq_true] at h
    obtain ⟨p, e1, h1⟩ := gd_shows h.1
    obtain ⟨ps, e2, h2⟩ := gds_shows h.2
    exact ⟨p :: ps, fun f => by unfold pdsW; rw [e1 f, e2 f], .cons h1 h2⟩
end
section
variable {Q : D → Store → Prop} {X : Exc → Store → Prop} {μ : Store} {d : D}
end
end Pl
namespace Pl
open PySem PySem.Spec L2 Mi
section
variable {Q : D → Store → Prop} {X : Exc → Store → Prop} {μ : Store} {d : D}
@[simp] theorem f_eqSS {neg : Bool} {a b : Str} : @Rp _ (fEq neg (.str a) (.str b) μ) Q X = Q (.bl (if neg = true then !(a == b) else a == b)) μ := rfl
@[simp] theorem f_eqI {neg : Bool} {a b : Int} : @Rp _ (fEq neg (.int a) (.int b) μ) Q X = Q (.bl (if neg = true then !(a == b) else a == b)) μ := by
  have e : fEq neg (.int a) (.int b) μ = .ok (.bl (if neg = true then !(a == b) else a == b)) μ := by
    unfold fEq eqOne eqView
    rw [show D.view μ (.int a) = some (.int a) from rfl, show D.view μ (.int b) = some (.int b) from rfl]
    have sh : ∀ z : Int, SeqAt.shaped (.int z) = true := fun z => by
      unfold SeqAt.shaped PyData.canLay0
      rfl
    simp only [seqL_int, sh a, sh b, and_self, if_true, PyData.eqv]
  rw [e]; rfl
@[simp] theorem f_eqB {neg : Bool} {a b : Bool} : @Rp _ (fEq neg (.bl a) (.bl b) μ) Q X = Q (.bl (if neg = true then !(a == b) else a == b)) μ := by
  cases a <;> cases b <;> cases neg <;> rfl
theorem f_inT {neg : Bool} {x : D} {xs : List D} (hs : ∀ z, x = .str z → True) (hx : flatD x = true) (h : xs.all flatD = true) : @Rp _ (fIn neg x (.tup xs) μ) Q X = Q (.bl (if neg = true then !inF x xs else inF x xs)) μ := by
  have e : fIn neg x (.tup xs) μ = .ok (.bl (if neg = true then !inF x xs else inF x xs)) μ := by
    unfold fIn
    split
    · rename_i e1; cases e1
    · simp only [seqL_tup, seqT_tup, hx, h, and_self, if_true]
  rw [e]; rfl
theorem f_inL {neg : Bool} {x y : D} {xs : List D} (hy : seqL μ y = some xs) (hx : flatD x = true) (h : xs.all flatD = true) : @Rp _ (fIn neg x y μ) Q X = Q (.bl (if neg = true then !inF x xs else inF x xs)) μ := by
  have e : fIn neg x y μ = .ok (.bl (if neg = true then !inF x xs else inF x xs)) μ := by
    unfold fIn
    split
    · cases hy
    · simp only [hy, hx, h, and_self, if_true]
  rw [e]; rfl
@[simp] theorem f_isN {neg : Bool} : @Rp _ (fIsN neg d .non μ) Q X = Q (.bl (if neg = true then !isNonD d else isNonD d)) μ := rfl
@[simp] theorem inF_nil {x : D} : inF x [] = false := rfl
@[simp] theorem inF_cons {x y : D} {ys : List D} : inF x (y :: ys) = (eqF y x || inF x ys) := rfl
@[simp] theorem eqF_str {a b : Str} : eqF (.str a) (.str b) = (a == b) := rfl
@[simp] theorem eqF_int {a b : Int} : eqF (.int a) (.int b) = (a == b) := rfl
@[simp] theorem f_inTS {neg : Bool} {w a b : Str} : @Rp _ (fIn neg (.str w) (.tup [.str a, .str b]) μ) Q X = Q (.bl (if neg = true then !(a == w || b == w) else (a == w || b == w))) μ := by
  rw [f_inT (fun _ _ => trivial) rfl rfl]
  simp
@[simp] theorem f_inLS {neg : Bool} {w a b : Str} : @Rp _ (fIn neg (.str w) (.lst [.str a, .str b]) μ) Q X = Q (.bl (if neg = true then !(a == w || b == w) else (a == w || b == w))) μ := by
  rw [f_inL rfl rfl rfl]
  simp
end
def enumF : Nat → List D → List D
  | _, [] => []
  | i, d :: ds => .tup [.int (i : Nat), d] :: enumF (i + 1) ds
theorem enumF_get : ∀ (i j : Nat) (ds : List D), (enumF i ds)[j]? = (ds[j]?).map fun d => .tup [.int ((i + j : Nat) : Int), d]
  | _, _, [] => by simp [enumF]
  | i, 0, d :: ds => rfl
  | i, j + 1, d :: ds => by
    rw [enumF, List.getElem?_cons_succ, enumF_get (i + 1) j ds, List.getElem?_cons_succ, show i + 1 + j = i + (j + 1) by omega]
theorem enumD_eq {ds : List D} : enumD ds = enumF 0 ds := by
  refine List.ext_getElem? fun j => ?_
  rw [enumF_get, Nat.zero_add]
  unfold enumD
  rw [List.getElem?_map]
  by_cases h : j < ds.length
  · rw [List.getElem?_range h, List.getElem?_eq_getElem h]
    simp [List.getD, h]
  · rw [List.getElem?_eq_none (by simp; omega), List.getElem?_eq_none (by omega)]
    rfl
section
variable {P : Post} {ρ : Mi.Env} {μ μ0 : Store} {n : Nat}
theorem enum_go {g : MG} {body : MS} {w : List Nat} (I : List D → Mi.Env → Store → Prop) (all : List D) (hw : ∀ pre ρ μ, I pre ρ μ → watch w μ0 μ)
    (step : ∀ pre d post ρ μ, all = pre ++ d :: post → I pre ρ μ → @Rp _ (g (.tup [.int pre.length, d]) ρ μ) (fun ρ μ => @RpS (body n ρ μ) ⟨I (pre ++ [d]), P.R, P.N, I (pre ++ [d]), P.X⟩) P.X) (fin : ∀ ρ μ, I all ρ μ → P.N ρ μ) :
    ∀ (ds pre : List D) (ρ : Mi.Env) (μ : Store), all = pre ++ ds → I pre ρ μ → @RpS (forS w μ0 g body n (enumF pre.length ds) ρ μ) P
  | [], pre, ρ, μ, e, h => by
    unfold enumF forS
    rw [if_pos (hw _ _ _ h)]
    rw [List.append_nil] at e
    exact fin ρ μ (e ▸ h)
  | d :: ds, pre, ρ, μ, e, h => by
    unfold enumF forS
    rw [if_pos (hw _ _ _ h)]
    have s := step pre d ds ρ μ e h
    have e' : all = (pre ++ [d]) ++ ds := by rw [e]; simp
    have el : pre.length + 1 = (pre ++ [d]).length := by simp
    cases eg : g (.tup [.int pre.length, d]) ρ μ with
    | bad => rw [eg] at s; exact s
    | exc x μ1 => rw [eg] at s; exact s
    | ok ρ1 μ1 =>
      rw [eg] at s
      dsimp only
      cases eb : body n ρ1 μ1 with
      | nx ρ2 μ2 => rw [rp_ok, eb] at s; dsimp only; rw [el]; exact enum_go I all hw step fin ds _ ρ2 μ2 e' s
      | ct ρ2 μ2 => rw [rp_ok, eb] at s; dsimp only; rw [el]; exact enum_go I all hw step fin ds _ ρ2 μ2 e' s
      | bk ρ2 μ2 => rw [rp_ok, eb] at s; exact s
      | rt d2 μ2 => rw [rp_ok, eb] at s; exact s
      | exc x μ2 => rw [rp_ok, eb] at s; exact s
      | bad => rw [rp_ok, eb] at s; exact s
theorem enum_inv {g : MG} {body : MS} {w : List Nat} {ds : List D} (I : List D → Mi.Env → Store → Prop) (h0 : I [] ρ μ) (hw : ∀ pre ρ μ, I pre ρ μ → watch w μ0 μ)
    (step : ∀ pre d post ρ μ, ds = pre ++ d :: post → I pre ρ μ → @Rp _ (g (.tup [.int pre.length, d]) ρ μ) (fun ρ μ => @RpS (body n ρ μ) ⟨I (pre ++ [d]), P.R, P.N, I (pre ++ [d]), P.X⟩) P.X) (fin : ∀ ρ μ, I ds ρ μ → P.N ρ μ) :
    @RpS (forS w μ0 g body n (enumD ds) ρ μ) P := by
  rw [enumD_eq]
  exact enum_go I ds hw step fin ds [] ρ μ rfl h0
def Ext (μ μ' : Store) : Prop := ∃ t, μ' = μ ++ t
theorem Ext.refl : Ext μ μ := ⟨[], by simp⟩
theorem Ext.trans {μ' μ'' : Store} (h : Ext μ μ') (k : Ext μ' μ'') : Ext μ μ'' := by
  obtain ⟨t, rfl⟩ := h
  obtain ⟨u, rfl⟩ := k
  exact ⟨t ++ u, by simp⟩
theorem Ext.new {x : Option Cell} : Ext μ (μ ++ [x]) := ⟨[x], rfl⟩
theorem Ext.at_ {μ' : Store} (h : Ext μ μ') {k : Nat} {x : Option Cell} (e : μ[k]? = some x) : μ'[k]? = some x := by
  obtain ⟨t, rfl⟩ := h
  rw [List.getElem?_append_left (List.getElem?_eq_some_iff.mp e).1]
  exact e
theorem Ext.put {μ' : Store} (h : Ext μ μ') {k : Nat} {x : Option Cell} (l : μ.length ≤ k) : Ext μ (μ'.set k x) := by
  obtain ⟨t, rfl⟩ := h
  exact ⟨t.set (k - μ.length) x, by rw [List.set_append_right _ _ l]⟩
theorem Ext.len {μ' : Store} (h : Ext μ μ') : μ.length ≤ μ'.length := by
  obtain ⟨t, rfl⟩ := h
  simp
end
end Pl
namespace Pl
open PySem PySem.Spec L2 Mi
section
variable {α : Type} {P : Post} {ρ : Mi.Env} {μ μ0 : Store} {n : Nat}
theorem for_map {g : MG} {body : MS} {w : List Nat} {l : List α} (f : α → D) (I : List α → Mi.Env → Store → Prop) (h0 : I [] ρ μ) (hw : ∀ pre ρ μ, I pre ρ μ → watch w μ0 μ)
    (step : ∀ pre a post ρ μ, l = pre ++ a :: post → I pre ρ μ → @Rp _ (g (f a) ρ μ) (fun ρ μ => @RpS (body n ρ μ) ⟨I (pre ++ [a]), P.R, P.N, I (pre ++ [a]), P.X⟩) P.X) (fin : ∀ ρ μ, I l ρ μ → P.N ρ μ) :
    @RpS (forS w μ0 g body n (l.map f) ρ μ) P := by
  have go : ∀ (r pre : List α) (ρ : Mi.Env) (μ : Store), l = pre ++ r → I pre ρ μ → @RpS (forS w μ0 g body n (r.map f) ρ μ) P := by
    intro r
    induction r with
    | nil =>
      intro pre ρ μ e h
      rw [List.map_nil]
      unfold forS
      rw [if_pos (hw _ _ _ h)]
      rw [List.append_nil] at e
      exact fin ρ μ (e ▸ h)
    | cons a r ih =>
      intro pre ρ μ e h
      rw [List.map_cons]
      unfold forS
      rw [if_pos (hw _ _ _ h)]
      have s := step pre a r ρ μ e h
      have e' : l = (pre ++ [a]) ++ r := by rw [e]; simp
      cases eg : g (f a) ρ μ with
      | bad => rw [eg] at s; exact s
      | exc x μ1 => rw [eg] at s; exact s
      | ok ρ1 μ1 =>
        rw [eg] at s
        dsimp only
        cases eb : body n ρ1 μ1 with
        | nx ρ2 μ2 => rw [rp_ok, eb] at s; exact ih _ ρ2 μ2 e' s
        | ct ρ2 μ2 => rw [rp_ok, eb] at s; exact ih _ ρ2 μ2 e' s
        | bk ρ2 μ2 => rw [rp_ok, eb] at s; exact s
        | rt d2 μ2 => rw [rp_ok, eb] at s; exact s
        | exc x μ2 => rw [rp_ok, eb] at s; exact s
        | bad => rw [rp_ok, eb] at s; exact s
  exact go l [] ρ μ rfl h0
end
end Pl
namespace Pl
open PySem PySem.Spec L2 Mi
section
variable {α : Type} {Q : D → Store → Prop} {X : Exc → Store → Prop} {P : Post} {ρ : Mi.Env} {μ μ0 : Store} {n : Nat} {G : Mi.Env → Store → Prop}
@[simp] theorem rs_putF {cs : List String} {f : Str} {o a : ME} : @RpS (mPutF cs f o a n ρ μ) P = @Rp _ (a ρ μ) (fun z μ => @Rp _ (o ρ μ) (fun x μ => match ownO μ x with
  | some (k, C, ks, ds) => (cs.contains C = true ∧ ks.length < 1000) ∧ P.N ρ (μ.set k (some (.obj C (putFK f ks) (putFV f z ks ds))))
  | none => False) P.X) P.X := by
  unfold mPutF
  rw [rs_st]; congr 1; funext z μ; rw [rs_st]; congr 1; funext x μ
  cases ownO μ x with
  | none => rfl
  | some p =>
    obtain ⟨k, C, ks, ds⟩ := p
    dsimp only
    by_cases h : cs.contains C = true ∧ ks.length < 1000
    · rw [if_pos h]; simp only [rs_nx, h, true_and, and_self]
    · rw [if_neg h]; exact propext ⟨False.elim, fun z => h z.1⟩
theorem ownO_own {k : Nat} {C : String} {ks : List Str} {ds : List D} (h : μ[k]? = some (some (.obj C ks ds))) : ownO μ (.own k) = some (k, C, ks, ds) := by unfold ownO; simp [h]
theorem objOf_own {k : Nat} {C : String} {ks : List Str} {ds : List D} (h : μ[k]? = some (some (.obj C ks ds))) : objOf μ (.own k) = some (C, ks, ds) := by unfold objOf; simp [h]
@[simp] theorem objOf_obj {C : String} {ks : List Str} {ds : List D} : objOf μ (.obj C ks ds) = some (C, ks, ds) := rfl
@[simp] theorem rp_make {z : Bool} {C : String} {m : List D → Store → Res D} {a : MA} : @Rp _ (mMake z C m a ρ μ) Q X = @Rp _ (a ρ μ) (fun ds μ => @Rp _ (mkObj z C m ds μ) Q X) X := by simp [mMake]
@[simp] theorem rp_cmeth {C : String} {m : List D → Store → Res D} {a : MA} : @Rp _ (mCMeth C m a ρ μ) Q X = @Rp _ (a ρ μ) (fun ds μ => @Rp _ (m (.cls C :: ds) μ) Q X) X := by simp [mCMeth]
@[simp] theorem rp_initSK {m : List D → Store → Res D} {x : D} {rest : List D} : @Rp _ (mInitSK m (x :: rest) μ) Q X = (rest.length ≤ sizeLine ∧ @Rp _ (m [x, .tup rest, .dct [] []] μ) Q X) := by
  unfold mInitSK; dsimp only; by_cases h : rest.length ≤ sizeLine <;> simp [h]
@[simp] theorem rp_initS {m : List D → Store → Res D} {x : D} {rest : List D} : @Rp _ (mInitS m (x :: rest) μ) Q X = (rest.length ≤ sizeLine ∧ @Rp _ (m [x, .tup rest] μ) Q X) := by
  unfold mInitS; dsimp only; by_cases h : rest.length ≤ sizeLine <;> simp [h]
@[simp] theorem rp_fld {cs : List String} {f : Str} {a : ME} : @Rp _ (mFld cs f a ρ μ) Q X = @Rp _ (a ρ μ) (fun x μ => match objOf μ x with
  | some (C, ks, ds) => cs.contains C = true ∧ (match lookF f ks ds with
    | some d => Q d μ
    | none => False)
  | none => False) X := by
  unfold mFld
  rw [rp_bind]; congr 1; funext x μ
  cases objOf μ x with
  | none => rfl
  | some p =>
    obtain ⟨C, ks, ds⟩ := p
    dsimp only
    by_cases h : cs.contains C = true
    · rw [if_pos h]; simp only [h, true_and]; cases lookF f ks ds <;> rfl
    · rw [if_neg h]; exact propext ⟨False.elim, fun z => h z.1⟩
@[simp] theorem rp_fldX {cs : List String} {f : Str} {a : ME} : @Rp _ (mFldX cs f a ρ μ) Q X = @Rp _ (a ρ μ) (fun x μ => match x with
  | .exc C ks ds => cs.contains C = true ∧ (match lookF f ks ds with
    | some d => Q d μ
    | none => False)
  | _ => False) X := by
  unfold mFldX
  rw [rp_bind]; congr 1; funext x μ
  cases x with
  | exc C ks ds =>
    dsimp only
    by_cases h : cs.contains C = true
    · rw [if_pos h]; simp only [h, true_and]; cases lookF f ks ds <;> rfl
    · rw [if_neg h]; exact propext ⟨False.elim, fun z => h z.1⟩
  | _ => rfl
@[simp] theorem rp_prop {C : String} {m : List D → Store → Res D} {o : ME} : @Rp _ (mProp C m o ρ μ) Q X = @Rp _ (o ρ μ) (fun x μ => match objOf μ x with
  | some (C', _, _) => C' = C ∧ @Rp _ (m [x] μ) Q X
  | none => False) X := by
  unfold mProp
  rw [rp_bind]; congr 1; funext x μ
  cases objOf μ x with
  | none => rfl
  | some p =>
    obtain ⟨C', ks, ds⟩ := p
    dsimp only
    by_cases h : C' = C <;> simp [h]
@[simp] theorem rp_meth {C : String} {f : Str} {m : List D → Store → Res D} {o : ME} {a : MA} : @Rp _ (mMeth C f m o a ρ μ) Q X = @Rp _ (o ρ μ) (fun x μ => match objOf μ x with
  | some (C', ks, _) => (C' = C ∧ f ∉ ks) ∧ @Rp _ (a ρ μ) (fun ds μ => @Rp _ (m (x :: ds) μ) Q X) X
  | none => False) X := by
  unfold mMeth
  rw [rp_bind]; congr 1; funext x μ
  cases objOf μ x with
  | none => rfl
  | some p =>
    obtain ⟨C', ks, ds⟩ := p
    dsimp only
    by_cases h : C' = C ∧ f ∉ ks
    · rw [if_pos h, rp_bind]; simp only [h, true_and, not_false_eq_true, and_self]
    · rw [if_neg h]; simp only [rp_bad, h, false_and]
@[simp] theorem rs_raise {C : String} : @RpS (mRaise C n ρ μ) P = P.X ⟨C, [], []⟩ μ := rfl
theorem rp_mArgs {a : MA} {m : List D → Store → Res D} : @Rp _ (mArgs a m ρ μ) Q X = @Rp _ (a ρ μ) (fun ds μ => @Rp _ (m ds μ) Q X) (fun _ _ => False) := by
  unfold mArgs; cases a ρ μ <;> rfl
theorem rs_tryR {T : String} {i k : Nat} {r : Res D} {nx : D → Store → ResS} : @RpS (tryR T i k r nx ρ) P = @Rp _ r (fun d μ => @RpS (nx d μ) P) (fun x μ => if isaC x.C T = true then P.N ((ρ.set k (some (.exc x.C x.ks x.ds))).set i none) μ else P.X x μ) := by
  unfold tryR
  cases r with
  | ok d μ => rfl
  | exc x μ => dsimp only; by_cases h : isaC x.C T = true <;> simp [h]
  | bad => rfl
@[simp] theorem rs_tryA {T : String} {i k j : Nat} {a : MA} {m : List D → Store → Res D} : @RpS (mTryA T i k j (mArgs a m) n ρ μ) P = (i < ρ.length ∧ @Rp _ (a ρ μ) (fun ds μ => @Rp _ (m ds μ) (fun d μ => P.N (ρ.set j (some d)) μ) (fun x μ => if isaC x.C T = true then P.N ((ρ.set k (some (.exc x.C x.ks x.ds))).set i none) μ else P.X x μ)) (fun _ _ => False)) := by
  unfold mTryA
  by_cases h : i < ρ.length
  · rw [if_pos h, rs_tryR, rp_mArgs]; simp only [h, true_and, rs_nx]
  · rw [if_neg h]; simp only [rs_bad, h, false_and]
@[simp] theorem rs_tryD {T : String} {i k : Nat} {a : MA} {m : List D → Store → Res D} : @RpS (mTryD T i k (mArgs a m) n ρ μ) P = (i < ρ.length ∧ @Rp _ (a ρ μ) (fun ds μ => @Rp _ (m ds μ) (fun _ μ => P.N ρ μ) (fun x μ => if isaC x.C T = true then P.N ((ρ.set k (some (.exc x.C x.ks x.ds))).set i none) μ else P.X x μ)) (fun _ _ => False)) := by
  unfold mTryD
  by_cases h : i < ρ.length
  · rw [if_pos h, rs_tryR, rp_mArgs]; simp only [h, true_and, rs_nx]
  · rw [if_neg h]; simp only [rs_bad, h, false_and]
@[simp] theorem rg_subK {o i : ME} {z : D} : @Rp _ (mgSubK o i z ρ μ) G X = @Rp _ (o ρ μ) (fun x μ => @Rp _ (i ρ μ) (fun y μ => match ownK μ x, keyOf y with
  | some (n, ks, ds), some k => ks.length < sizeLine ∧ G ρ (μ.set n (some (.dct (putKK ks k) (putKV k z ks ds))))
  | _, _ => False) X) X := by
  unfold mgSubK; simp only [rp_bind]; congr 1; funext x μ; congr 1; funext y μ
  cases ownK μ x with
  | none => rfl
  | some p =>
    obtain ⟨m, ks, ds⟩ := p
    cases keyOf y with
    | none => rfl
    | some k => dsimp only; by_cases h : ks.length < sizeLine <;> simp [h]
theorem merge_new : ∀ {ps : List (Key × D)} {ks : List Key} {ds : List D}, ks.length = ds.length → (ks ++ ps.map (·.1)).Nodup → mergeD ks ds ps = (ks ++ ps.map (·.1), ds ++ ps.map (·.2))
  | [], ks, ds, _, _ => by simp [mergeD]
  | (k, d) :: ps, ks, ds, hl, nd => by
    have nk : k ∉ ks := fun q => by
      have := (List.nodup_append.mp nd).2.2 _ q k (by simp)
      exact this rfl
    unfold mergeD
    rw [putKK_new nk, putKV_new nk hl, merge_new (by simp [hl]) (by simpa using nd)]
    simp
end
end Pl
namespace Pl
open PySem PySem.Spec L2 Mi
section
variable {α : Type} {Q : D → Store → Prop} {X : Exc → Store → Prop} {P : Post} {ρ : Mi.Env} {μ μ0 : Store} {n : Nat} {G : Mi.Env → Store → Prop} {ds : List D} {i j : Int}
theorem drop_min {α : Type} {l : List α} {a : Nat} : l.drop (min a l.length) = l.drop a := by
  by_cases h : a ≤ l.length
  · rw [Nat.min_eq_left h]
  · rw [Nat.min_eq_right (by omega), List.drop_of_length_le (Nat.le_refl _), List.drop_of_length_le (by omega)]
theorem cut_hi (h : 0 ≤ i) : cutD ds none (some i) = ds.take i.toNat := by
  have n0 : ¬ i < 0 := by omega
  unfold cutD HT.sIx
  simp only [n0, if_false, List.drop_zero, Nat.sub_zero]
  rw [List.take_eq_take_iff]; omega
theorem cut_lo (h : 0 ≤ i) : cutD ds (some i) none = ds.drop i.toNat := by
  have n0 : ¬ i < 0 := by omega
  unfold cutD HT.sIx
  simp only [n0, if_false]
  rw [drop_min, List.take_of_length_le (by rw [List.length_drop]; omega)]
theorem cut_all : cutD ds none none = ds := by
  unfold cutD HT.sIx
  simp
theorem f_slL {b : Bool} {x : D} {lo hi : Option Int} (hx : seqL μ x = some ds) : @Rp _ (fSl b x lo hi μ) Q X = @Rp _ (newL b (cutD ds lo hi) μ) Q X := by
  have e : fSl b x lo hi μ = newL b (cutD ds lo hi) μ := by
    unfold fSl
    split
    · cases hx
    · cases hx
    · rw [hx]
  rw [e]
@[simp] theorem f_slLst {b : Bool} {lo hi : Option Int} : @Rp _ (fSl b (.lst ds) lo hi μ) Q X = @Rp _ (newL b (cutD ds lo hi) μ) Q X := f_slL rfl
@[simp] theorem f_slTup {b : Bool} {lo hi : Option Int} : @Rp _ (fSl b (.tup ds) lo hi μ) Q X = Q (.tup (cutD ds lo hi)) μ := rfl
theorem merge_nil {ps : List (Key × D)} (nd : (ps.map (·.1)).Nodup) : mergeD [] [] ps = (ps.map (·.1), ps.map (·.2)) := by
  have := merge_new (ks := []) (ds := []) (ps := ps) rfl (by simpa using nd)
  simpa using this
@[simp] theorem rp_disp1 {z : Str} {a : ME} : @Rp _ (mDisp false [((mC (.str z)), a)] ρ μ) Q X = @Rp _ (a ρ μ) (fun d μ => Q (.dct [.inr z] [d]) μ) X := by
  simp only [mDisp, mPairs, rp_bind, rp_c, rp_ok]
  congr 1
  funext d μ
  have e : pairsK [(D.str z, d)] = some [(Sum.inr z, d)] := rfl
  rw [e]
  dsimp only
  rw [merge_nil (by simp)]
  rfl
theorem f_mulL {b : Bool} {k : Nat} (h : μ[k]? = some (some (.lst ds))) : @Rp _ (fMul b (.own k) (.int i) μ) Q X = ((-(2 ^ 63) ≤ i ∧ i < 2 ^ 63 ∧ ds.length * i.toNat ≤ sizeLine) ∧ @Rp _ (newL b (List.replicate i.toNat ds).flatten μ) Q X) := by
  have e : fMul b (.own k) (.int i) μ = if -(2 ^ 63) ≤ i ∧ i < 2 ^ 63 ∧ ds.length * i.toNat ≤ sizeLine then newL b (List.replicate i.toNat ds).flatten μ else .bad := by
    unfold fMul
    dsimp only
    rw [ownL_own h]
  rw [e]
  by_cases hl : -(2 ^ 63) ≤ i ∧ i < 2 ^ 63 ∧ ds.length * i.toNat ≤ sizeLine <;> simp [hl]
theorem rangeD_eq {n : Nat} : rangeD 0 n = (List.range n).map fun i => D.int (i : Nat) := by
  unfold rangeD
  refine List.map_congr_left fun k _ => ?_
  rw [Int.zero_add]
end
end Pl
namespace Pl
open PySem PySem.Spec L2 Mi
section
variable {α : Type} {Q : D → Store → Prop} {X : Exc → Store → Prop} {P : Post} {ρ : Mi.Env} {μ μ0 : Store} {n : Nat}
@[simp] theorem rp_lam {m : (Store → Res D) → Store → Res D} {el : ME} : @Rp _ (mLam m el ρ μ) Q X = @Rp _ (m (fun μ' => el ρ μ') μ) Q X := rfl
@[simp] theorem rp_lamC {w : Store → Res D} : @Rp _ (mLamC w ρ μ) Q X = @Rp _ (w μ) Q X := rfl
@[simp] theorem rp_rg1 {t b : Bool} {a : ME} : @Rp _ (mRg1 t b a ρ μ) Q X = @Rp _ (a ρ μ) (fun x μ => match x with
  | .int j => @Rp _ (fRg t b 0 j μ) Q X
  | _ => False) X := by
  unfold mRg1
  rw [rp_bind]; congr 1; funext x μ
  cases x <;> rfl
@[simp] theorem rp_rg2 {t b : Bool} {a a' : ME} : @Rp _ (mRg2 t b a a' ρ μ) Q X = @Rp _ (a ρ μ) (fun x μ => @Rp _ (a' ρ μ) (fun y μ => match x, y with
  | .int i, .int j => @Rp _ (fRg t b i j μ) Q X
  | _, _ => False) X) X := by
  unfold mRg2
  rw [rp_bind]; congr 1; funext x μ
  rw [rp_bind]; congr 1; funext y μ
  cases x <;> cases y <;> rfl
@[simp] theorem rp_makeK {z : Bool} {C : String} {m : List D → Store → Res D} {i k : Nat} {a b : MA} : @Rp _ (mMakeK z C m i k a b ρ μ) Q X = @Rp _ (a ρ μ) (fun xs μ => @Rp _ (b ρ μ) (fun ys μ => (xs.length = i ∧ ys.length = k) ∧ @Rp _ (mkObj z C m (xs ++ ys) μ) Q X) X) X := by
  unfold mMakeK
  rw [rp_bind]; congr 1; funext xs μ
  rw [rp_bind]; congr 1; funext ys μ
  by_cases h : xs.length = i ∧ ys.length = k
  · rw [if_pos h]; exact propext ⟨fun z => ⟨h, z⟩, fun z => z.2⟩
  · rw [if_neg h]; exact propext ⟨False.elim, fun z => h z.1⟩
@[simp] theorem f_intI {i : Int} : @Rp _ (fInt [.int i] μ) Q X = Q (.int i) μ := rfl
@[simp] theorem f_intB {k : Bool} : @Rp _ (fInt [.bl k] μ) Q X = Q (.int (if k = true then 1 else 0)) μ := rfl
@[simp] theorem rp_callO {C : String} {m : List D → Store → Res D} {o : ME} {a : MA} : @Rp _ (mCallO C m o a ρ μ) Q X = @Rp _ (o ρ μ) (fun x μ => match x with
  | .obj C' ks ds => C' = C ∧ @Rp _ (a ρ μ) (fun as μ => @Rp _ (m (.obj C' ks ds :: as) μ) Q X) X
  | _ => False) X := by
  unfold mCallO
  rw [rp_bind]; congr 1; funext x μ
  cases x with
  | obj C' ks ds =>
    dsimp only
    by_cases h : C' = C
    · rw [if_pos h, rp_bind]; exact propext ⟨fun z => ⟨h, z⟩, fun z => z.2⟩
    · rw [if_neg h]; exact propext ⟨False.elim, fun z => h z.1⟩
  | _ => rfl
theorem rp_noX {r : Res D} : @Rp _ (noX r) Q X = @Rp _ r Q (fun _ _ => False) := by
  cases r <;> rfl
@[simp] theorem rp_propN {C : String} {m : List D → Store → Res D} {o : ME} : @Rp _ (mPropN C m o ρ μ) Q X = @Rp _ (o ρ μ) (fun x μ => match objOf μ x with
  | some (C', _, _) => C' = C ∧ @Rp _ (m [x] μ) Q (fun _ _ => False)
  | none => False) X := by
  unfold mPropN
  rw [rp_prop]; congr 1; funext x μ
  cases objOf μ x with
  | none => rfl
  | some p =>
    obtain ⟨C', ks, ds⟩ := p
    dsimp only
    rw [rp_noX]
@[simp] theorem rs_par3 {i j k : Nat} {a : MA} : @RpS (mPar3 i j k a n ρ μ) P = @Rp _ (a ρ μ) (fun ds μ => match ds with
  | [x, y, z] => P.N (((ρ.set i (some x)).set j (some y)).set k (some z)) μ
  | _ => False) P.X := by
  unfold mPar3
  rw [rs_st]; congr 1; funext ds μ
  match ds with
  | [] | [_] | [_, _] | [_, _, _] | _ :: _ :: _ :: _ :: _ => rfl
end
end Pl
namespace Pl
open PySem PySem.Spec L2 Mi
section
variable {Q : D → Store → Prop} {X : Exc → Store → Prop} {μ : Store}
theorem app_at {x : Option Cell} : (μ ++ [x])[μ.length]? = some x := by simp
end
end Pl
namespace Pl
open PySem PySem.Spec L2 Mi
section
variable {α : Type} {Q : D → Store → Prop} {X : Exc → Store → Prop} {P : Post} {ρ : Mi.Env} {μ μ0 μ1 : Store} {n : Nat} {L : List D → Store → Prop}
theorem lct_go {g : D → Mi.Env → Option Mi.Env} {t : MT} {el : ME} {w : List Nat} {f : α → D} (p : α → Bool) (h : α → D) : ∀ (l : List α) (acc : List D), acc.length + l.length ≤ sizeLine →
    (∀ a ∈ l, ∃ ρ2, g (f a) ρ = some ρ2 ∧ t ρ2 μ = .ok (p a) μ ∧ (p a = true → el ρ2 μ = .ok (h a) μ)) → lcA w μ g t el ρ (l.map f) acc μ = .ok (acc ++ (l.filter p).map h) μ
  | [], acc, _, _ => by
    rw [List.map_nil]; unfold lcA
    rw [if_pos watch_rfl]; simp
  | a :: l, acc, hz, st => by
    obtain ⟨ρ2, h1, h2, h3⟩ := st a List.mem_cons_self
    simp only [List.length_cons] at hz
    rw [List.map_cons]; unfold lcA
    rw [if_pos watch_rfl, h1]
    dsimp only
    rw [h2]
    cases hp : p a with
    | false =>
      dsimp only
      rw [lct_go p h l acc (by omega) (fun b hb => st b (List.mem_cons_of_mem _ hb))]
      simp [hp]
    | true =>
      dsimp only
      rw [h3 hp]
      dsimp only
      rw [if_pos (by omega), lct_go p h l (acc ++ [h a]) (by simp; omega) (fun b hb => st b (List.mem_cons_of_mem _ hb))]
      simp [hp]
theorem rp_lct {g : D → Mi.Env → Option Mi.Env} {t : MT} {el : ME} {w : List Nat} {f : α → D} {l : List α} (p : α → Bool) (h : α → D) (hz : l.length ≤ sizeLine)
    (st : ∀ a ∈ l, ∃ ρ2, g (f a) ρ = some ρ2 ∧ t ρ2 μ = .ok (p a) μ ∧ (p a = true → el ρ2 μ = .ok (h a) μ)) (k : L ((l.filter p).map h) μ) : @Rp _ (lcA w μ g t el ρ (l.map f) [] μ) L X := by
  rw [lct_go p h l [] (by simpa using hz) st]; exact k
@[simp] theorem rp_din {neg : Bool} {i o : ME} : @Rp _ (mDIn neg i o ρ μ) Q X = @Rp _ (i ρ μ) (fun y μ => @Rp _ (o ρ μ) (fun x μ => match dctOf μ x, keyOf y with
  | some (ks, ds), some k => Q (.bl (if neg = true then !(lookK k ks ds).isSome else (lookK k ks ds).isSome)) μ
  | _, _ => False) X) X := by
  unfold mDIn
  rw [rp_bind]; congr 1; funext y μ
  rw [rp_bind]; congr 1; funext x μ
  cases dctOf μ x with
  | none => rfl
  | some p => cases keyOf y <;> rfl
@[simp] theorem tyM_app {l : List D} : tyM (μ ++ [some (.lst l)]) (.own μ.length) = some "list" := tyM_ownL app_at
@[simp] theorem seqL_app {l : List D} : seqL (μ ++ [some (.lst l)]) (.own μ.length) = some l := seqL_own app_at
theorem law_frame {N k : Nat} {body : MS} {m : List D → Store → Res D} (hm : m = mFn N 1 (mSeq (mFor (miEnum (mCons (mSl false (mOrT (mVar 0) (mLst false (mCons (mC (.int 5)) mNil))) moNone (moSome (mC (.int k)))) mNil)) (mgTup 2 (mgCons (mgName 1) (mgCons (mgName 2) mgNil))) body) (mRet (mC (.bl true)))))
    (hk : 0 < k) (hN : 3 ≤ N)
    (step : ∀ (ρ : Mi.Env) (μ : Store) (t : Nat) (x : Int), t < k → ρ.length = N → ρ[1]? = some (some (.int t)) → ρ[2]? = some (some (.int x)) → @RpS (body 0 ρ μ) ⟨fun ρ _ => ρ.length = N, fun d _ => d = .bl true, fun ρ _ => ρ.length = N, fun ρ _ => ρ.length = N, fun _ _ => False⟩) :
    ∀ ns : List Int, ns.length ≤ 63 → ∃ μ, m [.lst (ns.map D.int)] [] = .ok (.bl true) μ := fun ns hns => by
  have run : @Rp _ (m [.lst (ns.map D.int)] []) (fun d _ => d = .bl true) fun _ _ => False := by
    rw [hm, rp_fn]
    refine ⟨rfl, ?_⟩
    have hl : (startD N [.lst (ns.map D.int)]).length = N := by simp [startD]; omega
    have h0 : (startD N [.lst (ns.map D.int)])[0]? = some (some (.lst (ns.map D.int))) := rfl
    generalize startD N [.lst (ns.map D.int)] = ρ at hl h0
    have go : ∀ xs : List Int, xs.length ≤ k → @RpS (forS [] ([] : Store) (mgTup 2 (mgCons (mgName 1) (mgCons (mgName 2) mgNil))) body 0 (enumD (xs.map D.int)) ρ []) ⟨fun ρ μ => True, fun d _ => d = .bl true, fun _ _ => False, fun _ _ => False, fun _ _ => False⟩ := by
      intro xs hx
      refine enum_inv (fun pre ρ μ' => ρ.length = N) hl (fun _ _ _ _ => Pl.watch_nil) ?_ (fun _ _ _ => trivial)
      intro pre d post ρ μ1 e hρ
      have pl : pre.length < k := by
        have := congrArg List.length e
        rw [List.length_map, List.length_append, List.length_cons] at this
        omega
      obtain ⟨x, hx, rfl⟩ : ∃ x, x ∈ xs ∧ D.int x = d := List.mem_map.mp (by rw [e]; simp)
      simp only [rg_tup, rg_cons, rg_name, rg_nil, List.length_cons, List.length_nil, true_and]
      refine rs_mono (step _ μ1 pre.length x pl (by simp [hρ]) ?_ ?_) (fun _ _ h => h) (fun _ _ h => h) (fun _ _ _ => trivial) (fun _ _ h => h) (fun _ _ h => h)
      · rw [List.getElem?_set_ne (by decide), List.getElem?_set_self (by omega)]
      · rw [List.getElem?_set_self (by simp; omega)]
    have cl : ∀ ds, (D.lst ds).cell = [] := fun _ => rfl
    have z : 0 < sizeLine := by decide
    simp only [rs_seq, rs_for, ri_enum, rp_cons, rp_nil, rp_sl, rp_orT, rp_moN, rp_moS, rp_var, rp_c, rp_lst, rp_newL, h0, List.length_cons, List.length_nil, Bool.false_eq_true, if_false]
    have fin : ∀ xs : List Int, xs.length ≤ k → @RpS (forS [] ([] : Store) (mgTup 2 (mgCons (mgName 1) (mgCons (mgName 2) mgNil))) body 0 (enumD (xs.map D.int)) ρ []) ⟨fun ρ μ => @RpS (mRet (mC (.bl true)) 0 ρ μ) ⟨fun _ μ => D.non = .bl true, fun d _ => d = .bl true, fun _ _ => False, fun _ _ => False, fun _ _ => False⟩, fun d _ => d = .bl true, fun _ _ => False, fun _ _ => False, fun _ _ => False⟩ := fun xs hx =>
      rs_mono (go xs hx) (fun _ _ _ => by simp) (fun _ _ h => h) (fun _ _ h => h) (fun _ _ h => h) (fun _ _ h => h)
    cases ns with
    | nil =>
      have t : truD ([] : Store) (.lst (([] : List Int).map D.int)) = some false := rfl
      rw [t]
      dsimp only
      refine ⟨by omega, ?_⟩
      rw [f_slLst]
      simp only [rp_newL, Bool.false_eq_true, if_false, seqL_lst, cl, cut_hi (Int.natCast_nonneg k), Int.toNat_natCast]
      refine rs_mono ((fin [5] (by simp only [List.length_cons, List.length_nil]; omega)) |> fun h => ?_) (fun _ _ h => h) (fun _ _ h => h) (fun _ _ h => h) (fun _ _ h => h) (fun _ _ h => h)
      rw [List.take_of_length_le (by simp only [List.length_map, List.length_cons, List.length_nil]; omega)]
      exact h
    | cons n ns =>
      have t : truD ([] : Store) (.lst ((n :: ns).map D.int)) = some true := rfl
      rw [t]
      dsimp only
      rw [f_slLst]
      simp only [rp_newL, Bool.false_eq_true, if_false, seqL_lst, cl, cut_hi (Int.natCast_nonneg k), Int.toNat_natCast]
      rw [← List.map_take]
      exact fin _ (by rw [List.length_take]; exact Nat.min_le_left _ _)
  obtain ⟨d, μ, e, rfl⟩ := rp_get run
  exact ⟨μ, e⟩
@[simp] theorem sz_1 : (1 ≤ sizeLine) = True := eq_true (by decide)
@[simp] theorem sz_2 : (2 ≤ sizeLine) = True := eq_true (by decide)
@[simp] theorem sz_3 : (3 ≤ sizeLine) = True := eq_true (by decide)
@[simp] theorem sz_4 : (4 ≤ sizeLine) = True := eq_true (by decide)
@[simp] theorem sz_5 : (5 ≤ sizeLine) = True := eq_true (by decide)
@[simp] theorem sz_6 : (6 ≤ sizeLine) = True := eq_true (by decide)
@[simp] theorem sz_7 : (7 ≤ sizeLine) = True := eq_true (by decide)
@[simp] theorem sz_8 : (8 ≤ sizeLine) = True := eq_true (by decide)
@[simp] theorem sz_9 : (9 ≤ sizeLine) = True := eq_true (by decide)
@[simp] theorem sz_10 : (10 ≤ sizeLine) = True := eq_true (by decide)
@[simp] theorem sz_11 : (11 ≤ sizeLine) = True := eq_true (by decide)
@[simp] theorem sz_12 : (12 ≤ sizeLine) = True := eq_true (by decide)
@[simp] theorem sz_13 : (13 ≤ sizeLine) = True := eq_true (by decide)
@[simp] theorem sz_14 : (14 ≤ sizeLine) = True := eq_true (by decide)
@[simp] theorem sz_15 : (15 ≤ sizeLine) = True := eq_true (by decide)
@[simp] theorem sz_16 : (16 ≤ sizeLine) = True := eq_true (by decide)
@[simp] theorem sz_17 : (17 ≤ sizeLine) = True := eq_true (by decide)
@[simp] theorem sz_18 : (18 ≤ sizeLine) = True := eq_true (by decide)
@[simp] theorem sz_19 : (19 ≤ sizeLine) = True := eq_true (by decide)
@[simp] theorem sz_20 : (20 ≤ sizeLine) = True := eq_true (by decide)
@[simp] theorem nn_non  : isNonD  .non = true := rfl
@[simp] theorem nn_int {i : Int} : isNonD (.int i) = false := rfl
@[simp] theorem nn_str {z : Str} : isNonD (.str z) = false := rfl
@[simp] theorem nn_bl {z : Bool} : isNonD (.bl z) = false := rfl
@[simp] theorem nn_lst {z : List D} : isNonD (.lst z) = false := rfl
@[simp] theorem nn_tup {z : List D} : isNonD (.tup z) = false := rfl
@[simp] theorem nn_dct {k : List Key} {z : List D} : isNonD (.dct k z) = false := rfl
@[simp] theorem nn_obj {C : String} {k : List Str} {z : List D} : isNonD (.obj C k z) = false := rfl
@[simp] theorem nn_exc {C : String} {k : List Str} {z : List D} : isNonD (.exc C k z) = false := rfl
@[simp] theorem nn_own {k : Nat} : isNonD (.own k) = false := rfl
@[simp] theorem f_lenT {xs : List D} : @Rp _ (fLen [.tup xs] μ) Q X = Q (.int xs.length) μ := rfl
@[simp] theorem cell_lst {ds : List D} : (D.lst ds).cell = [] := rfl
@[simp] theorem cell_tup {ds : List D} : (D.tup ds).cell = [] := rfl
theorem map_inj {α β : Type} {f : α → β} (hf : ∀ x y, f x = f y → x = y) : ∀ {a b : List α}, a.map f = b.map f → a = b
  | [], [], _ => rfl
  | [], _ :: _, h => by simp at h
  | _ :: _, [], h => by simp at h
  | x :: a, y :: b, h => by
    simp only [List.map_cons, List.cons.injEq] at h
    rw [hf _ _ h.1, map_inj hf h.2]
theorem ofS_inj {a b : String} (h : Str.ofString a = Str.ofString b) : a = b := by
  rw [Str.ofString_eq_toList, Str.ofString_eq_toList] at h
  have h1 : a.toList.map Char.toNat = b.toList.map Char.toNat := by
    have := congrArg (fun s : Str => s.cps.toList) h
    simpa using this
  have h2 : a.toList = b.toList := map_inj (fun x y e => Char.toNat_inj.mp e) h1
  exact String.toList_inj.mp h2
@[simp] theorem ofS_eq {a b : String} : (Str.ofString a = Str.ofString b) = (a = b) := propext ⟨ofS_inj, fun e => by rw [e]⟩
@[simp] theorem ofS_beq {a b : String} : (Str.ofString a == Str.ofString b) = decide (a = b) := by
  rw [Bool.eq_iff_iff]; simp
@[simp] theorem f_eqNilL {neg : Bool} {xs : List D} : @Rp _ (fEq neg (.lst xs) (.lst []) μ) Q X = Q (.bl (if neg = true then !xs.isEmpty else xs.isEmpty)) μ := f_eqNil rfl
theorem rs_go {a b : MS} (h : ∀ N : Mi.Env → Store → Prop, (∀ ρ μ, @RpS (b n ρ μ) P → N ρ μ) → @RpS (a n ρ μ) ⟨N, P.R, P.B, P.C, P.X⟩) : @RpS (mSeq a b n ρ μ) P := by
  rw [rs_seq]; exact h _ (fun _ _ h => h)
@[simp] theorem atI_3 {α : Type} {x y z w : α} {xs : List α} : atI (x :: y :: z :: w :: xs) 3 = some w := by
  unfold atI ixN
  rw [if_pos (by decide), if_pos (by simp only [List.length_cons]; omega)]; rfl
@[simp] theorem atI_4 {α : Type} {x y z w v : α} {xs : List α} : atI (x :: y :: z :: w :: v :: xs) 4 = some v := by
  unfold atI ixN
  rw [if_pos (by decide), if_pos (by simp only [List.length_cons]; omega)]; rfl
@[simp] theorem cut_hiN {ds : List D} {k : Nat} : cutD ds none (some (k : Int)) = ds.take k := by rw [cut_hi (Int.natCast_nonneg _), Int.toNat_natCast]
@[simp] theorem cut_loN {ds : List D} {k : Nat} : cutD ds (some (k : Int)) none = ds.drop k := by rw [cut_lo (Int.natCast_nonneg _), Int.toNat_natCast]
@[simp] theorem cut_allN {ds : List D} : cutD ds none none = ds := cut_all
@[simp] theorem atI_natN {xs : List D} {k : Nat} : atI xs (k : Int) = xs[k]? := by
  unfold atI ixN
  by_cases h : k < xs.length
  · rw [if_pos (Int.natCast_nonneg _), if_pos (by omega)]; simp
  · rw [if_pos (Int.natCast_nonneg _), if_neg (by omega), List.getElem?_eq_none (by omega)]; rfl
@[simp] theorem ownK_app {ks : List Key} {ds : List D} : ownK (μ ++ [some (.dct ks ds)]) (.own μ.length) = some (μ.length, ks, ds) := ownK_own app_at
@[simp] theorem f_tupleT {xs : List D} : @Rp _ (fTuple [.tup xs] μ) Q X = Q (.tup xs) μ := rfl
@[simp] theorem f_tupleL {xs : List D} : @Rp _ (fTuple [.lst xs] μ) Q X = Q (.tup xs) μ := rfl
@[simp] theorem f_tupleD {ks : List Key} {xs : List D} : @Rp _ (fTuple [.dct ks xs] μ) Q X = Q (.tup (ks.map keyDD)) μ := rfl
@[simp] theorem tyM_lstD {xs : List D} : tyM μ (.lst xs) = some "list" := rfl
@[simp] theorem tyM_strD {z : Str} : tyM μ (.str z) = some "str" := rfl
@[simp] theorem f_listT {b : Bool} {xs : List D} : @Rp _ (fList b [.tup xs] μ) Q X = @Rp _ (newL b xs μ) Q X := rfl
@[simp] theorem f_listL {b : Bool} {xs : List D} : @Rp _ (fList b [.lst xs] μ) Q X = @Rp _ (newL b xs μ) Q X := rfl
@[simp] theorem f_ltII {i j : Int} : @Rp _ (fLt (.int i) (.int j) μ) Q X = Q (.bl (decide (i < j))) μ := f_ltI
@[simp] theorem atI_neg1 {xs : List D} : atI xs (-1) = xs.getLast? := by
  unfold atI ixN
  rw [if_neg (by decide)]
  cases h : xs.length with
  | zero =>
    have : xs = [] := List.length_eq_zero_iff.mp h
    subst this; rfl
  | succ n =>
    rw [if_pos (by omega), List.getLast?_eq_getElem?, h]
    show xs[((n + 1 : Nat) + (-1) : Int).toNat]? = _
    congr 1
    omega
theorem lci_go {g : D → Mi.Env → Option Mi.Env} {t : MT} {el : ME} {w : List Nat} {f : α → D} (I : List α → List D → Store → Prop) (all : List α) (hw : ∀ pre acc μ, I pre acc μ → watch w μ0 μ) (hn : ∀ pre acc μ, I pre acc μ → acc.length ≤ pre.length) (hz : all.length ≤ sizeLine)
    (step : ∀ pre a post acc μ, all = pre ++ a :: post → I pre acc μ → ∃ ρ2, g (f a) ρ = some ρ2 ∧ @Rp _ (t ρ2 μ) (fun k μ => if k = true then @Rp _ (el ρ2 μ) (fun y μ => I (pre ++ [a]) (acc ++ [y]) μ) (fun _ _ => False) else I (pre ++ [a]) acc μ) (fun _ _ => False)) (fin : ∀ acc μ, I all acc μ → L acc μ) :
    ∀ (r pre : List α) (acc : List D) (μ : Store), all = pre ++ r → I pre acc μ → @Rp _ (lcA w μ0 g t el ρ (r.map f) acc μ) L X
  | [], pre, acc, μ, e, h => by
    rw [List.map_nil]; unfold lcA
    rw [if_pos (hw _ _ _ h)]
    rw [List.append_nil] at e
    exact fin acc μ (e ▸ h)
  | a :: r, pre, acc, μ, e, h => by
    rw [List.map_cons]; unfold lcA
    rw [if_pos (hw _ _ _ h)]
    obtain ⟨ρ2, eg, s⟩ := step pre a r acc μ e h
    have e' : all = (pre ++ [a]) ++ r := by rw [e]; simp
    rw [eg]
    dsimp only
    cases et : t ρ2 μ with
    | bad => rw [et] at s; exact s
    | exc x μ1 => rw [et] at s; exact s.elim
    | ok b μ1 =>
      rw [et] at s
      cases b with
      | false => exact lci_go I all hw hn hz step fin r _ acc μ1 e' s
      | true =>
        have s : @Rp _ (el ρ2 μ1) (fun y μ => I (pre ++ [a]) (acc ++ [y]) μ) (fun _ _ => False) := s
        dsimp only
        cases ee : el ρ2 μ1 with
        | bad => rw [ee] at s; exact s
        | exc x μ2 => rw [ee] at s; exact s.elim
        | ok y μ2 =>
          rw [ee] at s
          dsimp only
          have l1 := hn _ _ _ h
          rw [e, List.length_append, List.length_cons] at hz
          rw [if_pos (by omega)]
          exact lci_go I all hw hn (by rw [e, List.length_append, List.length_cons]; exact hz) step fin r _ _ μ2 e' s
theorem rp_lci {g : D → Mi.Env → Option Mi.Env} {t : MT} {el : ME} {w : List Nat} {f : α → D} {l : List α} (I : List α → List D → Store → Prop) (hz : l.length ≤ sizeLine) (h0 : I [] [] μ) (hw : ∀ pre acc μ, I pre acc μ → watch w μ0 μ) (hn : ∀ pre acc μ, I pre acc μ → acc.length ≤ pre.length)
    (step : ∀ pre a post acc μ, l = pre ++ a :: post → I pre acc μ → ∃ ρ2, g (f a) ρ = some ρ2 ∧ @Rp _ (t ρ2 μ) (fun k μ => if k = true then @Rp _ (el ρ2 μ) (fun y μ => I (pre ++ [a]) (acc ++ [y]) μ) (fun _ _ => False) else I (pre ++ [a]) acc μ) (fun _ _ => False)) (fin : ∀ acc μ, I l acc μ → L acc μ) :
    @Rp _ (lcA w μ0 g t el ρ (l.map f) [] μ) L X := lci_go I l hw hn hz step fin l [] [] μ rfl h0
theorem for_enum {g : MG} {body : MS} {l : List α} (f : α → D) (I : List α → Mi.Env → Store → Prop) (h0 : I [] ρ μ)
    (step : ∀ pre a post ρ μ, l = pre ++ a :: post → I pre ρ μ → @Rp _ (g (.tup [.int pre.length, f a]) ρ μ) (fun ρ μ => @RpS (body n ρ μ) ⟨I (pre ++ [a]), P.R, P.N, I (pre ++ [a]), P.X⟩) P.X) (fin : ∀ ρ μ, I l ρ μ → P.N ρ μ) :
    @RpS (forS [] μ0 g body n (enumD (l.map f)) ρ μ) P := by
  have go : ∀ (r pre : List α) (ρ : Mi.Env) (μ : Store), l = pre ++ r → I pre ρ μ → @RpS (forS [] μ0 g body n (enumF pre.length (r.map f)) ρ μ) P := by
    intro r
    induction r with
    | nil =>
      intro pre ρ μ e h
      rw [List.map_nil]
      unfold enumF forS
      rw [if_pos Pl.watch_nil]
      rw [List.append_nil] at e
      exact fin ρ μ (e ▸ h)
    | cons a r ih =>
      intro pre ρ μ e h
      rw [List.map_cons]
      unfold enumF forS
      rw [if_pos Pl.watch_nil]
      have s := step pre a r ρ μ e h
      have e' : l = (pre ++ [a]) ++ r := by rw [e]; simp
      have el : pre.length + 1 = (pre ++ [a]).length := by simp
      cases eg : g (.tup [.int pre.length, f a]) ρ μ with
      | bad => rw [eg] at s; exact s
      | exc x μ1 => rw [eg] at s; exact s
      | ok ρ1 μ1 =>
        rw [eg] at s
        dsimp only
        cases eb : body n ρ1 μ1 with
        | nx ρ2 μ2 => rw [rp_ok, eb] at s; dsimp only; rw [el]; exact ih _ ρ2 μ2 e' s
        | ct ρ2 μ2 => rw [rp_ok, eb] at s; dsimp only; rw [el]; exact ih _ ρ2 μ2 e' s
        | bk ρ2 μ2 => rw [rp_ok, eb] at s; exact s
        | rt d2 μ2 => rw [rp_ok, eb] at s; exact s
        | exc x μ2 => rw [rp_ok, eb] at s; exact s
        | bad => rw [rp_ok, eb] at s; exact s
  rw [enumD_eq]
  exact go l [] ρ μ rfl h0
@[simp] theorem f_inTS3 {neg : Bool} {w a b c : Str} : @Rp _ (fIn neg (.str w) (.tup [.str a, .str b, .str c]) μ) Q X = Q (.bl (if neg = true then !(a == w || (b == w || c == w)) else (a == w || (b == w || c == w)))) μ := by
  rw [f_inT (fun _ _ => trivial) rfl rfl]
  simp
@[simp] theorem ownO_app {C : String} {ks : List Str} {ds : List D} : ownO (μ ++ [some (.obj C ks ds)]) (.own μ.length) = some (μ.length, C, ks, ds) := ownO_own app_at
@[simp] theorem objOf_app {C : String} {ks : List Str} {ds : List D} : objOf (μ ++ [some (.obj C ks ds)]) (.own μ.length) = some (C, ks, ds) := objOf_own app_at
@[simp] theorem f_inTI2 {neg : Bool} {w a b : Int} : @Rp _ (fIn neg (.int w) (.tup [.int a, .int b]) μ) Q X = Q (.bl (if neg = true then !(a == w || b == w) else (a == w || b == w))) μ := by
  rw [f_inT (fun _ _ => trivial) rfl rfl]
  simp
end
end Pl
namespace Pl
open PySem PySem.Spec L2 Mi
section
variable {α : Type} {Q : D → Store → Prop} {X : Exc → Store → Prop} {P : Post} {ρ : Mi.Env} {μ μ0 μ1 : Store} {n : Nat}
@[simp] theorem f_addTT {b : Bool} {xs ys : List D} : @Rp _ (fAdd b (.tup xs) (.tup ys) μ) Q X = (xs.length + ys.length ≤ sizeLine ∧ Q (.tup (xs ++ ys)) μ) := by
  unfold fAdd
  by_cases h : xs.length + ys.length ≤ sizeLine <;> simp [h]
@[simp] theorem rs_raiseF {C : String} {f : Str} {a : MA} : @RpS (mRaiseF C f a n ρ μ) P = @Rp _ (a ρ μ) (fun ds μ => match ds with
  | [d] => P.X ⟨C, [f], [d]⟩ μ
  | _ => False) P.X := by
  unfold mRaiseF
  rw [rs_st]; congr 1; funext ds μ
  match ds with
  | [] | [_] | _ :: _ :: _ => rfl
theorem Fr.keep {s f : Nat} {μ μ' : Store} {x : Option Cell} (h : Fr s μ μ') (e : μ[f]? = some x) (ne : f ≠ s) : μ'[f]? = some x := (h.at_ f (List.getElem?_eq_some_iff.mp e).1 ne).trans e
end
end Pl
namespace Pl
open PySem PySem.Spec L2 Mi
section
variable {α : Type} {Q : D → Store → Prop} {X : Exc → Store → Prop} {P : Post} {ρ : Mi.Env} {n : Nat} {μ : Store}
@[simp] theorem rp_dget2 {o i z : ME} : @Rp _ (mDGet2 o i z ρ μ) Q X = @Rp _ (o ρ μ) (fun x μ => (dctOf μ x).isSome = true ∧ @Rp _ (i ρ μ) (fun y μ => @Rp _ (z ρ μ) (fun u μ => match dctOf μ x, keyOf y with
    | some (ks, ds), some k => Q ((lookK k ks ds).getD u) μ
    | _, _ => False) X) X) X := by
  unfold mDGet2
  simp only [rp_bind]
  congr 1; funext x μ
  cases e : dctOf μ x with
  | none => simp
  | some kd =>
    simp only [rp_bind, Option.isSome_some, true_and]
    congr 1; funext y μ; congr 1; funext u μ
    rcases dctOf μ x with _ | ⟨ks, ds⟩ <;> rcases keyOf y with _ | k <;> simp
@[simp] theorem rp_callK {m k : Nat} {ix : List Nat} {f : List D → Store → Res D} {a b : MA} : @Rp _ (mCallK m k ix f a b ρ μ) Q X = @Rp _ (a ρ μ) (fun xs μ => @Rp _ (b ρ μ) (fun ys μ => (xs.length = m ∧ ys.length = k) ∧ @Rp _ (f (ix.filterMap ((xs ++ ys)[·]?)) μ) Q X) X) X := by
  unfold mCallK
  simp only [rp_bind]
  congr 1; funext xs μ; congr 1; funext ys μ
  split
  · rename_i h; simp only [h, true_and, and_self]
  · rename_i h; simp only [h, false_and, rp_bad]
@[simp] theorem f_count {is : List Int} {k : Int} : @Rp _ (fCountI (.lst (is.map .int)) [.int k] μ) Q X = Q (.int (is.count k : Nat)) μ := by
  have : (seqL μ (.lst (is.map D.int))).bind intsD = some is := by
    show intsD (is.map D.int) = some is
    induction is with
    | nil => rfl
    | cons i is ih => rw [List.map_cons, intsD, ih]; rfl
  unfold fCountI
  rw [this]; rfl
end
end Pl
namespace Pl
open PySem PySem.Spec L2 Mi
mutual
def gq (k : Nat) : D → Bool
  | .non => true
  | .bl _ => true
  | .int _ => true
  | .str z => decide (z.length ≤ k) && z.cps.toList.all fun c => decide (c < 128)
  | .lst ds => decide (ds.length ≤ k) && gqs k ds
  | .tup ds => decide (ds.length ≤ k) && gqs k ds
  | .dct ks ds => ks.isEmpty && ds.isEmpty
  | _ => false
def gqs (k : Nat) : List D → Bool
  | [] => true
  | d :: ds => gq k d && gqs k ds
end
section
variable {Q : D → Store → Prop} {X : Exc → Store → Prop} {P : Post} {ρ : Mi.Env} {μ : Store} {d : D} {ds es : List D} {k : Nat}
mutual
theorem gq_mono {k j : Nat} (h : k ≤ j) : ∀ {d : D}, gq k d = true → gq j d = true
  | .non, _ => rfl
  | .bl _, _ => rfl
  | .int _, _ => rfl
  | .str z, e => by
    unfold gq at e ⊢
    rw [Bool.and_eq_true, decide_eq_true_eq] at e ⊢
    exact ⟨Nat.le_trans e.1 h, e.2⟩
  | .lst ds, e => by
    unfold gq at e ⊢
    rw [Bool.and_eq_true, decide_eq_true_eq] at e ⊢
    exact ⟨Nat.le_trans e.1 h, gqs_mono h e.2⟩
  | .tup ds, e => by
    unfold gq at e ⊢
    rw [Bool.and_eq_true, decide_eq_true_eq] at e ⊢
    exact ⟨Nat.le_trans e.1 h, gqs_mono h e.2⟩
  | .dct ks ds, e => e
theorem gqs_mono {k j : Nat} (h : k ≤ j) : ∀ {ds : List D}, gqs k ds = true → gqs j ds = true
  | [], _ => rfl
  | d :: ds, e => by
    unfold gqs at e ⊢
    rw [Bool.and_eq_true] at e ⊢
    exact ⟨gq_mono h e.1, gqs_mono h e.2⟩
end
def ltS (a b : Str) : Bool := decide (a.cps.toList < b.cps.toList)
@[simp] theorem f_ltS {a b : Str} : @Rp _ (fLt (.str a) (.str b) μ) Q X = Q (.bl (ltS a b)) μ := by
  have e : fLt (.str a) (.str b) μ = .ok (.bl (ltS a b)) μ := by
    unfold fLt
    rw [show D.view μ (.str a) = some (.str a) from rfl, show D.view μ (.str b) = some (.str b) from rfl]
    dsimp only
    rw [if_pos (by refine ⟨rfl, rfl, ?_, ?_, ?_⟩; simp only [PySem.W.alike]; exact (fun z => by cases z); exact Nat.zero_le _)]
    rw [PySem.W.dataLt_str]; rfl
  rw [e]; rfl
@[simp] theorem rp_revA {b : Bool} {a : ME} : @Rp _ (mRevA b a ρ μ) Q' X = @Rp _ (a ρ μ) (fun x μ => match x with
  | .tup ds => Q' (.tup ds.reverse) μ
  | x => match seqL μ x with
    | some ds => @Rp _ (newL b ds.reverse μ) Q' X
    | none => False) X := by
  unfold mRevA; rw [rp_bind]; congr 1; funext x μ; cases x <;> first | rfl | (simp only []; cases seqL μ _ <;> rfl)
@[simp] theorem rp_zip {a b : ME} {L : Src → Store → Prop} : @Rp _ (miZip a b ρ μ) L X = @Rp _ (a ρ μ) (fun x μ => @Rp _ (b ρ μ) (fun y μ => match zipS μ x y with
  | some s => L s μ
  | none => False) X) X := by
  unfold miZip
  simp only [rp_bind]
  congr 1; funext x μ; congr 1; funext y μ
  cases zipS μ x y <;> rfl
@[simp] theorem zipS_tup : zipS μ (.tup ds) (.tup es) = some ⟨zipD ds es, []⟩ := rfl
@[simp] theorem zipS_lst : zipS μ (.lst ds) (.lst es) = some ⟨zipD ds es, []⟩ := rfl
def namesD : D → List Str
  | .tup ds => (strsD ds).getD []
  | _ => []
@[simp] theorem namesD_tup {ss : List Str} : namesD (.tup (ss.map D.str)) = ss := by simp [namesD, strsD_map]
end
end Pl
namespace Pl
open PySem PySem.Spec L2 Mi
mutual
theorem pd_pdW {f : Nat → Option PyData} : ∀ {d : D} {p : PyData}, d.pd = some p → d.pdW f = some p
  | .non, _, e => e
  | .bl _, _, e => e
  | .int _, _, e => e
  | .str _, _, e => e
  | .lst ds, p, e => by
    unfold D.pd at e
    unfold D.pdW
    cases q : pds ds with
    | none => rw [q] at e; cases e
    | some ps => rw [q] at e; rw [pds_pdsW q]; exact e
  | .tup ds, p, e => by
    unfold D.pd at e
    unfold D.pdW
    cases q : pds ds with
    | none => rw [q] at e; cases e
    | some ps => rw [q] at e; rw [pds_pdsW q]; exact e
  | .dct ks ds, p, e => by
    unfold D.pd at e
    unfold D.pdW
    cases q : pds ds with
    | none => rw [q] at e; cases e
    | some ps => rw [q] at e; rw [pds_pdsW q]; exact e
  | .ty _, _, e => by cases e
  | .obj _ _ _, _, e => by cases e
  | .exc _ _ _, _, e => by cases e
  | .cls _, _, e => by cases e
  | .own _, _, e => by cases e
theorem pds_pdsW {f : Nat → Option PyData} : ∀ {ds : List D} {ps : List PyData}, pds ds = some ps → pdsW f ds = some ps
  | [], _, e => e
  | d :: ds, ps, e => by
    unfold pds at e
    unfold pdsW
    split at e
    · rename_i p q h1 h2
      rw [pd_pdW h1, pds_pdsW h2]
      exact e
    · cases e
end
theorem pds_len : ∀ {ds : List D} {ps : List PyData}, pds ds = some ps → ps.length = ds.length
  | [], _, e => by cases Option.some.inj e; rfl
  | d :: ds, ps, e => by
    unfold pds at e
    split at e
    · rename_i p q h1 h2
      cases Option.some.inj e
      simp [pds_len h2]
    · cases e
theorem eqvAll_len : ∀ {ps qs : List PyData}, ps.length ≠ qs.length → PyData.eqvAll ps qs = false
  | [], [], h => absurd rfl h
  | [], _ :: _, _ => rfl
  | _ :: _, [], _ => rfl
  | p :: ps, q :: qs, h => by
    rw [PyData.eqvAll, eqvAll_len (by simpa using h), Bool.and_false]
section
variable {Q : D → Store → Prop} {X : Exc → Store → Prop} {μ : Store} {x y : D} {p q : PyData}
theorem eqView_pd {neg : Bool} (hx : x.pd = some p) (hy : y.pd = some q) (sp : SeqAt.shaped p = true) (sq : SeqAt.shaped q = true) : eqView neg x y μ = .ok (.bl (if neg = true then !PyData.eqv p q else PyData.eqv p q)) μ := by
  unfold eqView D.view
  rw [pd_pdW hx, pd_pdW hy]
  dsimp only
  rw [if_pos ⟨sp, sq⟩]
theorem f_eqPd {neg : Bool} (hx : x.pd = some p) (hy : y.pd = some q) (sp : SeqAt.shaped p = true) (sq : SeqAt.shaped q = true) : @Rp _ (fEq neg x y μ) Q X = Q (.bl (if neg = true then !PyData.eqv p q else PyData.eqv p q)) μ := by
  have e : fEq neg x y μ = .ok (.bl (if neg = true then !PyData.eqv p q else PyData.eqv p q)) μ := by
    have key := eqView_pd (neg := neg) (μ := μ) hx hy sp sq
    unfold fEq
    split
    · rename_i xs ys e1 e2
      split
      · exact key
      · rename_i hn
        cases x with
        | lst ds0 =>
          cases y with
          | lst es0 =>
            obtain rfl : ds0 = xs := Option.some.inj e1
            obtain rfl : es0 = ys := Option.some.inj e2
            unfold D.pd at hx hy
            cases q1 : pds ds0 with
            | none => rw [q1] at hx; cases hx
            | some ps =>
              cases q2 : pds es0 with
              | none => rw [q2] at hy; cases hy
              | some qs =>
                rw [q1] at hx
                rw [q2] at hy
                cases Option.some.inj hx
                cases Option.some.inj hy
                rw [PyData.eqv, eqvAll_len (by rw [pds_len q1, pds_len q2]; exact hn)]
                cases neg <;> rfl
          | own _ => cases hy
          | _ => cases e2
        | own _ => cases hx
        | _ => cases e1
    · unfold eqOne
      split
      · cases Option.some.inj hx
        cases Option.some.inj hy
        simp only [PyData.eqv]
      · exact key
  rw [e]; rfl
end
abbrev SRow := Option (List Str × List Str × Bool)
theorem shaped_of {p : PyData} (h : p.canLay0 = true) (d : p.depth ≤ 64) : SeqAt.shaped p = true := by
  unfold SeqAt.shaped
  rw [h, decide_eq_true d]; rfl
section
variable {Q : D → Store → Prop} {X : Exc → Store → Prop} {μ : Store}
end
end Pl
namespace Pl
open PySem PySem.Spec L2 Mi
section
variable {Q : D → Store → Prop} {X : Exc → Store → Prop} {P : Post} {ρ : Mi.Env} {μ μ0 : Store} {n k : Nat} {x : D} {ds : List D}
structure SeqIn (x : D) (ds : List D) (w : List Nat) (μ : Store) : Prop where
  isl : ∀ t, fIsL [.ty "list", .ty "tuple"] x (μ ++ t) = .ok (.bl true) (μ ++ t)
  len : ∀ t, fLen [x] (μ ++ t) = .ok (.int ds.length) (μ ++ t)
  en : ∀ t, (seqL (μ ++ t) x = some ds ∧ w = x.cell) ∨ (seqL (μ ++ t) x = none ∧ seqT x = some ds ∧ w = [])
  lt : ∀ j ∈ w, j < μ.length
theorem SeqIn.lst : SeqIn (.lst ds) ds [] μ := ⟨fun _ => rfl, fun _ => rfl, fun _ => .inl ⟨rfl, rfl⟩, fun _ h => by cases h⟩
theorem SeqIn.tup : SeqIn (.tup ds) ds [] μ := ⟨fun _ => rfl, fun _ => rfl, fun _ => .inr ⟨rfl, rfl, rfl⟩, fun _ h => by cases h⟩
theorem SeqIn.own {j : Nat} (h : μ[j]? = some (some (.lst ds))) : SeqIn (.own j) ds [j] μ := by
  have lt := (List.getElem?_eq_some_iff.mp h).1
  have e : ∀ t, (μ ++ t)[j]? = some (some (.lst ds)) := fun t => by rw [List.getElem?_append_left lt]; exact h
  refine ⟨fun t => ?_, fun t => ?_, fun t => .inl ⟨seqL_own (e t), rfl⟩, fun i hi => by rw [List.mem_singleton.mp hi]; exact lt⟩
  · have q : tnD (μ ++ t) (.own j) = some (.b "list") := by unfold tnD; simp [e t, tnC]
    unfold fIsL kindOk
    rw [q]; rfl
  · exact ok_of (by rw [f_lenL (seqL_own (e t))]; exact ⟨rfl, rfl⟩)
end
end Pl
namespace Pl
open PySem PySem.Spec L2 Mi
def acc : SRow → List Str → Bool
  | none, _ => false
  | some (a, b, o), ns => (a.all fun n => decide (n ∈ ns)) && ns.all fun n => decide (n ∈ b) != o
section
variable {Q : D → Store → Prop} {X : Exc → Store → Prop} {P : Post} {ρ : Mi.Env} {μ μ0 : Store} {n k : Nat} {x d : D} {ds : List D} {rs ss : List SRow} {r : SRow} {ns : List Str}
@[simp] theorem look_own {d : D} : lookF (Str.ofString "own_rows") [Str.ofString "own_rows"] [d] = some d := by unfold lookF; rw [if_pos rfl]
end
end Pl
namespace Pl
open PySem PySem.Spec L2 Mi
section
variable {Q : D → Store → Prop} {X : Exc → Store → Prop} {P : Post} {ρ : Mi.Env} {μ μ0 : Store} {n k : Nat} {x d : D} {ds : List D} {rs ss : List SRow} {r : SRow} {ns : List Str}
@[simp] theorem rp_sortSet {b : Bool} {a : ME} : @Rp _ (mSortSet b a ρ μ) Q X = @Rp _ (a ρ μ) (fun x μ => match (seqA μ x).bind strsD with
  | some ss => (ss.length < 64 ∨ ((SetT.ddS ss).length < 64 ∧ ss.length ≤ 1000)) ∧ @Rp _ (newL b ((sortS (SetT.ddS ss)).map .str) μ) Q X
  | none => False) X := by
  unfold mSortSet; rw [rp_bind]; congr 1; funext x μ
  cases (seqA μ x).bind strsD with
  | none => rfl
  | some ss => dsimp only; by_cases h : ss.length < 64 ∨ ((SetT.ddS ss).length < 64 ∧ ss.length ≤ 1000) <;> simp [h]
@[simp] theorem seqA_tup : seqA μ (.tup ds) = some ds := rfl
@[simp] theorem seqA_lst : seqA μ (.lst ds) = some ds := rfl
end
end Pl
namespace K06
open PySem PySem.Spec L2 Mi Pl
section
variable {Q : D → Store → Prop} {X : Exc → Store → Prop} {P : Post} {ρ : Mi.Env} {μ μ' μ0 : Store} {n k c s m j : Nat} {x y d one two : D} {ds es : List D}
@[simp] theorem rp_mkX0 {C : String} : @Rp _ (mMkX0 C ρ μ) Q X = Q (.exc C [] []) μ := rfl
@[simp] theorem rp_mkX1 {C : String} {f : Str} {a : MA} : @Rp _ (mMkX1 C f a ρ μ) Q X = @Rp _ (a ρ μ) (fun ds μ => match ds with
  | [d] => Q (.exc C [f] [d]) μ
  | _ => False) X := by
  unfold mMkX1
  rw [rp_bind]; congr 1; funext ds μ
  match ds with
  | [] | [_] | _ :: _ :: _ => rfl
@[simp] theorem rp_mkX2 {C : String} {f1 f2 : Str} {a : MA} : @Rp _ (mMkX2 C f1 f2 a ρ μ) Q X = @Rp _ (a ρ μ) (fun ds μ => match ds with
  | [d1, d2] => Q (.exc C [f2, f1] [d2, d1]) μ
  | _ => False) X := by
  unfold mMkX2
  rw [rp_bind]; congr 1; funext ds μ
  match ds with
  | [] | [_] | [_, _] | _ :: _ :: _ :: _ => rfl
@[simp] theorem rp_mkX2r {C : String} {f1 f2 : Str} {a : MA} : @Rp _ (mMkX2r C f1 f2 a ρ μ) Q X = @Rp _ (a ρ μ) (fun ds μ => match ds with
  | [d2, d1] => Q (.exc C [f2, f1] [d2, d1]) μ
  | _ => False) X := by
  unfold mMkX2r
  rw [rp_bind]; congr 1; funext ds μ
  match ds with
  | [] | [_] | [_, _] | _ :: _ :: _ :: _ => rfl
def clsL : List String := ["BadParameter", "BadSignature", "NoName", "BadCall", "BadPiece", "Repeated", "Refused", "BadRow", "BadCounts", "NothingBinds", "BadChain", "Stopped", "BadVariants", "BadVersions", "BadMoves", "Breaks", "NoFunction", "NoSite", "BadEntry", "BadText"]
def exL (one two : D) : List (String × List Str × List D) := [("BadParameter", [], []), ("BadSignature", ["index"], [one]), ("NoName", ["name"], [one]), ("BadCall", [], []), ("BadPiece", ["index"], [one]), ("Repeated", ["name"], [one]), ("Refused", ["obstruction"], [one]), ("BadRow", ["index"], [one]),
  ("BadCounts", [], []), ("NothingBinds", [], []), ("BadChain", ["index"], [one]), ("Stopped", ["reason", "index"], [two, one]), ("BadVariants", ["index"], [one]), ("BadVersions", ["index"], [one]), ("BadMoves", ["index"], [one]), ("Breaks", ["numbers"], [one]), ("NoFunction", ["name"], [one]), ("NoSite", ["number"], [one]), ("BadEntry", ["index"], [one]), ("BadText", ["index"], [one])]
def exD (t : String × List Str × List D) : D := .exc t.1 t.2.1 t.2.2
theorem exL_cls : (exL one two).map (·.1) = clsL := rfl
theorem pos_m : m_Lby_position [one, two] μ = .ok (.lst ((exL one two).map exD)) μ := ok_of (by
  have zl : 1000 ≤ sizeLine := by decide
  simp [m_Lby_position, b_Lby_position, startD]
  rfl)
theorem word_m : m_Lby_word [one, two] μ = .ok (.lst ((exL one two).map exD)) μ := ok_of (by
  have zl : 1000 ≤ sizeLine := by decide
  simp [m_Lby_word, b_Lby_word, startD]
  rfl)
theorem is_x {C T : String} {ks : List Str} {ds : List D} (h : errs.contains C = true) : fIsS (.cls T) (.exc C ks ds) μ = .ok (.bl (isaC C T)) μ := by
  have e1 : kindOk μ (.exc C ks ds) = true := by
    show (errs.contains C == true) = true
    rw [h]; rfl
  unfold fIsS
  simp only [e1]
  rfl
theorem is_ve {C : String} {ks : List Str} {ds : List D} (h : errs.contains C = true) : fIsS (.ty "ValueError") (.exc C ks ds) μ = .ok (.bl true) μ := by
  have e1 : kindOk μ (.exc C ks ds) = true := by
    show (errs.contains C == true) = true
    rw [h]; rfl
  have e2 : isaN C "ValueError" = true := by
    unfold isaN
    rw [h]; rfl
  unfold fIsS
  simp only [e1]
  show (match some (isaN C "ValueError") with
    | some b => Res.ok (D.bl b) μ
    | none => Res.bad) = _
  rw [e2]
theorem marks_m {C : String} {ks : List Str} (h : errs.contains C = true) : m_Lmarks [.exc C ks ds] μ = .ok (.lst ((clsL.map (isaC C)).map .bl)) μ := ok_of (by
  have zl : 1000 ≤ sizeLine := by decide
  simp [m_Lmarks, b_Lmarks, startD, is_x h]
  rfl)
def prs : Nat → List Bool → List (Nat × Bool)
  | _, [] => []
  | n, b :: bs => (n, b) :: prs (n + 1) bs
def prD (p : Nat × Bool) : D := .tup [.int p.1, .bl p.2]
theorem enum_prs : ∀ (bs : List Bool) (n : Nat), enumF n (bs.map .bl) = (prs n bs).map prD
  | [], _ => rfl
  | b :: bs, n => by
    simp only [List.map_cons, prs]
    rw [← enum_prs bs (n + 1)]
    rfl
theorem prs_len : ∀ (bs : List Bool) (n : Nat), (prs n bs).length = bs.length
  | [], _ => rfl
  | b :: bs, n => by simp [prs, prs_len bs (n + 1)]
theorem apart20 : ∀ i : Fin 20, errs.contains (clsL.getD i "") = true ∧ isaC (clsL.getD i "") "CallError" = true ∧ ((prs 0 (clsL.map (isaC (clsL.getD i "")))).filter (·.2)).map (·.1) = [i.val] := by decide +kernel
theorem ne_one {i : Nat} : @Rp _ (fEq true (.lst [.int i]) (.lst [.int i]) μ) Q X = Q (.bl false) μ := by
  have e : D.pd (.lst [.int i]) = some (.list [.int i]) := rfl
  have cl : (PyData.list [.int i]).canLay0 = true := by
    rw [PyData.canLay0, PyData.canLayAll0, PyData.canLayAll0, PyData.canLay0]; rfl
  have dp : (PyData.list [.int i]).depth ≤ 64 := by
    rw [PyData.depth, PyData.depthAll, PyData.depthAll, PyData.depth]
    omega
  rw [f_eqPd e e (shaped_of cl dp) (shaped_of cl dp), SeqAt.eqv_refl _ cl]
  rfl
theorem apart_m : m_Lapart [.lst ((exL one two).map exD)] μ = .ok (.bl true) μ := ok_of (by
  have zl : 1000 ≤ sizeLine := by decide
  simp only [m_Lapart, b_Lapart, rp_fn]
  refine ⟨rfl, ?_⟩
  refine rs_go fun N1 hN1 => ?_
  rw [rs_for]
  simp [startD]
  refine for_enum exD (fun pre ρ μ' => μ' = μ ∧ ∃ y1 y2 y3 y4, ρ = [some (.lst ((exL one two).map exD)), y1, y2, y3, y4]) ⟨rfl, _, _, _, _, rfl⟩ ?_ ?_
  · rintro pre ⟨C, ks, ds⟩ post ρ μ1 e ⟨rfl, y1, y2, y3, y4, rfl⟩
    have e2 : clsL = pre.map (·.1) ++ C :: post.map (·.1) := by
      rw [← exL_cls (one := one) (two := two), e, List.map_append, List.map_cons]
    have hl : pre.length < 20 := by
      have := congrArg List.length e2
      rw [List.length_append, List.length_cons, List.length_map] at this
      have e20 : clsL.length = 20 := rfl
      omega
    have hC : clsL.getD pre.length "" = C := by
      rw [e2, List.getD_eq_getElem?_getD, List.getElem?_append_right (by simp)]
      simp
    obtain ⟨h1, h2, h3⟩ := apart20 ⟨pre.length, hl⟩
    dsimp only at h1 h2 h3
    rw [hC] at h1 h2 h3
    simp only [Pl.rg_tup, rg_cons, rg_name, rg_nil, List.length_cons, List.length_nil, true_and]
    refine rs_go fun N2 hN2 => ?_
    simp [exD, is_x h1, is_ve h1, h2]
    refine hN2 _ _ ?_
    simp [exD, marks_m h1]
    rw [enumD_eq, ← List.map_map, enum_prs]
    refine rp_lct (f := prD) (fun p => p.2) (fun p => .int p.1) (by rw [prs_len, List.length_map, show clsL.length = 20 from rfl]; omega) (fun p hp => ⟨_, rfl, ok_of (by simp [wipeD]), fun _ => ok_of (by simp [wipeD])⟩) ?_
    have h4 : (((prs 0 (clsL.map (isaC C))).filter (·.2)).map fun p => D.int (p.1 : Nat)) = [.int (pre.length : Nat)] := by
      have : (((prs 0 (clsL.map (isaC C))).filter (·.2)).map fun p => D.int (p.1 : Nat)) = (((prs 0 (clsL.map (isaC C))).filter (·.2)).map (·.1)).map fun i : Nat => D.int i := by rw [List.map_map]; rfl
      rw [this, h3]; rfl
    rw [h4, ne_one]
    simp
  · rintro ρ μ1 ⟨rfl, y1, y2, y3, y4, rfl⟩
    refine hN1 _ _ ?_
    simp)
def dueL (one two : D) : List D := [one, one, one, one, one, one, one, one, two, one, one, one, one, one, one, one, one]
theorem fields_m : m_Lfields [.lst ((exL one two).map exD)] μ = .ok (.lst (dueL one two)) μ := ok_of (by
  have zl : 1000 ≤ sizeLine := by decide
  have e : (exL one two).map exD = [.exc "BadParameter" [] [], .exc "BadSignature" ["index"] [one], .exc "NoName" ["name"] [one], .exc "BadCall" [] [], .exc "BadPiece" ["index"] [one], .exc "Repeated" ["name"] [one], .exc "Refused" ["obstruction"] [one], .exc "BadRow" ["index"] [one],
    .exc "BadCounts" [] [], .exc "NothingBinds" [] [], .exc "BadChain" ["index"] [one], .exc "Stopped" ["reason", "index"] [two, one], .exc "BadVariants" ["index"] [one], .exc "BadVersions" ["index"] [one], .exc "BadMoves" ["index"] [one], .exc "Breaks" ["numbers"] [one], .exc "NoFunction" ["name"] [one], .exc "NoSite" ["number"] [one], .exc "BadEntry" ["index"] [one], .exc "BadText" ["index"] [one]] := rfl
  rw [e]
  have at_ : ∀ (l : List D) (i : Nat) (d : D), l[i]? = some d → atI l (i : Int) = some d := fun l i d h => by
    have hl := (List.getElem?_eq_some_iff.mp h).1
    unfold atI ixN
    rw [if_pos (by omega), if_pos (by omega)]
    simpa using h
  have lr : lookF "reason" [("reason" : Str), "index"] [two, one] = some two := rfl
  have li : lookF "index" [("reason" : Str), "index"] [two, one] = some one := by
    show (if ("reason" : Str) = "index" then some two else if ("index" : Str) = "index" then some one else none) = some one
    rw [if_neg (by decide +kernel), if_pos rfl]
  have l1 : ∀ (f : Str) (d : D), lookF f [f] [d] = some d := fun f d => by
    show (if f = f then some d else none) = some d
    rw [if_pos rfl]
  simp [m_Lfields, b_Lfields, startD, atI, ixN, l1, lr, li, dueL])
end
end K06
namespace K06
open PySem PySem.Spec L2 Mi Pl
section
variable {Q : D → Store → Prop} {X : Exc → Store → Prop} {P : Post} {ρ : Mi.Env} {μ μ' μ0 : Store} {n k c s m j : Nat} {x y d one two : D} {ds es : List D}
def Sh (d : D) : Prop := ∃ p, (∀ f, d.pdW f = some p) ∧ p.showable = true ∧ PyData.leavesShort 60 p = true ∧ p.weight ≤ 1000 ∧ p.depth ≤ 4
theorem sh_gd (h : gd d = true) (hw : wt d ≤ 1000) (hn : nest d ≤ 4) : Sh d := by
  obtain ⟨p, e, s⟩ := gd_shows h
  exact ⟨p, e, s.s, s.l, Nat.le_trans s.w hw, Nat.le_trans s.n hn⟩
theorem sh_big : Sh (.int 1000000000000) := by
  refine ⟨.int 1000000000000, fun _ => rfl, ?_, ?_, ?_, by rw [PyData.depth]; omega⟩
  · simp only [PyData.showable]
    exact decide_eq_true (by decide +kernel)
  · simp only [PyData.leavesShort]
    refine decide_eq_true ?_
    have e := int_text_length_le10 (k := 13) (a := 1000000000000) (by decide) (by decide)
    show (Str.ofString (toString (1000000000000 : Int))).length ≤ 60
    rw [ofString_length]
    omega
  · simp only [PyData.weight]
    decide +kernel
theorem shL : ∀ {ds : List D}, (∀ d ∈ ds, Sh d) → ∃ ps, (∀ f, pdsW f ds = some ps) ∧ PyData.showableAll ps = true ∧ PyData.leavesShortAll 60 ps = true ∧ PyData.weightAll ps ≤ 1010 * ds.length ∧ PyData.depthAll ps ≤ 4
  | [], _ => ⟨[], fun _ => rfl, by simp [PyData.showableAll], by simp [PyData.leavesShortAll], by simp [PyData.weightAll], by simp [PyData.depthAll]⟩
  | d :: ds, h => by
    obtain ⟨p, e1, a1, b1, c1, d1⟩ := h d (by simp)
    obtain ⟨ps, e2, a2, b2, c2, d2⟩ := shL (ds := ds) fun x hx => h x (List.mem_cons_of_mem _ hx)
    refine ⟨p :: ps, fun f => by unfold pdsW; rw [e1 f, e2 f], by simp only [PyData.showableAll, a1, a2, Bool.and_self], by simp only [PyData.leavesShortAll, b1, b2, Bool.and_self], ?_, ?_⟩
    · simp only [PyData.weightAll, List.length_cons]; omega
    · simp only [PyData.depthAll]; omega
theorem repr_due (h1 : Sh one) (h2 : Sh two) : ∃ z, ∀ μ, fRepr [.lst (dueL one two)] μ = .ok (.str z) μ := by
  have hm : ∀ d ∈ dueL one two, Sh d := fun d hd => by
    simp only [dueL, List.mem_cons, List.not_mem_nil, or_false] at hd
    rcases hd with rfl | rfl | rfl | rfl | rfl | rfl | rfl | rfl | rfl | rfl | rfl | rfl | rfl | rfl | rfl | rfl | rfl
    all_goals first | exact h1 | exact h2
  obtain ⟨ps, e, a, b, c, n⟩ := shL hm
  have c : PyData.weightAll ps ≤ 1010 * 17 := c
  have lv : PyData.leavesShort 60 (.list ps) = true := by simpa [PyData.leavesShort] using b
  have wv : (PyData.list ps).weight ≤ 17200 := by
    have : (PyData.list ps).weight ≤ PyData.weightAll ps + 1 := by simp [PyData.weight]
    omega
  refine ⟨(PyData.list ps).shown, fun μ => ?_⟩
  have fits : (PyData.list ps).shown.length ≤ sizeLine := by
    have := PyData.shown_le 60 (by decide) (.list ps) lv
    have e : sizeLine = 16777216 := by decide
    omega
  unfold fRepr
  dsimp only
  rw [show (D.lst (dueL one two)).view μ = some (.list ps) from by
    show (D.lst (dueL one two)).pdW _ = _
    unfold D.pdW; rw [e _]; rfl]
  dsimp only
  rw [if_pos ⟨by simpa [PyData.showable] using a, fits, by rw [PyData.depth]; omega⟩]
def someL : List D := [.int 0, .int (-1), .int 7, .int 1000000000000, .bl true, .non, .str "a", .str "", .str "self", .tup [], .tup [.int 1, .str "b"], .tup [.str "lacks", .str "a"], .dct [] [], .lst [.int 3], .dct [.inr "a"] [.int 1], .tup [.str "many", .int 2, .int 5], .tup [.int 4, .int 7], .tup [.str "twice", .str "x"], .lst []]
theorem some_sh : ∀ d ∈ someL, Sh d := fun d hd => by
  simp only [someL, List.mem_cons, List.not_mem_nil, or_false] at hd
  rcases hd with rfl | rfl | rfl | rfl | rfl | rfl | rfl | rfl | rfl | rfl | rfl | rfl | rfl | rfl | rfl | rfl | rfl | rfl | rfl
  all_goals first | exact sh_big | exact sh_gd (by decide +kernel) (by decide +kernel) (by decide +kernel)
end
end K06
namespace K06
open PySem PySem.Spec L2 Mi Pl
section
variable {Q : D → Store → Prop} {X : Exc → Store → Prop} {P : Post} {ρ : Mi.Env} {μ μ' μ0 : Store} {n k c s m j : Nat} {x y d one two : D} {ds es : List D}
theorem law_true : ∀ ns : List Int, ns.length ≤ 63 → ∃ μ, m_law [.lst (ns.map Mi.D.int)] [] = .ok (.bl true) μ := by
  refine law_frame (k := 4) (N := 10) rfl (by decide) (by decide) ?_
  intro ρ μ t x ht hρ h1 h2
  have z6 : 10000 ≤ sizeLine := by decide
  obtain ⟨a0, o3, o4, o5, o6, o7, o8, o9, rfl⟩ : ∃ a0 o3 o4 o5 o6 o7 o8 o9, ρ = [a0, some (.int t), some (.int x), o3, o4, o5, o6, o7, o8, o9] := by
    match ρ, hρ with
    | [a0, a1, a2, o3, o4, o5, o6, o7, o8, o9], _ =>
      simp at h1 h2
      exact ⟨a0, o3, o4, o5, o6, o7, o8, o9, by rw [h1, h2]⟩
  have e_begin : K06.m_Lbegin = Pl.m_begin := rfl
  have e_pick : K06.m_Lpick = Pl.m_pick := rfl
  refine rs_go fun N1 hN1 => ?_
  simp [e_begin]
  refine begin_rp (by omega) (by omega) fun x1 y1 => ?_
  have st1 : St (μ ++ [some (.lst [.int x1, .int y1, .int 0])]) μ.length 0 := ⟨x1, y1, 0, by simp, by omega, by omega⟩
  generalize (μ ++ [some (Cell.lst [D.int x1, .int y1, .int 0])]) = μ1 at st1 ⊢
  generalize μ.length = s at st1 ⊢
  refine hN1 _ _ (rs_go fun N2 hN2 => ?_)
  simp
  refine ⟨by unfold Cs.CPowW; decide +kernel, ?_⟩
  refine hN2 _ _ (rs_go fun N3 hN3 => ?_)
  simp
  refine hN3 _ _ (rs_go fun N4 hN4 => ?_)
  simp
  have es : [D.int 0, D.int (-1), D.int 7, D.int 1000000000000, D.bl true, D.non, D.str "a", D.str "", D.str "self", D.tup [], D.tup [D.int 1, D.str "b"], D.tup [D.str "lacks", D.str "a"], D.dct [] [], D.lst [D.int 3], D.dct [Sum.inr "a"] [D.int 1], D.tup [D.str "many", D.int 2, D.int 5], D.tup [D.int 4, D.int 7], D.tup [D.str "twice", D.str "x"], D.lst []] = someL := rfl
  rw [es, show rangeD 0 2 = (List.range 2).map fun i : Nat => D.int i from rangeD_eq (n := 2)]
  refine rp_lci (fun pre acc μ' => acc.length = pre.length ∧ St μ' s pre.length ∧ ∀ d ∈ acc, d ∈ someL) (by rw [List.length_range]; omega) ⟨rfl, st1, fun _ h => by cases h⟩ (fun _ _ _ _ => Pl.watch_nil) (fun pre acc μ' h => by rw [h.1]; exact Nat.le_refl _) ?_ ?_
  · rintro pre i post acc μ2 ep ⟨hl, st2, ha⟩
    have lp : pre.length < 2 := by
      have := congrArg List.length ep
      rw [List.length_range, List.length_append, List.length_cons] at this
      omega
    refine ⟨_, rfl, ?_⟩
    simp [wipeD, e_pick]
    refine pick_rp (xs := someL) st2 (by omega) (fun _ _ => rfl) (by decide) (by decide) fun d μ3 hd st3 fr3 => ?_
    refine ⟨by omega, st3, fun z hz => ?_⟩
    rcases hz with hz | rfl
    · exact ha z hz
    · exact hd
  · rintro acc μ2 ⟨hl, st2, ha⟩
    rw [List.length_range] at hl
    obtain ⟨one, two, rfl⟩ : ∃ a b, acc = [a, b] := by
      match acc, hl with
      | [a, b], _ => exact ⟨a, b, rfl⟩
    obtain ⟨z, hz⟩ := repr_due (some_sh one (ha one (by simp))) (some_sh two (ha two (by simp)))
    simp
    refine hN4 _ _ (rs_go fun N5 hN5 => ?_)
    simp
    rw [f_mulL (ds := [one]) (by simp)]
    simp
    have m2 : (μ2 ++ [some (Cell.lst [one]), some (Cell.lst [one])])[μ2.length + 1]? = some (some (.lst [one])) := by
      rw [List.getElem?_append_right (by omega), show μ2.length + 1 - μ2.length = 1 by omega]; rfl
    rw [f_mulL (ds := [one]) m2]
    simp
    refine hN5 _ _ ?_
    rw [rs_for]
    simp [pos_m, word_m]
    rw [show [one, one, one, one, one, one, one, one, two, one, one, one, one, one, one, one, one] = dueL one two from rfl]
    rw [show [D.lst ((exL one two).map exD), D.lst ((exL one two).map exD)] = [(), ()].map (fun _ => D.lst ((exL one two).map exD)) from rfl]
    generalize μ2 ++ [some (Cell.lst [one]), some (Cell.lst [one])] = μ3
    have l20 : (exL one two).length = 20 := rfl
    refine for_map (fun _ => D.lst ((exL one two).map exD)) (fun pre ρ μ' => μ' = μ3 ∧ ∃ y9, ρ = [a0, some (.int t), some (.int x), some (.own s), some (.lst someL), some one, some two, o7, some (.lst (dueL one two)), y9]) ⟨rfl, _, rfl⟩ (fun _ _ _ _ => Pl.watch_nil) ?_ ?_
    · rintro pre u post ρ μ4 ep ⟨rfl, y9, rfl⟩
      simp only [rg_name]
      simp [l20, apart_m, fields_m, hz]
    · rintro ρ μ4 ⟨rfl, y9, rfl⟩
      rfl
end
end K06
namespace Mi
open PySem PySem.Spec L2 LamX PyProof.Rows Cs
section
variable {K : PySem.W.Frag} {w : World}
def dfV : Value → Value
  | .ref _ => .ref 0
  | v => v
theorem dfV_non {v : Value} (h : dfV v = .none) : v = .none := by
  cases v with
  | ref a => cases h
  | _ => exact h
def fnAt (K : PySem.W.Frag) (a : Addr) : He.FnV := match K.lookup a with
  | some ⟨_, _, .func fd, _⟩ => some (fd.name, fd.qualname, fd.params, fd.body, fd.scope, fd.globals, fd.closure, dfV fd.defaults, fd.builtins)
  | _ => none
def cdB (K : PySem.W.Frag) (a : Addr) (q : Str) : Bool := match K.lookup a with
  | some ⟨_, _, .func fd, _⟩ => PySem.W.codeIn K fd.code q
  | _ => false
def fnV (nm q : Str) (st : Stmt) : He.FnV := some (nm, q, defArgs st, .stmts (defBody st), defScope st, mainGlobals, [], .none, builtinsNs)
theorem fnAt_ok {a : Addr} {nm q : Str} {st : Stmt} (e : fnAt K a = fnV nm q st) (c2 : cdB K a q = true) :
    ∃ oc od osl kV doc pm an cdv ct, K.lookup a = some ⟨oc, od, .func (PySem.W.fnOf nm q (defArgs st) (defBody st) (defScope st) .none kV doc pm an cdv ct), osl⟩ ∧ PySem.W.codeIn K cdv q = true := by
  unfold fnAt at e
  unfold cdB at c2
  cases h : K.lookup a with
  | none => rw [h] at c2; cases c2
  | some o =>
    obtain ⟨oc, od, dt, osl⟩ := o
    rw [h] at c2 e
    cases dt with
    | func fd =>
      obtain ⟨n1, n2, n3, n4, n5, n6, n7, n8, n9, n10, n11, n12, n13, n14, n15⟩ := fd
      have e2 : (some (n1, n2, n3, n4, n5, n6, n7, dfV n8, n15) : He.FnV) = some (nm, q, defArgs st, .stmts (defBody st), defScope st, mainGlobals, [], .none, builtinsNs) := e
      simp only [Option.some.injEq, Prod.mk.injEq] at e2
      obtain ⟨h1, h2, h3, h4, h5, h6, h7, h8, h9⟩ := e2
      replace h8 := dfV_non h8
      subst h1 h2 h3 h4 h5 h6 h7 h8 h9
      exact ⟨oc, od, osl, n9, n10, n11, n12, n13, n14, rfl, c2⟩
    | _ => cases c2
def hdV (o : Option PySem.W.CFound) (v : Value) : Bool := match o with
  | some (.val u) => decide (u = v)
  | _ => false
theorem hdV_ok {o : Option PySem.W.CFound} {v : Value} (h : hdV o v = true) : o = some (.val v) := by
  unfold hdV at h
  split at h
  · rw [of_decide_eq_true h]
  · cases h
def oexB (K : PySem.W.Frag) (C : Addr) : Bool := match K.lookup C with
  | some ⟨.type t, _, .cls cd, sl⟩ => decide (t = "type") && (match cd.mro, sl.toList with
    | .ref C' :: bm, [_, _, _, _, some (.builtin n), _] => decide (C' = C) && (decide (n = "ValueError.__new__") && (!cd.hasDel && (cd.hasDict && PySem.HandSPX.refsVE bm)))
    | _, _ => false)
  | _ => false
theorem oexB_ok {C : Addr} (h : oexB K C = true) : OexCls K C := by
  unfold oexB at h
  split at h
  · rename_i t dd cd sl ho
    obtain ⟨h1, h2⟩ := He.ba h
    have et := of_decide_eq_true h1
    subst et
    split at h2
    · rename_i C' bm k0 k1 k2 k3 n k5 hm hs
      obtain ⟨g1, g2⟩ := He.ba h2
      obtain ⟨g3, g4⟩ := He.ba g2
      obtain ⟨g5, g6⟩ := He.ba g4
      obtain ⟨g7, g8⟩ := He.ba g6
      have e1 := of_decide_eq_true g1
      have e2 := of_decide_eq_true g3
      subst e1 e2
      obtain ⟨nm, bs, mro, ns, qn, hd, sn, sub, ab, col, del⟩ := cd
      dsimp only at hm g5 g7
      have e3 : del = false := by simpa using g5
      subst hm e3 g7
      have hsl : sl = #[k0, k1, k2, k3, some (.builtin "ValueError.__new__"), k5] := by
        obtain ⟨l⟩ := sl
        simp only at hs
        rw [hs]
      subst hsl
      exact ⟨nm, qn, ns, bs, bm, sn, sub, ab, col, dd, k0, k1, k2, k3, k5, ho, g8⟩
    · cases h2
  · cases h
abbrev AlH : Type := Bool × List He.FnV × List (Option (List (Option (Str × Int))))
abbrev FsH : Type := List ((PySem.W.Frag → Addr) × He.FnV)
abbrev DsH : Type := List ((PySem.W.Frag → Addr) × List Str)
def obsH (ex : PySem.W.Frag → List Bool) (fs : FsH) (ds : DsH) (K : PySem.W.Frag) : AlH := ((ex K).all id, fs.map fun p => fnAt K (p.1 K), ds.map fun p => He.dicW K (p.1 K))
def valH (fs : FsH) (ds : DsH) (w : World) : AlH := (true, fs.map fun p => p.2, ds.map fun p => some (He.keysIn w.params p.2))
def hookH (as : List Addr) (ex : PySem.W.Frag → List Bool) (fs : FsH) (ds : DsH) : PySem.W.Hook where
  α := AlH
  obs := fun s => obsH ex fs ds (He.frG s.heap.get? as)
  val := fun w => valH fs ds w
  says := fun w h => ∃ K : PySem.W.Frag, K.In h ∧ obsH ex fs ds K = valH fs ds w
  of := fun _ _ e => ⟨_, He.frG_in, e⟩
  keeps := fun _ _ _ ⟨K, hK, c⟩ k => ⟨K, PySem.W.Frag.In.keeps hK k, c⟩
theorem obsH_eq {as : List Addr} {ex : PySem.W.Frag → List Bool} {fs : FsH} {ds : DsH} {g : Addr → Option Obj} {s : Shared} (h : ∀ a, g a = s.heap.get? a) : obsH ex fs ds (He.frG g as) = (hookH as ex fs ds).obs s := by
  have e : g = s.heap.get? := funext h
  rw [e] <;> rfl
theorem exH {ex : PySem.W.Frag → List Bool} {fs : FsH} {ds : DsH} (c : obsH ex fs ds K = valH fs ds w) (i : Nat) {b : Bool} (h : (ex K)[i]? = some b := by rfl) : b = true := by
  have c1 : (ex K).all id = true := congrArg (fun z : AlH => z.1) c
  exact List.all_eq_true.mp c1 b (List.mem_of_getElem? h)
theorem fsH {ex : PySem.W.Frag → List Bool} {fs : FsH} {ds : DsH} (c : obsH ex fs ds K = valH fs ds w) (i : Nat) {p : (PySem.W.Frag → Addr) × He.FnV} (h : fs[i]? = some p := by rfl) : fnAt K (p.1 K) = p.2 := by
  have e : fs.map (fun p => fnAt K (p.1 K)) = fs.map fun p => p.2 := congrArg (fun z : AlH => z.2.1) c
  have e2 : (fs.map fun p => fnAt K (p.1 K))[i]? = (fs.map fun p => p.2)[i]? := by rw [e]
  rw [List.getElem?_map, List.getElem?_map, h] at e2
  exact Option.some.inj e2
end
theorem run_join {r : PySem.W.OpenRow} {q : Program} {as : List Addr} {ex1 ex2 : PySem.W.Frag → List Bool} {fs1 fs2 : FsH} {ds1 ds2 : DsH} {M : Nat} {loose : List Str} {w : World}
    (h1 : HandSHeadRun.RunEq r q (hookH as ex1 fs1 ds1) (fun s => obsH ex1 fs1 ds1 (He.frG (HandSHeadRun.getT s) as)) M loose w)
    (h2 : HandSHeadRun.RunEq r q (hookH as ex2 fs2 ds2) (fun s => obsH ex2 fs2 ds2 (He.frG (HandSHeadRun.getT s) as)) M loose w) :
    HandSHeadRun.RunEq r q (hookH as (fun K => ex1 K ++ ex2 K) (fs1 ++ fs2) (ds1 ++ ds2)) (fun s => obsH (fun K => ex1 K ++ ex2 K) (fs1 ++ fs2) (ds1 ++ ds2) (He.frG (HandSHeadRun.getT s) as)) M loose w := by
  intro os
  have a := h1 os
  have b := h2 os
  revert a b
  generalize HandSHeadRun.endF _ _ _ _ _ = z
  intro a b
  cases z with
  | none => cases a
  | some s =>
    rw [Option.map_some] at a b ⊢
    injection a with a
    injection b with b
    injection a with a1 a2
    injection a2 with a2 a3
    injection b with b1 b2
    injection b2 with b2 b3
    injection (show (_, _, _) = (_, _, _) from a3) with a31 a32
    injection a32 with a32 a33
    injection (show (_, _, _) = (_, _, _) from b3) with b31 b32
    injection b32 with b32 b33
    show some (_, _, obsH _ _ _ _) = some (_, _, valH _ _ _)
    rw [a1, a2]
    unfold obsH valH
    rw [List.all_append, a31, b31, List.map_append, List.map_append, a32, b32, a33, b33, List.map_append, List.map_append]
    rfl
theorem walk_ofH {l : PySem.W.OpenLaw} {k : Nat} {q : Program} {loose : List Str} {XP : (Str → Option Value) → Heap → Prop} {YP : World → Heap → Prop} {d : DefRec} {x : Str}
    (hn : l.most = some 63) (hdf : d.params.defaults = []) (hr : Room k callerA)
    (F : ∀ (w : World) (mg : Str → Option Value) (fa : Addr) (h : Heap), YP w h → h.Ns mainGlobals mg → mg d.name = some (.ref fa) →
      ∃ (K : PySem.W.Frag) (fd : FuncData) (cs : List (Addr × Addr)) (ts : List (Addr × Str)), K.In h ∧ ts.map (·.1) = cs.map (·.2) ∧ (∀ p ∈ cs, K.lookup p.2 = none ∧ ∃ (y : Str) (e : DefRec), (recsOf q).find? (fun e => e.name == y) = some e ∧ PySem.W.tabIn K y = some p) ∧
        (∀ (s : Shared) (u : Value), BindsTo s fd ⟨[u], []⟩ [(x, u)]) ∧ ∀ base : Heap, K.In base → base.Ns mainGlobals mg → (∀ p ∈ cs, TabB base mg p.1 p.2) → FnG l.prog w K mg base CX0 k fa fd [x] (spLawT K ts)) :
    PySem.W.WalkO q loose XP YP l.row.toRowW d [] (fun f vs => PySem.call f vs) := by
  refine Att.attach_callB hn hdf fun w s0 s1 mg mb fa o pm cd doc a vs ns G Y _ _ _ named script areI many _ bare => ?_
  obtain ⟨K, fd, cs, ts, inK, ets, facts, hb, hF⟩ := F w mg fa _ Y G.T.g named
  have tabs : ∀ p ∈ cs, PySem.W.CodeHd s1.heap p.1 p.2 ∧ s1.heap.get? p.2 = some (PySem.W.tabObj #[]) := fun p hp => by
    obtain ⟨_, y, e, h1, h2⟩ := facts p hp
    exact PySem.W.tab_of G.T inK h1 h2
  refine lawT inK G.T.g G.T.b G.T.builtins G.T.nolimit bare (fun p hp => (tabs p hp).2) (fun p hp => (facts p hp).1) (fun p hp => (tabs p hp).1) G.T.bmain script areI (Nat.le_trans many (by decide)) hr hF hb fun H only seq => ⟨⟨a, ns, rfl, seq, many, fun _ => rfl⟩, fun p hp => ?_, fun b ps e => ?_⟩
  · have : p.1 ∈ cs.map (·.2) := by rw [← ets]; exact List.mem_map_of_mem hp
    obtain ⟨r, hr, e⟩ := List.mem_map.mp this
    rw [← e]; exact only.tab r hr
  · rcases only.only b _ e with ⟨p, hp, rfl⟩ | ⟨_, ob, xs, z⟩
    · have : p.2 ∈ ts.map (·.1) := by rw [ets]; exact List.mem_map_of_mem hp
      obtain ⟨r, hr, e⟩ := List.mem_map.mp this
      exact ⟨r.2, by rw [← e]; exact hr⟩
    · cases z
end Mi
namespace K06
open PySem PySem.Spec PyProof.Rows L2 Mi
def xC_CallError (K : PySem.W.Frag) : Addr := He.ga K "CallError"
def xC_BadParameter (K : PySem.W.Frag) : Addr := He.ga K "BadParameter"
def xC_BadSignature (K : PySem.W.Frag) : Addr := He.ga K "BadSignature"
def xC_NoName (K : PySem.W.Frag) : Addr := He.ga K "NoName"
def xC_BadCall (K : PySem.W.Frag) : Addr := He.ga K "BadCall"
def xC_BadPiece (K : PySem.W.Frag) : Addr := He.ga K "BadPiece"
def xC_Repeated (K : PySem.W.Frag) : Addr := He.ga K "Repeated"
def xC_Refused (K : PySem.W.Frag) : Addr := He.ga K "Refused"
def xC_BadRow (K : PySem.W.Frag) : Addr := He.ga K "BadRow"
def xC_BadCounts (K : PySem.W.Frag) : Addr := He.ga K "BadCounts"
def xC_NothingBinds (K : PySem.W.Frag) : Addr := He.ga K "NothingBinds"
def xC_BadChain (K : PySem.W.Frag) : Addr := He.ga K "BadChain"
def xC_Stopped (K : PySem.W.Frag) : Addr := He.ga K "Stopped"
def xC_BadVariants (K : PySem.W.Frag) : Addr := He.ga K "BadVariants"
def xC_BadVersions (K : PySem.W.Frag) : Addr := He.ga K "BadVersions"
def xC_BadMoves (K : PySem.W.Frag) : Addr := He.ga K "BadMoves"
def xC_Breaks (K : PySem.W.Frag) : Addr := He.ga K "Breaks"
def xC_NoFunction (K : PySem.W.Frag) : Addr := He.ga K "NoFunction"
def xC_NoSite (K : PySem.W.Frag) : Addr := He.ga K "NoSite"
def xC_BadEntry (K : PySem.W.Frag) : Addr := He.ga K "BadEntry"
def xC_BadText (K : PySem.W.Frag) : Addr := He.ga K "BadText"
def xF1 (K : PySem.W.Frag) : Addr := He.ga K "_law_marks"
def xF2 (K : PySem.W.Frag) : Addr := He.ga K "_law_apart"
def xF3 (K : PySem.W.Frag) : Addr := He.ga K "_law_begin"
def xF20 (K : PySem.W.Frag) : Addr := He.ga K "_law_by_position"
def xF21 (K : PySem.W.Frag) : Addr := He.ga K "_law_by_word"
def xF22 (K : PySem.W.Frag) : Addr := He.ga K "_law_fields"
def xF23 (K : PySem.W.Frag) : Addr := He.ga K "_law_draw"
def xF24 (K : PySem.W.Frag) : Addr := He.ga K "_law_pick"
def xF25 (K : PySem.W.Frag) : Addr := He.ga K "law"
def xF4 (K : PySem.W.Frag) : Addr := He.ma K (xC_BadChain K) "__init__"
def xF5 (K : PySem.W.Frag) : Addr := He.ma K (xC_BadEntry K) "__init__"
def xF6 (K : PySem.W.Frag) : Addr := He.ma K (xC_BadMoves K) "__init__"
def xF7 (K : PySem.W.Frag) : Addr := He.ma K (xC_BadPiece K) "__init__"
def xF8 (K : PySem.W.Frag) : Addr := He.ma K (xC_BadRow K) "__init__"
def xF9 (K : PySem.W.Frag) : Addr := He.ma K (xC_BadSignature K) "__init__"
def xF10 (K : PySem.W.Frag) : Addr := He.ma K (xC_BadText K) "__init__"
def xF11 (K : PySem.W.Frag) : Addr := He.ma K (xC_BadVariants K) "__init__"
def xF12 (K : PySem.W.Frag) : Addr := He.ma K (xC_BadVersions K) "__init__"
def xF13 (K : PySem.W.Frag) : Addr := He.ma K (xC_Breaks K) "__init__"
def xF14 (K : PySem.W.Frag) : Addr := He.ma K (xC_NoFunction K) "__init__"
def xF15 (K : PySem.W.Frag) : Addr := He.ma K (xC_NoName K) "__init__"
def xF16 (K : PySem.W.Frag) : Addr := He.ma K (xC_NoSite K) "__init__"
def xF17 (K : PySem.W.Frag) : Addr := He.ma K (xC_Refused K) "__init__"
def xF18 (K : PySem.W.Frag) : Addr := He.ma K (xC_Repeated K) "__init__"
def xF19 (K : PySem.W.Frag) : Addr := He.ma K (xC_Stopped K) "__init__"
def hEx_0 (K : PySem.W.Frag) : List Bool := [He.eqO (PySem.W.nsIn K mainGlobals "CallError") (some (some (.ref (xC_CallError K)))), He.eqO (PySem.W.nsIn K mainGlobals "BadParameter") (some (some (.ref (xC_BadParameter K)))), He.eqO (PySem.W.nsIn K mainGlobals "BadSignature") (some (some (.ref (xC_BadSignature K)))), He.eqO (PySem.W.nsIn K mainGlobals "NoName") (some (some (.ref (xC_NoName K)))), He.eqO (PySem.W.nsIn K mainGlobals "BadCall") (some (some (.ref (xC_BadCall K)))), He.eqO (PySem.W.nsIn K mainGlobals "BadPiece") (some (some (.ref (xC_BadPiece K)))), He.eqO (PySem.W.nsIn K mainGlobals "Repeated") (some (some (.ref (xC_Repeated K)))), He.eqO (PySem.W.nsIn K mainGlobals "Refused") (some (some (.ref (xC_Refused K)))), He.eqO (PySem.W.nsIn K mainGlobals "BadRow") (some (some (.ref (xC_BadRow K)))), He.eqO (PySem.W.nsIn K mainGlobals "BadCounts") (some (some (.ref (xC_BadCounts K)))), He.eqO (PySem.W.nsIn K mainGlobals "NothingBinds") (some (some (.ref (xC_NothingBinds K)))), He.eqO (PySem.W.nsIn K mainGlobals "BadChain") (some (some (.ref (xC_BadChain K)))), He.eqO (PySem.W.nsIn K mainGlobals "Stopped") (some (some (.ref (xC_Stopped K)))), He.eqO (PySem.W.nsIn K mainGlobals "BadVariants") (some (some (.ref (xC_BadVariants K)))), He.eqO (PySem.W.nsIn K mainGlobals "BadVersions") (some (some (.ref (xC_BadVersions K)))), He.eqO (PySem.W.nsIn K mainGlobals "BadMoves") (some (some (.ref (xC_BadMoves K)))), He.eqO (PySem.W.nsIn K mainGlobals "Breaks") (some (some (.ref (xC_Breaks K)))), He.eqO (PySem.W.nsIn K mainGlobals "NoFunction") (some (some (.ref (xC_NoFunction K)))), He.eqO (PySem.W.nsIn K mainGlobals "NoSite") (some (some (.ref (xC_NoSite K)))), He.eqO (PySem.W.nsIn K mainGlobals "BadEntry") (some (some (.ref (xC_BadEntry K)))), He.eqO (PySem.W.nsIn K mainGlobals "BadText") (some (some (.ref (xC_BadText K)))), He.eqO (PySem.W.nsIn K mainGlobals "_law_marks") (some (some (.ref (xF1 K)))), cdB K (xF1 K) "_law_marks", PySem.W.keepIn K (.ref (xF1 K)), He.eqO (PySem.W.nsIn K mainGlobals "_law_apart") (some (some (.ref (xF2 K)))), cdB K (xF2 K) "_law_apart", PySem.W.keepIn K (.ref (xF2 K)), He.eqO (PySem.W.nsIn K mainGlobals "_law_begin") (some (some (.ref (xF3 K)))), cdB K (xF3 K) "_law_begin", PySem.W.keepIn K (.ref (xF3 K)), He.eqO (PySem.W.findIn K (.ref (xC_BadChain K)) "__init__") (some (some (.ref (xF4 K)))), decide (PySem.W.typeIn K (.ref (xF4 K)) = some (.type "function")), cdB K (xF4 K) "BadChain.__init__", PySem.W.keepIn K (.ref (xF4 K)), He.eqO (PySem.W.findIn K (.ref (xC_BadEntry K)) "__init__") (some (some (.ref (xF5 K)))), decide (PySem.W.typeIn K (.ref (xF5 K)) = some (.type "function")), cdB K (xF5 K) "BadEntry.__init__", PySem.W.keepIn K (.ref (xF5 K)), He.eqO (PySem.W.findIn K (.ref (xC_BadMoves K)) "__init__") (some (some (.ref (xF6 K)))), decide (PySem.W.typeIn K (.ref (xF6 K)) = some (.type "function")), cdB K (xF6 K) "BadMoves.__init__", PySem.W.keepIn K (.ref (xF6 K)), He.eqO (PySem.W.findIn K (.ref (xC_BadPiece K)) "__init__") (some (some (.ref (xF7 K)))), decide (PySem.W.typeIn K (.ref (xF7 K)) = some (.type "function")), cdB K (xF7 K) "BadPiece.__init__", PySem.W.keepIn K (.ref (xF7 K)), He.eqO (PySem.W.findIn K (.ref (xC_BadRow K)) "__init__") (some (some (.ref (xF8 K)))), decide (PySem.W.typeIn K (.ref (xF8 K)) = some (.type "function")), cdB K (xF8 K) "BadRow.__init__", PySem.W.keepIn K (.ref (xF8 K)), He.eqO (PySem.W.findIn K (.ref (xC_BadSignature K)) "__init__") (some (some (.ref (xF9 K)))), decide (PySem.W.typeIn K (.ref (xF9 K)) = some (.type "function")), cdB K (xF9 K) "BadSignature.__init__", PySem.W.keepIn K (.ref (xF9 K)), He.eqO (PySem.W.findIn K (.ref (xC_BadText K)) "__init__") (some (some (.ref (xF10 K)))), decide (PySem.W.typeIn K (.ref (xF10 K)) = some (.type "function")), cdB K (xF10 K) "BadText.__init__", PySem.W.keepIn K (.ref (xF10 K)), He.eqO (PySem.W.findIn K (.ref (xC_BadVariants K)) "__init__") (some (some (.ref (xF11 K)))), decide (PySem.W.typeIn K (.ref (xF11 K)) = some (.type "function")), cdB K (xF11 K) "BadVariants.__init__", PySem.W.keepIn K (.ref (xF11 K)), He.eqO (PySem.W.findIn K (.ref (xC_BadVersions K)) "__init__") (some (some (.ref (xF12 K)))), decide (PySem.W.typeIn K (.ref (xF12 K)) = some (.type "function")), cdB K (xF12 K) "BadVersions.__init__", PySem.W.keepIn K (.ref (xF12 K)), He.eqO (PySem.W.findIn K (.ref (xC_Breaks K)) "__init__") (some (some (.ref (xF13 K)))), decide (PySem.W.typeIn K (.ref (xF13 K)) = some (.type "function")), cdB K (xF13 K) "Breaks.__init__", PySem.W.keepIn K (.ref (xF13 K)), He.eqO (PySem.W.findIn K (.ref (xC_NoFunction K)) "__init__") (some (some (.ref (xF14 K)))), decide (PySem.W.typeIn K (.ref (xF14 K)) = some (.type "function")), cdB K (xF14 K) "NoFunction.__init__"]
def hEx_1 (K : PySem.W.Frag) : List Bool := [PySem.W.keepIn K (.ref (xF14 K)), He.eqO (PySem.W.findIn K (.ref (xC_NoName K)) "__init__") (some (some (.ref (xF15 K)))), decide (PySem.W.typeIn K (.ref (xF15 K)) = some (.type "function")), cdB K (xF15 K) "NoName.__init__", PySem.W.keepIn K (.ref (xF15 K)), He.eqO (PySem.W.findIn K (.ref (xC_NoSite K)) "__init__") (some (some (.ref (xF16 K)))), decide (PySem.W.typeIn K (.ref (xF16 K)) = some (.type "function")), cdB K (xF16 K) "NoSite.__init__", PySem.W.keepIn K (.ref (xF16 K)), He.eqO (PySem.W.findIn K (.ref (xC_Refused K)) "__init__") (some (some (.ref (xF17 K)))), decide (PySem.W.typeIn K (.ref (xF17 K)) = some (.type "function")), cdB K (xF17 K) "Refused.__init__", PySem.W.keepIn K (.ref (xF17 K)), He.eqO (PySem.W.findIn K (.ref (xC_Repeated K)) "__init__") (some (some (.ref (xF18 K)))), decide (PySem.W.typeIn K (.ref (xF18 K)) = some (.type "function")), cdB K (xF18 K) "Repeated.__init__", PySem.W.keepIn K (.ref (xF18 K)), He.eqO (PySem.W.findIn K (.ref (xC_Stopped K)) "__init__") (some (some (.ref (xF19 K)))), decide (PySem.W.typeIn K (.ref (xF19 K)) = some (.type "function")), cdB K (xF19 K) "Stopped.__init__", PySem.W.keepIn K (.ref (xF19 K)), He.eqO (PySem.W.nsIn K mainGlobals "_law_by_position") (some (some (.ref (xF20 K)))), cdB K (xF20 K) "_law_by_position", PySem.W.keepIn K (.ref (xF20 K)), He.eqO (PySem.W.nsIn K mainGlobals "_law_by_word") (some (some (.ref (xF21 K)))), cdB K (xF21 K) "_law_by_word", PySem.W.keepIn K (.ref (xF21 K)), He.eqO (PySem.W.nsIn K mainGlobals "_law_fields") (some (some (.ref (xF22 K)))), cdB K (xF22 K) "_law_fields", PySem.W.keepIn K (.ref (xF22 K)), He.eqO (PySem.W.nsIn K mainGlobals "_law_draw") (some (some (.ref (xF23 K)))), cdB K (xF23 K) "_law_draw", PySem.W.keepIn K (.ref (xF23 K)), He.eqO (PySem.W.nsIn K mainGlobals "_law_pick") (some (some (.ref (xF24 K)))), cdB K (xF24 K) "_law_pick", PySem.W.keepIn K (.ref (xF24 K)), He.eqO (PySem.W.nsIn K mainGlobals "law") (some (some (.ref (xF25 K)))), cdB K (xF25 K) "law", PySem.W.keepIn K (.ref (xF25 K)), isfB K [("CallError", (xC_CallError K)), ("BadParameter", (xC_BadParameter K)), ("BadSignature", (xC_BadSignature K)), ("NoName", (xC_NoName K)), ("BadCall", (xC_BadCall K)), ("BadPiece", (xC_BadPiece K)), ("Repeated", (xC_Repeated K)), ("Refused", (xC_Refused K)), ("BadRow", (xC_BadRow K)), ("BadCounts", (xC_BadCounts K)), ("NothingBinds", (xC_NothingBinds K)), ("BadChain", (xC_BadChain K)), ("Stopped", (xC_Stopped K)), ("BadVariants", (xC_BadVariants K)), ("BadVersions", (xC_BadVersions K)), ("BadMoves", (xC_BadMoves K)), ("Breaks", (xC_Breaks K)), ("NoFunction", (xC_NoFunction K)), ("NoSite", (xC_NoSite K)), ("BadEntry", (xC_BadEntry K)), ("BadText", (xC_BadText K))] ["CallError", "BadParameter", "BadSignature", "NoName", "BadCall", "BadPiece", "Repeated", "Refused", "BadRow", "BadCounts", "NothingBinds", "BadChain", "Stopped", "BadVariants", "BadVersions", "BadMoves", "Breaks", "NoFunction", "NoSite", "BadEntry", "BadText"] ["ValueError"], noB K [((xC_BadChain K), "index"), ((xC_BadEntry K), "index"), ((xC_BadMoves K), "index"), ((xC_BadPiece K), "index"), ((xC_BadRow K), "index"), ((xC_BadSignature K), "index"), ((xC_BadText K), "index"), ((xC_BadVariants K), "index"), ((xC_BadVersions K), "index"), ((xC_Breaks K), "numbers"), ((xC_NoFunction K), "name"), ((xC_NoName K), "name"), ((xC_NoSite K), "number"), ((xC_Refused K), "obstruction"), ((xC_Repeated K), "name"), ((xC_Stopped K), "index"), ((xC_Stopped K), "reason")], crB K (xC_CallError K), PySem.W.excIn K (xC_BadParameter K) [.type "ValueError", .type "Exception", .type "BaseException", .type "object"] "ValueError.__new__", PySem.W.keepIn K (.ref (xC_BadParameter K)), decide (PySem.W.subIn K (.ref (xC_BadParameter K)) (.type "BaseException") = some true), decide (PySem.W.typeIn K (.ref (xC_BadParameter K)) = some (.type "type")), oexB K (xC_BadSignature K), He.eqO (PySem.W.findIn K (.ref (xC_BadSignature K)) "__setattr__") (some (some (.builtin "object.__setattr__"))), decide (PySem.W.subIn K (.ref (xC_BadSignature K)) (.type "BaseException") = some true), decide (PySem.W.typeIn K (.ref (xC_BadSignature K)) = some (.type "type")), PySem.W.keepIn K (.ref (xC_BadSignature K)), oexB K (xC_NoName K), He.eqO (PySem.W.findIn K (.ref (xC_NoName K)) "__setattr__") (some (some (.builtin "object.__setattr__"))), decide (PySem.W.subIn K (.ref (xC_NoName K)) (.type "BaseException") = some true), decide (PySem.W.typeIn K (.ref (xC_NoName K)) = some (.type "type")), PySem.W.keepIn K (.ref (xC_NoName K)), PySem.W.excIn K (xC_BadCall K) [.type "ValueError", .type "Exception", .type "BaseException", .type "object"] "ValueError.__new__", PySem.W.keepIn K (.ref (xC_BadCall K)), decide (PySem.W.subIn K (.ref (xC_BadCall K)) (.type "BaseException") = some true), decide (PySem.W.typeIn K (.ref (xC_BadCall K)) = some (.type "type")), oexB K (xC_BadPiece K), He.eqO (PySem.W.findIn K (.ref (xC_BadPiece K)) "__setattr__") (some (some (.builtin "object.__setattr__"))), decide (PySem.W.subIn K (.ref (xC_BadPiece K)) (.type "BaseException") = some true), decide (PySem.W.typeIn K (.ref (xC_BadPiece K)) = some (.type "type")), PySem.W.keepIn K (.ref (xC_BadPiece K)), oexB K (xC_Repeated K), He.eqO (PySem.W.findIn K (.ref (xC_Repeated K)) "__setattr__") (some (some (.builtin "object.__setattr__"))), decide (PySem.W.subIn K (.ref (xC_Repeated K)) (.type "BaseException") = some true), decide (PySem.W.typeIn K (.ref (xC_Repeated K)) = some (.type "type")), PySem.W.keepIn K (.ref (xC_Repeated K)), oexB K (xC_Refused K), He.eqO (PySem.W.findIn K (.ref (xC_Refused K)) "__setattr__") (some (some (.builtin "object.__setattr__"))), decide (PySem.W.subIn K (.ref (xC_Refused K)) (.type "BaseException") = some true)]
def hEx_2 (K : PySem.W.Frag) : List Bool := [decide (PySem.W.typeIn K (.ref (xC_Refused K)) = some (.type "type")), PySem.W.keepIn K (.ref (xC_Refused K)), oexB K (xC_BadRow K), He.eqO (PySem.W.findIn K (.ref (xC_BadRow K)) "__setattr__") (some (some (.builtin "object.__setattr__"))), decide (PySem.W.subIn K (.ref (xC_BadRow K)) (.type "BaseException") = some true), decide (PySem.W.typeIn K (.ref (xC_BadRow K)) = some (.type "type")), PySem.W.keepIn K (.ref (xC_BadRow K)), PySem.W.excIn K (xC_BadCounts K) [.type "ValueError", .type "Exception", .type "BaseException", .type "object"] "ValueError.__new__", PySem.W.keepIn K (.ref (xC_BadCounts K)), decide (PySem.W.subIn K (.ref (xC_BadCounts K)) (.type "BaseException") = some true), decide (PySem.W.typeIn K (.ref (xC_BadCounts K)) = some (.type "type")), PySem.W.excIn K (xC_NothingBinds K) [.type "ValueError", .type "Exception", .type "BaseException", .type "object"] "ValueError.__new__", PySem.W.keepIn K (.ref (xC_NothingBinds K)), decide (PySem.W.subIn K (.ref (xC_NothingBinds K)) (.type "BaseException") = some true), decide (PySem.W.typeIn K (.ref (xC_NothingBinds K)) = some (.type "type")), oexB K (xC_BadChain K), He.eqO (PySem.W.findIn K (.ref (xC_BadChain K)) "__setattr__") (some (some (.builtin "object.__setattr__"))), decide (PySem.W.subIn K (.ref (xC_BadChain K)) (.type "BaseException") = some true), decide (PySem.W.typeIn K (.ref (xC_BadChain K)) = some (.type "type")), PySem.W.keepIn K (.ref (xC_BadChain K)), oexB K (xC_Stopped K), He.eqO (PySem.W.findIn K (.ref (xC_Stopped K)) "__setattr__") (some (some (.builtin "object.__setattr__"))), decide (PySem.W.subIn K (.ref (xC_Stopped K)) (.type "BaseException") = some true), decide (PySem.W.typeIn K (.ref (xC_Stopped K)) = some (.type "type")), PySem.W.keepIn K (.ref (xC_Stopped K)), oexB K (xC_BadVariants K), He.eqO (PySem.W.findIn K (.ref (xC_BadVariants K)) "__setattr__") (some (some (.builtin "object.__setattr__"))), decide (PySem.W.subIn K (.ref (xC_BadVariants K)) (.type "BaseException") = some true), decide (PySem.W.typeIn K (.ref (xC_BadVariants K)) = some (.type "type")), PySem.W.keepIn K (.ref (xC_BadVariants K)), oexB K (xC_BadVersions K), He.eqO (PySem.W.findIn K (.ref (xC_BadVersions K)) "__setattr__") (some (some (.builtin "object.__setattr__"))), decide (PySem.W.subIn K (.ref (xC_BadVersions K)) (.type "BaseException") = some true), decide (PySem.W.typeIn K (.ref (xC_BadVersions K)) = some (.type "type")), PySem.W.keepIn K (.ref (xC_BadVersions K)), oexB K (xC_BadMoves K), He.eqO (PySem.W.findIn K (.ref (xC_BadMoves K)) "__setattr__") (some (some (.builtin "object.__setattr__"))), decide (PySem.W.subIn K (.ref (xC_BadMoves K)) (.type "BaseException") = some true), decide (PySem.W.typeIn K (.ref (xC_BadMoves K)) = some (.type "type")), PySem.W.keepIn K (.ref (xC_BadMoves K)), oexB K (xC_Breaks K), He.eqO (PySem.W.findIn K (.ref (xC_Breaks K)) "__setattr__") (some (some (.builtin "object.__setattr__"))), decide (PySem.W.subIn K (.ref (xC_Breaks K)) (.type "BaseException") = some true), decide (PySem.W.typeIn K (.ref (xC_Breaks K)) = some (.type "type")), PySem.W.keepIn K (.ref (xC_Breaks K)), oexB K (xC_NoFunction K), He.eqO (PySem.W.findIn K (.ref (xC_NoFunction K)) "__setattr__") (some (some (.builtin "object.__setattr__"))), decide (PySem.W.subIn K (.ref (xC_NoFunction K)) (.type "BaseException") = some true), decide (PySem.W.typeIn K (.ref (xC_NoFunction K)) = some (.type "type")), PySem.W.keepIn K (.ref (xC_NoFunction K)), oexB K (xC_NoSite K), He.eqO (PySem.W.findIn K (.ref (xC_NoSite K)) "__setattr__") (some (some (.builtin "object.__setattr__"))), decide (PySem.W.subIn K (.ref (xC_NoSite K)) (.type "BaseException") = some true), decide (PySem.W.typeIn K (.ref (xC_NoSite K)) = some (.type "type")), PySem.W.keepIn K (.ref (xC_NoSite K)), oexB K (xC_BadEntry K), He.eqO (PySem.W.findIn K (.ref (xC_BadEntry K)) "__setattr__") (some (some (.builtin "object.__setattr__"))), decide (PySem.W.subIn K (.ref (xC_BadEntry K)) (.type "BaseException") = some true), decide (PySem.W.typeIn K (.ref (xC_BadEntry K)) = some (.type "type")), PySem.W.keepIn K (.ref (xC_BadEntry K)), oexB K (xC_BadText K), He.eqO (PySem.W.findIn K (.ref (xC_BadText K)) "__setattr__") (some (some (.builtin "object.__setattr__"))), decide (PySem.W.subIn K (.ref (xC_BadText K)) (.type "BaseException") = some true), decide (PySem.W.typeIn K (.ref (xC_BadText K)) = some (.type "type")), PySem.W.keepIn K (.ref (xC_BadText K)), hdV (PySem.W.findCls K (.ref (xC_CallError K)) (.type "type") "__init__") (.builtin "ValueError.__init__"), He.eqO (PySem.W.nsIn K mainGlobals "ValueError") (some none), He.eqO (PySem.W.nsIn K mainGlobals "enumerate") (some none), He.eqO (PySem.W.nsIn K mainGlobals "isinstance") (some none), He.eqO (PySem.W.nsIn K mainGlobals "len") (some none), He.eqO (PySem.W.nsIn K mainGlobals "max") (some none), He.eqO (PySem.W.nsIn K mainGlobals "range") (some none), He.eqO (PySem.W.nsIn K mainGlobals "repr") (some none)]
def hFs_0 : FsH := [(xF1, fnV "_law_marks" "_law_marks" s_Lmarks), (xF2, fnV "_law_apart" "_law_apart" s_Lapart), (xF3, fnV "_law_begin" "_law_begin" s_Lbegin), (xF4, fnV "__init__" "BadChain.__init__" s_BadChain_dinitd), (xF5, fnV "__init__" "BadEntry.__init__" s_BadEntry_dinitd), (xF6, fnV "__init__" "BadMoves.__init__" s_BadMoves_dinitd), (xF7, fnV "__init__" "BadPiece.__init__" s_BadPiece_dinitd), (xF8, fnV "__init__" "BadRow.__init__" s_BadRow_dinitd), (xF9, fnV "__init__" "BadSignature.__init__" s_BadSignature_dinitd)]
def hFs_1 : FsH := [(xF10, fnV "__init__" "BadText.__init__" s_BadText_dinitd), (xF11, fnV "__init__" "BadVariants.__init__" s_BadVariants_dinitd), (xF12, fnV "__init__" "BadVersions.__init__" s_BadVersions_dinitd), (xF13, fnV "__init__" "Breaks.__init__" s_Breaks_dinitd), (xF14, fnV "__init__" "NoFunction.__init__" s_NoFunction_dinitd), (xF15, fnV "__init__" "NoName.__init__" s_NoName_dinitd), (xF16, fnV "__init__" "NoSite.__init__" s_NoSite_dinitd), (xF17, fnV "__init__" "Refused.__init__" s_Refused_dinitd), (xF18, fnV "__init__" "Repeated.__init__" s_Repeated_dinitd)]
def hFs_2 : FsH := [(xF19, fnV "__init__" "Stopped.__init__" s_Stopped_dinitd), (xF20, fnV "_law_by_position" "_law_by_position" s_Lby_position), (xF21, fnV "_law_by_word" "_law_by_word" s_Lby_word), (xF22, fnV "_law_fields" "_law_fields" s_Lfields), (xF23, fnV "_law_draw" "_law_draw" s_Ldraw), (xF24, fnV "_law_pick" "_law_pick" s_Lpick), (xF25, fnV "law" "law" s_law)]
def hDs_0 : DsH := []
def hDs_1 : DsH := []
def hDs_2 : DsH := []
def hEx (K : PySem.W.Frag) : List Bool := (hEx_0 K ++ (hEx_1 K ++ hEx_2 K))
def hFs : FsH := (hFs_0 ++ (hFs_1 ++ hFs_2))
def hDs : DsH := (hDs_0 ++ (hDs_1 ++ hDs_2))
def hNm_0 : List Str := ["CallError", "BadParameter", "BadSignature", "NoName", "BadCall", "BadPiece", "Repeated", "Refused", "BadRow", "BadCounts", "NothingBinds", "BadChain", "Stopped", "BadVariants", "BadVersions", "BadMoves", "Breaks", "NoFunction", "NoSite", "BadEntry", "BadText", "_law_begin", "_law_draw", "_law_pick", "_law_marks"]
def hNm_1 : List Str := ["_law_by_position", "_law_by_word", "_law_fields", "_law_apart"]
def hNm : List Str := hNm_0 ++ hNm_1
def hAs : List Addr := List.range 1500
abbrev hR : PySem.W.OpenRow := PySem.W.OpenLaw.row PySem.Challenge.rw_callstairs_k06_errors_apart
abbrev hHk : PySem.W.Hook := hookH hAs hEx hFs hDs
def hOb (s : PySem.W.SharedT) : AlH := obsH hEx hFs hDs (He.frG (HandSHeadRun.getT s) hAs)
theorem hOb_eq (s : PySem.W.SharedT) : hOb s = hHk.obs s.abs := obsH_eq (HandSHeadRun.getT_eq s)
theorem hRunF_0 (w : World) : HandSHeadRun.RunEq hR (PySem.W.view hR.prog [31]) (hookH hAs hEx_0 hFs_0 hDs_0) (fun s => obsH hEx_0 hFs_0 hDs_0 (He.frG (HandSHeadRun.getT s) hAs)) 9000 hNm (w.withFollow "special-get-raises" false) := by
  intro os
  kernel_rfl
theorem hRunF_1 (w : World) : HandSHeadRun.RunEq hR (PySem.W.view hR.prog [31]) (hookH hAs hEx_1 hFs_1 hDs_1) (fun s => obsH hEx_1 hFs_1 hDs_1 (He.frG (HandSHeadRun.getT s) hAs)) 9000 hNm (w.withFollow "special-get-raises" false) := by
  intro os
  kernel_rfl
theorem hRunF_2 (w : World) : HandSHeadRun.RunEq hR (PySem.W.view hR.prog [31]) (hookH hAs hEx_2 hFs_2 hDs_2) (fun s => obsH hEx_2 hFs_2 hDs_2 (He.frG (HandSHeadRun.getT s) hAs)) 9000 hNm (w.withFollow "special-get-raises" false) := by
  intro os
  kernel_rfl
theorem hRunT_0 (w : World) : HandSHeadRun.RunEq hR (PySem.W.view hR.prog [31]) (hookH hAs hEx_0 hFs_0 hDs_0) (fun s => obsH hEx_0 hFs_0 hDs_0 (He.frG (HandSHeadRun.getT s) hAs)) 9000 hNm (w.withFollow "special-get-raises" true) := by
  intro os
  kernel_rfl
theorem hRunT_1 (w : World) : HandSHeadRun.RunEq hR (PySem.W.view hR.prog [31]) (hookH hAs hEx_1 hFs_1 hDs_1) (fun s => obsH hEx_1 hFs_1 hDs_1 (He.frG (HandSHeadRun.getT s) hAs)) 9000 hNm (w.withFollow "special-get-raises" true) := by
  intro os
  kernel_rfl
theorem hRunT_2 (w : World) : HandSHeadRun.RunEq hR (PySem.W.view hR.prog [31]) (hookH hAs hEx_2 hFs_2 hDs_2) (fun s => obsH hEx_2 hFs_2 hDs_2 (He.frG (HandSHeadRun.getT s) hAs)) 9000 hNm (w.withFollow "special-get-raises" true) := by
  intro os
  kernel_rfl
theorem hRunF (w : World) : HandSHeadRun.RunEq hR (PySem.W.view hR.prog [31]) hHk hOb 9000 hNm (w.withFollow "special-get-raises" false) := (run_join (hRunF_0 w) (run_join (hRunF_1 w) (hRunF_2 w)))
theorem hRunT (w : World) : HandSHeadRun.RunEq hR (PySem.W.view hR.prog [31]) hHk hOb 9000 hNm (w.withFollow "special-get-raises" true) := (run_join (hRunT_0 w) (run_join (hRunT_1 w) (hRunT_2 w)))
theorem hRun (w : World) : HandSHeadRun.RunEq hR (PySem.W.view hR.prog [31]) hHk hOb 9000 hNm w :=
  PySem.W.byRow2 "special-get-raises" (P := fun w => HandSHeadRun.RunEq hR (PySem.W.view hR.prog [31]) hHk hOb 9000 hNm w) hRunF hRunT w
theorem hFacts {l : PySem.W.OpenLaw} {qq : Program} {w : World} {K : PySem.W.Frag} {h : Heap} {mg : Str → Option Value} {fa : Addr} (X : K.In h) (G : h.Ns mainGlobals mg) (hfa : mg "law" = some (.ref fa)) (c : obsH hEx hFs hDs K = valH hFs hDs w) :
    ∃ (fd : FuncData) (cs : List (Addr × Addr)) (ts : List (Addr × Str)), ts.map (·.1) = cs.map (·.2) ∧ (∀ p ∈ cs, K.lookup p.2 = none ∧ ∃ (y : Str) (e : DefRec), (PyProof.Rows.recsOf qq).find? (fun e => e.name == y) = some e ∧ PySem.W.tabIn K y = some p) ∧
      (∀ (s : Shared) (v : Value), BindsTo s fd ⟨[v], []⟩ [("_law_script", v)]) ∧ ∀ base : Heap, K.In base → base.Ns mainGlobals mg → (∀ p ∈ cs, LamX.TabB base mg p.1 p.2) → Cs.FnG l.prog w K mg base CX0 4 fa fd ["_law_script"] (spLawT K ts) := by
  obtain ⟨oc1, od1, sl1, kV1, dc1, pm1, an1, cd1, ct1, lx1, cx1⟩ := fnAt_ok (st := s_Lmarks) (fsH (ex := hEx) (fs := hFs) (ds := hDs) c 0) (exH (ex := hEx) (fs := hFs) (ds := hDs) (b := cdB K (xF1 K) "_law_marks") c 22)
  obtain ⟨oc2, od2, sl2, kV2, dc2, pm2, an2, cd2, ct2, lx2, cx2⟩ := fnAt_ok (st := s_Lapart) (fsH (ex := hEx) (fs := hFs) (ds := hDs) c 1) (exH (ex := hEx) (fs := hFs) (ds := hDs) (b := cdB K (xF2 K) "_law_apart") c 25)
  obtain ⟨oc3, od3, sl3, kV3, dc3, pm3, an3, cd3, ct3, lx3, cx3⟩ := fnAt_ok (st := s_Lbegin) (fsH (ex := hEx) (fs := hFs) (ds := hDs) c 2) (exH (ex := hEx) (fs := hFs) (ds := hDs) (b := cdB K (xF3 K) "_law_begin") c 28)
  obtain ⟨oc4, od4, sl4, kV4, dc4, pm4, an4, cd4, ct4, lx4, cx4⟩ := fnAt_ok (st := s_BadChain_dinitd) (fsH (ex := hEx) (fs := hFs) (ds := hDs) c 3) (exH (ex := hEx) (fs := hFs) (ds := hDs) (b := cdB K (xF4 K) "BadChain.__init__") c 32)
  obtain ⟨oc5, od5, sl5, kV5, dc5, pm5, an5, cd5, ct5, lx5, cx5⟩ := fnAt_ok (st := s_BadEntry_dinitd) (fsH (ex := hEx) (fs := hFs) (ds := hDs) c 4) (exH (ex := hEx) (fs := hFs) (ds := hDs) (b := cdB K (xF5 K) "BadEntry.__init__") c 36)
  obtain ⟨oc6, od6, sl6, kV6, dc6, pm6, an6, cd6, ct6, lx6, cx6⟩ := fnAt_ok (st := s_BadMoves_dinitd) (fsH (ex := hEx) (fs := hFs) (ds := hDs) c 5) (exH (ex := hEx) (fs := hFs) (ds := hDs) (b := cdB K (xF6 K) "BadMoves.__init__") c 40)
  obtain ⟨oc7, od7, sl7, kV7, dc7, pm7, an7, cd7, ct7, lx7, cx7⟩ := fnAt_ok (st := s_BadPiece_dinitd) (fsH (ex := hEx) (fs := hFs) (ds := hDs) c 6) (exH (ex := hEx) (fs := hFs) (ds := hDs) (b := cdB K (xF7 K) "BadPiece.__init__") c 44)
  obtain ⟨oc8, od8, sl8, kV8, dc8, pm8, an8, cd8, ct8, lx8, cx8⟩ := fnAt_ok (st := s_BadRow_dinitd) (fsH (ex := hEx) (fs := hFs) (ds := hDs) c 7) (exH (ex := hEx) (fs := hFs) (ds := hDs) (b := cdB K (xF8 K) "BadRow.__init__") c 48)
  obtain ⟨oc9, od9, sl9, kV9, dc9, pm9, an9, cd9, ct9, lx9, cx9⟩ := fnAt_ok (st := s_BadSignature_dinitd) (fsH (ex := hEx) (fs := hFs) (ds := hDs) c 8) (exH (ex := hEx) (fs := hFs) (ds := hDs) (b := cdB K (xF9 K) "BadSignature.__init__") c 52)
  obtain ⟨oc10, od10, sl10, kV10, dc10, pm10, an10, cd10, ct10, lx10, cx10⟩ := fnAt_ok (st := s_BadText_dinitd) (fsH (ex := hEx) (fs := hFs) (ds := hDs) c 9) (exH (ex := hEx) (fs := hFs) (ds := hDs) (b := cdB K (xF10 K) "BadText.__init__") c 56)
  obtain ⟨oc11, od11, sl11, kV11, dc11, pm11, an11, cd11, ct11, lx11, cx11⟩ := fnAt_ok (st := s_BadVariants_dinitd) (fsH (ex := hEx) (fs := hFs) (ds := hDs) c 10) (exH (ex := hEx) (fs := hFs) (ds := hDs) (b := cdB K (xF11 K) "BadVariants.__init__") c 60)
  obtain ⟨oc12, od12, sl12, kV12, dc12, pm12, an12, cd12, ct12, lx12, cx12⟩ := fnAt_ok (st := s_BadVersions_dinitd) (fsH (ex := hEx) (fs := hFs) (ds := hDs) c 11) (exH (ex := hEx) (fs := hFs) (ds := hDs) (b := cdB K (xF12 K) "BadVersions.__init__") c 64)
  obtain ⟨oc13, od13, sl13, kV13, dc13, pm13, an13, cd13, ct13, lx13, cx13⟩ := fnAt_ok (st := s_Breaks_dinitd) (fsH (ex := hEx) (fs := hFs) (ds := hDs) c 12) (exH (ex := hEx) (fs := hFs) (ds := hDs) (b := cdB K (xF13 K) "Breaks.__init__") c 68)
  obtain ⟨oc14, od14, sl14, kV14, dc14, pm14, an14, cd14, ct14, lx14, cx14⟩ := fnAt_ok (st := s_NoFunction_dinitd) (fsH (ex := hEx) (fs := hFs) (ds := hDs) c 13) (exH (ex := hEx) (fs := hFs) (ds := hDs) (b := cdB K (xF14 K) "NoFunction.__init__") c 72)
  obtain ⟨oc15, od15, sl15, kV15, dc15, pm15, an15, cd15, ct15, lx15, cx15⟩ := fnAt_ok (st := s_NoName_dinitd) (fsH (ex := hEx) (fs := hFs) (ds := hDs) c 14) (exH (ex := hEx) (fs := hFs) (ds := hDs) (b := cdB K (xF15 K) "NoName.__init__") c 76)
  obtain ⟨oc16, od16, sl16, kV16, dc16, pm16, an16, cd16, ct16, lx16, cx16⟩ := fnAt_ok (st := s_NoSite_dinitd) (fsH (ex := hEx) (fs := hFs) (ds := hDs) c 15) (exH (ex := hEx) (fs := hFs) (ds := hDs) (b := cdB K (xF16 K) "NoSite.__init__") c 80)
  obtain ⟨oc17, od17, sl17, kV17, dc17, pm17, an17, cd17, ct17, lx17, cx17⟩ := fnAt_ok (st := s_Refused_dinitd) (fsH (ex := hEx) (fs := hFs) (ds := hDs) c 16) (exH (ex := hEx) (fs := hFs) (ds := hDs) (b := cdB K (xF17 K) "Refused.__init__") c 84)
  obtain ⟨oc18, od18, sl18, kV18, dc18, pm18, an18, cd18, ct18, lx18, cx18⟩ := fnAt_ok (st := s_Repeated_dinitd) (fsH (ex := hEx) (fs := hFs) (ds := hDs) c 17) (exH (ex := hEx) (fs := hFs) (ds := hDs) (b := cdB K (xF18 K) "Repeated.__init__") c 88)
  obtain ⟨oc19, od19, sl19, kV19, dc19, pm19, an19, cd19, ct19, lx19, cx19⟩ := fnAt_ok (st := s_Stopped_dinitd) (fsH (ex := hEx) (fs := hFs) (ds := hDs) c 18) (exH (ex := hEx) (fs := hFs) (ds := hDs) (b := cdB K (xF19 K) "Stopped.__init__") c 92)
  obtain ⟨oc20, od20, sl20, kV20, dc20, pm20, an20, cd20, ct20, lx20, cx20⟩ := fnAt_ok (st := s_Lby_position) (fsH (ex := hEx) (fs := hFs) (ds := hDs) c 19) (exH (ex := hEx) (fs := hFs) (ds := hDs) (b := cdB K (xF20 K) "_law_by_position") c 95)
  obtain ⟨oc21, od21, sl21, kV21, dc21, pm21, an21, cd21, ct21, lx21, cx21⟩ := fnAt_ok (st := s_Lby_word) (fsH (ex := hEx) (fs := hFs) (ds := hDs) c 20) (exH (ex := hEx) (fs := hFs) (ds := hDs) (b := cdB K (xF21 K) "_law_by_word") c 98)
  obtain ⟨oc22, od22, sl22, kV22, dc22, pm22, an22, cd22, ct22, lx22, cx22⟩ := fnAt_ok (st := s_Lfields) (fsH (ex := hEx) (fs := hFs) (ds := hDs) c 21) (exH (ex := hEx) (fs := hFs) (ds := hDs) (b := cdB K (xF22 K) "_law_fields") c 101)
  obtain ⟨oc23, od23, sl23, kV23, dc23, pm23, an23, cd23, ct23, lx23, cx23⟩ := fnAt_ok (st := s_Ldraw) (fsH (ex := hEx) (fs := hFs) (ds := hDs) c 22) (exH (ex := hEx) (fs := hFs) (ds := hDs) (b := cdB K (xF23 K) "_law_draw") c 104)
  obtain ⟨oc24, od24, sl24, kV24, dc24, pm24, an24, cd24, ct24, lx24, cx24⟩ := fnAt_ok (st := s_Lpick) (fsH (ex := hEx) (fs := hFs) (ds := hDs) c 23) (exH (ex := hEx) (fs := hFs) (ds := hDs) (b := cdB K (xF24 K) "_law_pick") c 107)
  obtain ⟨oc25, od25, sl25, kV25, dc25, pm25, an25, cd25, ct25, lx25, cx25⟩ := fnAt_ok (st := s_law) (fsH (ex := hEx) (fs := hFs) (ds := hDs) c 24) (exH (ex := hEx) (fs := hFs) (ds := hDs) (b := cdB K (xF25 K) "law") c 110)
  refine' K06.all_mk K06.law_true X G hfa (a_CallError := ?a_CallError) (a_BadParameter := ?a_BadParameter) (a_BadSignature := ?a_BadSignature) (a_NoName := ?a_NoName) (a_BadCall := ?a_BadCall) (a_BadPiece := ?a_BadPiece) (a_Repeated := ?a_Repeated) (a_Refused := ?a_Refused) (a_BadRow := ?a_BadRow) (a_BadCounts := ?a_BadCounts) (a_NothingBinds := ?a_NothingBinds) (a_BadChain := ?a_BadChain) (a_Stopped := ?a_Stopped) (a_BadVariants := ?a_BadVariants) (a_BadVersions := ?a_BadVersions) (a_BadMoves := ?a_BadMoves) (a_Breaks := ?a_Breaks) (a_NoFunction := ?a_NoFunction) (a_NoSite := ?a_NoSite) (a_BadEntry := ?a_BadEntry) (a_BadText := ?a_BadText) (a1 := ?a1) (l1 := ?l1) (c1 := ?c1) (k1 := ?k1) (a2 := ?a2) (l2 := ?l2) (c2 := ?c2) (k2 := ?k2) (a3 := ?a3) (l3 := ?l3) (c3 := ?c3) (k3 := ?k3) (in4 := ?in4) (ti4 := ?ti4) (l4 := ?l4) (c4 := ?c4) (k4 := ?k4) (in5 := ?in5) (ti5 := ?ti5) (l5 := ?l5) (c5 := ?c5) (k5 := ?k5) (in6 := ?in6) (ti6 := ?ti6) (l6 := ?l6) (c6 := ?c6) (k6 := ?k6) (in7 := ?in7) (ti7 := ?ti7) (l7 := ?l7) (c7 := ?c7) (k7 := ?k7) (in8 := ?in8) (ti8 := ?ti8) (l8 := ?l8) (c8 := ?c8) (k8 := ?k8) (in9 := ?in9) (ti9 := ?ti9) (l9 := ?l9) (c9 := ?c9) (k9 := ?k9) (in10 := ?in10) (ti10 := ?ti10) (l10 := ?l10) (c10 := ?c10) (k10 := ?k10) (in11 := ?in11) (ti11 := ?ti11) (l11 := ?l11) (c11 := ?c11) (k11 := ?k11) (in12 := ?in12) (ti12 := ?ti12) (l12 := ?l12) (c12 := ?c12) (k12 := ?k12) (in13 := ?in13) (ti13 := ?ti13) (l13 := ?l13) (c13 := ?c13) (k13 := ?k13) (in14 := ?in14) (ti14 := ?ti14) (l14 := ?l14) (c14 := ?c14) (k14 := ?k14) (in15 := ?in15) (ti15 := ?ti15) (l15 := ?l15) (c15 := ?c15) (k15 := ?k15) (in16 := ?in16) (ti16 := ?ti16) (l16 := ?l16) (c16 := ?c16) (k16 := ?k16) (in17 := ?in17) (ti17 := ?ti17) (l17 := ?l17) (c17 := ?c17) (k17 := ?k17) (in18 := ?in18) (ti18 := ?ti18) (l18 := ?l18) (c18 := ?c18) (k18 := ?k18) (in19 := ?in19) (ti19 := ?ti19) (l19 := ?l19) (c19 := ?c19) (k19 := ?k19) (a20 := ?a20) (l20 := ?l20) (c20 := ?c20) (k20 := ?k20) (a21 := ?a21) (l21 := ?l21) (c21 := ?c21) (k21 := ?k21) (a22 := ?a22) (l22 := ?l22) (c22 := ?c22) (k22 := ?k22) (a23 := ?a23) (l23 := ?l23) (c23 := ?c23) (k23 := ?k23) (a24 := ?a24) (l24 := ?l24) (c24 := ?c24) (k24 := ?k24) (a25 := ?a25) (l25 := ?l25) (c25 := ?c25) (k25 := ?k25) (xisf := ?xisf) (xno := ?xno) (xcr_CallError := ?xcr_CallError) (x_BadParameter := ?x_BadParameter) (kp_BadParameter := ?kp_BadParameter) (sb_BadParameter := ?sb_BadParameter) (ty_BadParameter := ?ty_BadParameter) (xx_BadSignature := ?xx_BadSignature) (xs_BadSignature := ?xs_BadSignature) (sb_BadSignature := ?sb_BadSignature) (ty_BadSignature := ?ty_BadSignature) (kp_BadSignature := ?kp_BadSignature) (xx_NoName := ?xx_NoName) (xs_NoName := ?xs_NoName) (sb_NoName := ?sb_NoName) (ty_NoName := ?ty_NoName) (kp_NoName := ?kp_NoName) (x_BadCall := ?x_BadCall) (kp_BadCall := ?kp_BadCall) (sb_BadCall := ?sb_BadCall) (ty_BadCall := ?ty_BadCall) (xx_BadPiece := ?xx_BadPiece) (xs_BadPiece := ?xs_BadPiece) (sb_BadPiece := ?sb_BadPiece) (ty_BadPiece := ?ty_BadPiece) (kp_BadPiece := ?kp_BadPiece) (xx_Repeated := ?xx_Repeated) (xs_Repeated := ?xs_Repeated) (sb_Repeated := ?sb_Repeated) (ty_Repeated := ?ty_Repeated) (kp_Repeated := ?kp_Repeated) (xx_Refused := ?xx_Refused) (xs_Refused := ?xs_Refused) (sb_Refused := ?sb_Refused) (ty_Refused := ?ty_Refused) (kp_Refused := ?kp_Refused) (xx_BadRow := ?xx_BadRow) (xs_BadRow := ?xs_BadRow) (sb_BadRow := ?sb_BadRow) (ty_BadRow := ?ty_BadRow) (kp_BadRow := ?kp_BadRow) (x_BadCounts := ?x_BadCounts) (kp_BadCounts := ?kp_BadCounts) (sb_BadCounts := ?sb_BadCounts) (ty_BadCounts := ?ty_BadCounts) (x_NothingBinds := ?x_NothingBinds) (kp_NothingBinds := ?kp_NothingBinds) (sb_NothingBinds := ?sb_NothingBinds) (ty_NothingBinds := ?ty_NothingBinds) (xx_BadChain := ?xx_BadChain) (xs_BadChain := ?xs_BadChain) (sb_BadChain := ?sb_BadChain) (ty_BadChain := ?ty_BadChain) (kp_BadChain := ?kp_BadChain) (xx_Stopped := ?xx_Stopped) (xs_Stopped := ?xs_Stopped) (sb_Stopped := ?sb_Stopped) (ty_Stopped := ?ty_Stopped) (kp_Stopped := ?kp_Stopped) (xx_BadVariants := ?xx_BadVariants) (xs_BadVariants := ?xs_BadVariants) (sb_BadVariants := ?sb_BadVariants) (ty_BadVariants := ?ty_BadVariants) (kp_BadVariants := ?kp_BadVariants) (xx_BadVersions := ?xx_BadVersions) (xs_BadVersions := ?xs_BadVersions) (sb_BadVersions := ?sb_BadVersions) (ty_BadVersions := ?ty_BadVersions) (kp_BadVersions := ?kp_BadVersions) (xx_BadMoves := ?xx_BadMoves) (xs_BadMoves := ?xs_BadMoves) (sb_BadMoves := ?sb_BadMoves) (ty_BadMoves := ?ty_BadMoves) (kp_BadMoves := ?kp_BadMoves) (xx_Breaks := ?xx_Breaks) (xs_Breaks := ?xs_Breaks) (sb_Breaks := ?sb_Breaks) (ty_Breaks := ?ty_Breaks) (kp_Breaks := ?kp_Breaks) (xx_NoFunction := ?xx_NoFunction) (xs_NoFunction := ?xs_NoFunction) (sb_NoFunction := ?sb_NoFunction) (ty_NoFunction := ?ty_NoFunction) (kp_NoFunction := ?kp_NoFunction) (xx_NoSite := ?xx_NoSite) (xs_NoSite := ?xs_NoSite) (sb_NoSite := ?sb_NoSite) (ty_NoSite := ?ty_NoSite) (kp_NoSite := ?kp_NoSite) (xx_BadEntry := ?xx_BadEntry) (xs_BadEntry := ?xs_BadEntry) (sb_BadEntry := ?sb_BadEntry) (ty_BadEntry := ?ty_BadEntry) (kp_BadEntry := ?kp_BadEntry) (xx_BadText := ?xx_BadText) (xs_BadText := ?xs_BadText) (sb_BadText := ?sb_BadText) (ty_BadText := ?ty_BadText) (kp_BadText := ?kp_BadText) (bi := ?bi) (z_ValueError := ?z_ValueError) (z_enumerate := ?z_enumerate) (z_isinstance := ?z_isinstance) (z_len := ?z_len) (z_max := ?z_max) (z_range := ?z_range) (z_repr := ?z_repr)
  (case a_CallError => exact He.eqO_ok (exH (ex := hEx) (fs := hFs) (ds := hDs) (b := He.eqO (PySem.W.nsIn K mainGlobals "CallError") (some (some (.ref (xC_CallError K))))) c 0))
  (case a_BadParameter => exact He.eqO_ok (exH (ex := hEx) (fs := hFs) (ds := hDs) (b := He.eqO (PySem.W.nsIn K mainGlobals "BadParameter") (some (some (.ref (xC_BadParameter K))))) c 1))
  (case a_BadSignature => exact He.eqO_ok (exH (ex := hEx) (fs := hFs) (ds := hDs) (b := He.eqO (PySem.W.nsIn K mainGlobals "BadSignature") (some (some (.ref (xC_BadSignature K))))) c 2))
  (case a_NoName => exact He.eqO_ok (exH (ex := hEx) (fs := hFs) (ds := hDs) (b := He.eqO (PySem.W.nsIn K mainGlobals "NoName") (some (some (.ref (xC_NoName K))))) c 3))
  (case a_BadCall => exact He.eqO_ok (exH (ex := hEx) (fs := hFs) (ds := hDs) (b := He.eqO (PySem.W.nsIn K mainGlobals "BadCall") (some (some (.ref (xC_BadCall K))))) c 4))
  (case a_BadPiece => exact He.eqO_ok (exH (ex := hEx) (fs := hFs) (ds := hDs) (b := He.eqO (PySem.W.nsIn K mainGlobals "BadPiece") (some (some (.ref (xC_BadPiece K))))) c 5))
  (case a_Repeated => exact He.eqO_ok (exH (ex := hEx) (fs := hFs) (ds := hDs) (b := He.eqO (PySem.W.nsIn K mainGlobals "Repeated") (some (some (.ref (xC_Repeated K))))) c 6))
  (case a_Refused => exact He.eqO_ok (exH (ex := hEx) (fs := hFs) (ds := hDs) (b := He.eqO (PySem.W.nsIn K mainGlobals "Refused") (some (some (.ref (xC_Refused K))))) c 7))
  (case a_BadRow => exact He.eqO_ok (exH (ex := hEx) (fs := hFs) (ds := hDs) (b := He.eqO (PySem.W.nsIn K mainGlobals "BadRow") (some (some (.ref (xC_BadRow K))))) c 8))
  (case a_BadCounts => exact He.eqO_ok (exH (ex := hEx) (fs := hFs) (ds := hDs) (b := He.eqO (PySem.W.nsIn K mainGlobals "BadCounts") (some (some (.ref (xC_BadCounts K))))) c 9))
  (case a_NothingBinds => exact He.eqO_ok (exH (ex := hEx) (fs := hFs) (ds := hDs) (b := He.eqO (PySem.W.nsIn K mainGlobals "NothingBinds") (some (some (.ref (xC_NothingBinds K))))) c 10))
  (case a_BadChain => exact He.eqO_ok (exH (ex := hEx) (fs := hFs) (ds := hDs) (b := He.eqO (PySem.W.nsIn K mainGlobals "BadChain") (some (some (.ref (xC_BadChain K))))) c 11))
  (case a_Stopped => exact He.eqO_ok (exH (ex := hEx) (fs := hFs) (ds := hDs) (b := He.eqO (PySem.W.nsIn K mainGlobals "Stopped") (some (some (.ref (xC_Stopped K))))) c 12))
  (case a_BadVariants => exact He.eqO_ok (exH (ex := hEx) (fs := hFs) (ds := hDs) (b := He.eqO (PySem.W.nsIn K mainGlobals "BadVariants") (some (some (.ref (xC_BadVariants K))))) c 13))
  (case a_BadVersions => exact He.eqO_ok (exH (ex := hEx) (fs := hFs) (ds := hDs) (b := He.eqO (PySem.W.nsIn K mainGlobals "BadVersions") (some (some (.ref (xC_BadVersions K))))) c 14))
  (case a_BadMoves => exact He.eqO_ok (exH (ex := hEx) (fs := hFs) (ds := hDs) (b := He.eqO (PySem.W.nsIn K mainGlobals "BadMoves") (some (some (.ref (xC_BadMoves K))))) c 15))
  (case a_Breaks => exact He.eqO_ok (exH (ex := hEx) (fs := hFs) (ds := hDs) (b := He.eqO (PySem.W.nsIn K mainGlobals "Breaks") (some (some (.ref (xC_Breaks K))))) c 16))
  (case a_NoFunction => exact He.eqO_ok (exH (ex := hEx) (fs := hFs) (ds := hDs) (b := He.eqO (PySem.W.nsIn K mainGlobals "NoFunction") (some (some (.ref (xC_NoFunction K))))) c 17))
  (case a_NoSite => exact He.eqO_ok (exH (ex := hEx) (fs := hFs) (ds := hDs) (b := He.eqO (PySem.W.nsIn K mainGlobals "NoSite") (some (some (.ref (xC_NoSite K))))) c 18))
  (case a_BadEntry => exact He.eqO_ok (exH (ex := hEx) (fs := hFs) (ds := hDs) (b := He.eqO (PySem.W.nsIn K mainGlobals "BadEntry") (some (some (.ref (xC_BadEntry K))))) c 19))
  (case a_BadText => exact He.eqO_ok (exH (ex := hEx) (fs := hFs) (ds := hDs) (b := He.eqO (PySem.W.nsIn K mainGlobals "BadText") (some (some (.ref (xC_BadText K))))) c 20))
  (case a1 => exact He.eqO_ok (exH (ex := hEx) (fs := hFs) (ds := hDs) (b := He.eqO (PySem.W.nsIn K mainGlobals "_law_marks") (some (some (.ref (xF1 K))))) c 21))
  (case l1 => exact lx1)
  (case c1 => exact cx1)
  (case k1 => exact (exH (ex := hEx) (fs := hFs) (ds := hDs) (b := PySem.W.keepIn K (.ref (xF1 K))) c 23))
  (case a2 => exact He.eqO_ok (exH (ex := hEx) (fs := hFs) (ds := hDs) (b := He.eqO (PySem.W.nsIn K mainGlobals "_law_apart") (some (some (.ref (xF2 K))))) c 24))
  (case l2 => exact lx2)
  (case c2 => exact cx2)
  (case k2 => exact (exH (ex := hEx) (fs := hFs) (ds := hDs) (b := PySem.W.keepIn K (.ref (xF2 K))) c 26))
  (case a3 => exact He.eqO_ok (exH (ex := hEx) (fs := hFs) (ds := hDs) (b := He.eqO (PySem.W.nsIn K mainGlobals "_law_begin") (some (some (.ref (xF3 K))))) c 27))
  (case l3 => exact lx3)
  (case c3 => exact cx3)
  (case k3 => exact (exH (ex := hEx) (fs := hFs) (ds := hDs) (b := PySem.W.keepIn K (.ref (xF3 K))) c 29))
  (case in4 => exact He.eqO_ok (exH (ex := hEx) (fs := hFs) (ds := hDs) (b := He.eqO (PySem.W.findIn K (.ref (xC_BadChain K)) "__init__") (some (some (.ref (xF4 K))))) c 30))
  (case ti4 => exact of_decide_eq_true (exH (ex := hEx) (fs := hFs) (ds := hDs) (b := decide (PySem.W.typeIn K (.ref (xF4 K)) = some (.type "function"))) c 31))
  (case l4 => exact lx4)
  (case c4 => exact cx4)
  (case k4 => exact (exH (ex := hEx) (fs := hFs) (ds := hDs) (b := PySem.W.keepIn K (.ref (xF4 K))) c 33))
  (case in5 => exact He.eqO_ok (exH (ex := hEx) (fs := hFs) (ds := hDs) (b := He.eqO (PySem.W.findIn K (.ref (xC_BadEntry K)) "__init__") (some (some (.ref (xF5 K))))) c 34))
  (case ti5 => exact of_decide_eq_true (exH (ex := hEx) (fs := hFs) (ds := hDs) (b := decide (PySem.W.typeIn K (.ref (xF5 K)) = some (.type "function"))) c 35))
  (case l5 => exact lx5)
  (case c5 => exact cx5)
  (case k5 => exact (exH (ex := hEx) (fs := hFs) (ds := hDs) (b := PySem.W.keepIn K (.ref (xF5 K))) c 37))
  (case in6 => exact He.eqO_ok (exH (ex := hEx) (fs := hFs) (ds := hDs) (b := He.eqO (PySem.W.findIn K (.ref (xC_BadMoves K)) "__init__") (some (some (.ref (xF6 K))))) c 38))
  (case ti6 => exact of_decide_eq_true (exH (ex := hEx) (fs := hFs) (ds := hDs) (b := decide (PySem.W.typeIn K (.ref (xF6 K)) = some (.type "function"))) c 39))
  (case l6 => exact lx6)
  (case c6 => exact cx6)
  (case k6 => exact (exH (ex := hEx) (fs := hFs) (ds := hDs) (b := PySem.W.keepIn K (.ref (xF6 K))) c 41))
  (case in7 => exact He.eqO_ok (exH (ex := hEx) (fs := hFs) (ds := hDs) (b := He.eqO (PySem.W.findIn K (.ref (xC_BadPiece K)) "__init__") (some (some (.ref (xF7 K))))) c 42))
  (case ti7 => exact of_decide_eq_true (exH (ex := hEx) (fs := hFs) (ds := hDs) (b := decide (PySem.W.typeIn K (.ref (xF7 K)) = some (.type "function"))) c 43))
  (case l7 => exact lx7)
  (case c7 => exact cx7)
  (case k7 => exact (exH (ex := hEx) (fs := hFs) (ds := hDs) (b := PySem.W.keepIn K (.ref (xF7 K))) c 45))
  (case in8 => exact He.eqO_ok (exH (ex := hEx) (fs := hFs) (ds := hDs) (b := He.eqO (PySem.W.findIn K (.ref (xC_BadRow K)) "__init__") (some (some (.ref (xF8 K))))) c 46))
  (case ti8 => exact of_decide_eq_true (exH (ex := hEx) (fs := hFs) (ds := hDs) (b := decide (PySem.W.typeIn K (.ref (xF8 K)) = some (.type "function"))) c 47))
  (case l8 => exact lx8)
  (case c8 => exact cx8)
  (case k8 => exact (exH (ex := hEx) (fs := hFs) (ds := hDs) (b := PySem.W.keepIn K (.ref (xF8 K))) c 49))
  (case in9 => exact He.eqO_ok (exH (ex := hEx) (fs := hFs) (ds := hDs) (b := He.eqO (PySem.W.findIn K (.ref (xC_BadSignature K)) "__init__") (some (some (.ref (xF9 K))))) c 50))
  (case ti9 => exact of_decide_eq_true (exH (ex := hEx) (fs := hFs) (ds := hDs) (b := decide (PySem.W.typeIn K (.ref (xF9 K)) = some (.type "function"))) c 51))
  (case l9 => exact lx9)
  (case c9 => exact cx9)
  (case k9 => exact (exH (ex := hEx) (fs := hFs) (ds := hDs) (b := PySem.W.keepIn K (.ref (xF9 K))) c 53))
  (case in10 => exact He.eqO_ok (exH (ex := hEx) (fs := hFs) (ds := hDs) (b := He.eqO (PySem.W.findIn K (.ref (xC_BadText K)) "__init__") (some (some (.ref (xF10 K))))) c 54))
  (case ti10 => exact of_decide_eq_true (exH (ex := hEx) (fs := hFs) (ds := hDs) (b := decide (PySem.W.typeIn K (.ref (xF10 K)) = some (.type "function"))) c 55))
  (case l10 => exact lx10)
  (case c10 => exact cx10)
  (case k10 => exact (exH (ex := hEx) (fs := hFs) (ds := hDs) (b := PySem.W.keepIn K (.ref (xF10 K))) c 57))
  (case in11 => exact He.eqO_ok (exH (ex := hEx) (fs := hFs) (ds := hDs) (b := He.eqO (PySem.W.findIn K (.ref (xC_BadVariants K)) "__init__") (some (some (.ref (xF11 K))))) c 58))
  (case ti11 => exact of_decide_eq_true (exH (ex := hEx) (fs := hFs) (ds := hDs) (b := decide (PySem.W.typeIn K (.ref (xF11 K)) = some (.type "function"))) c 59))
  (case l11 => exact lx11)
  (case c11 => exact cx11)
  (case k11 => exact (exH (ex := hEx) (fs := hFs) (ds := hDs) (b := PySem.W.keepIn K (.ref (xF11 K))) c 61))
  (case in12 => exact He.eqO_ok (exH (ex := hEx) (fs := hFs) (ds := hDs) (b := He.eqO (PySem.W.findIn K (.ref (xC_BadVersions K)) "__init__") (some (some (.ref (xF12 K))))) c 62))
  (case ti12 => exact of_decide_eq_true (exH (ex := hEx) (fs := hFs) (ds := hDs) (b := decide (PySem.W.typeIn K (.ref (xF12 K)) = some (.type "function"))) c 63))
  (case l12 => exact lx12)
  (case c12 => exact cx12)
  (case k12 => exact (exH (ex := hEx) (fs := hFs) (ds := hDs) (b := PySem.W.keepIn K (.ref (xF12 K))) c 65))
  (case in13 => exact He.eqO_ok (exH (ex := hEx) (fs := hFs) (ds := hDs) (b := He.eqO (PySem.W.findIn K (.ref (xC_Breaks K)) "__init__") (some (some (.ref (xF13 K))))) c 66))
  (case ti13 => exact of_decide_eq_true (exH (ex := hEx) (fs := hFs) (ds := hDs) (b := decide (PySem.W.typeIn K (.ref (xF13 K)) = some (.type "function"))) c 67))
  (case l13 => exact lx13)
  (case c13 => exact cx13)
  (case k13 => exact (exH (ex := hEx) (fs := hFs) (ds := hDs) (b := PySem.W.keepIn K (.ref (xF13 K))) c 69))
  (case in14 => exact He.eqO_ok (exH (ex := hEx) (fs := hFs) (ds := hDs) (b := He.eqO (PySem.W.findIn K (.ref (xC_NoFunction K)) "__init__") (some (some (.ref (xF14 K))))) c 70))
  (case ti14 => exact of_decide_eq_true (exH (ex := hEx) (fs := hFs) (ds := hDs) (b := decide (PySem.W.typeIn K (.ref (xF14 K)) = some (.type "function"))) c 71))
  (case l14 => exact lx14)
  (case c14 => exact cx14)
  (case k14 => exact (exH (ex := hEx) (fs := hFs) (ds := hDs) (b := PySem.W.keepIn K (.ref (xF14 K))) c 73))
  (case in15 => exact He.eqO_ok (exH (ex := hEx) (fs := hFs) (ds := hDs) (b := He.eqO (PySem.W.findIn K (.ref (xC_NoName K)) "__init__") (some (some (.ref (xF15 K))))) c 74))
  (case ti15 => exact of_decide_eq_true (exH (ex := hEx) (fs := hFs) (ds := hDs) (b := decide (PySem.W.typeIn K (.ref (xF15 K)) = some (.type "function"))) c 75))
  (case l15 => exact lx15)
  (case c15 => exact cx15)
  (case k15 => exact (exH (ex := hEx) (fs := hFs) (ds := hDs) (b := PySem.W.keepIn K (.ref (xF15 K))) c 77))
  (case in16 => exact He.eqO_ok (exH (ex := hEx) (fs := hFs) (ds := hDs) (b := He.eqO (PySem.W.findIn K (.ref (xC_NoSite K)) "__init__") (some (some (.ref (xF16 K))))) c 78))
  (case ti16 => exact of_decide_eq_true (exH (ex := hEx) (fs := hFs) (ds := hDs) (b := decide (PySem.W.typeIn K (.ref (xF16 K)) = some (.type "function"))) c 79))
  (case l16 => exact lx16)
  (case c16 => exact cx16)
  (case k16 => exact (exH (ex := hEx) (fs := hFs) (ds := hDs) (b := PySem.W.keepIn K (.ref (xF16 K))) c 81))
  (case in17 => exact He.eqO_ok (exH (ex := hEx) (fs := hFs) (ds := hDs) (b := He.eqO (PySem.W.findIn K (.ref (xC_Refused K)) "__init__") (some (some (.ref (xF17 K))))) c 82))
  (case ti17 => exact of_decide_eq_true (exH (ex := hEx) (fs := hFs) (ds := hDs) (b := decide (PySem.W.typeIn K (.ref (xF17 K)) = some (.type "function"))) c 83))
  (case l17 => exact lx17)
  (case c17 => exact cx17)
  (case k17 => exact (exH (ex := hEx) (fs := hFs) (ds := hDs) (b := PySem.W.keepIn K (.ref (xF17 K))) c 85))
  (case in18 => exact He.eqO_ok (exH (ex := hEx) (fs := hFs) (ds := hDs) (b := He.eqO (PySem.W.findIn K (.ref (xC_Repeated K)) "__init__") (some (some (.ref (xF18 K))))) c 86))
  (case ti18 => exact of_decide_eq_true (exH (ex := hEx) (fs := hFs) (ds := hDs) (b := decide (PySem.W.typeIn K (.ref (xF18 K)) = some (.type "function"))) c 87))
  (case l18 => exact lx18)
  (case c18 => exact cx18)
  (case k18 => exact (exH (ex := hEx) (fs := hFs) (ds := hDs) (b := PySem.W.keepIn K (.ref (xF18 K))) c 89))
  (case in19 => exact He.eqO_ok (exH (ex := hEx) (fs := hFs) (ds := hDs) (b := He.eqO (PySem.W.findIn K (.ref (xC_Stopped K)) "__init__") (some (some (.ref (xF19 K))))) c 90))
  (case ti19 => exact of_decide_eq_true (exH (ex := hEx) (fs := hFs) (ds := hDs) (b := decide (PySem.W.typeIn K (.ref (xF19 K)) = some (.type "function"))) c 91))
  (case l19 => exact lx19)
  (case c19 => exact cx19)
  (case k19 => exact (exH (ex := hEx) (fs := hFs) (ds := hDs) (b := PySem.W.keepIn K (.ref (xF19 K))) c 93))
  (case a20 => exact He.eqO_ok (exH (ex := hEx) (fs := hFs) (ds := hDs) (b := He.eqO (PySem.W.nsIn K mainGlobals "_law_by_position") (some (some (.ref (xF20 K))))) c 94))
  (case l20 => exact lx20)
  (case c20 => exact cx20)
  (case k20 => exact (exH (ex := hEx) (fs := hFs) (ds := hDs) (b := PySem.W.keepIn K (.ref (xF20 K))) c 96))
  (case a21 => exact He.eqO_ok (exH (ex := hEx) (fs := hFs) (ds := hDs) (b := He.eqO (PySem.W.nsIn K mainGlobals "_law_by_word") (some (some (.ref (xF21 K))))) c 97))
  (case l21 => exact lx21)
  (case c21 => exact cx21)
  (case k21 => exact (exH (ex := hEx) (fs := hFs) (ds := hDs) (b := PySem.W.keepIn K (.ref (xF21 K))) c 99))
  (case a22 => exact He.eqO_ok (exH (ex := hEx) (fs := hFs) (ds := hDs) (b := He.eqO (PySem.W.nsIn K mainGlobals "_law_fields") (some (some (.ref (xF22 K))))) c 100))
  (case l22 => exact lx22)
  (case c22 => exact cx22)
  (case k22 => exact (exH (ex := hEx) (fs := hFs) (ds := hDs) (b := PySem.W.keepIn K (.ref (xF22 K))) c 102))
  (case a23 => exact He.eqO_ok (exH (ex := hEx) (fs := hFs) (ds := hDs) (b := He.eqO (PySem.W.nsIn K mainGlobals "_law_draw") (some (some (.ref (xF23 K))))) c 103))
  (case l23 => exact lx23)
  (case c23 => exact cx23)
  (case k23 => exact (exH (ex := hEx) (fs := hFs) (ds := hDs) (b := PySem.W.keepIn K (.ref (xF23 K))) c 105))
  (case a24 => exact He.eqO_ok (exH (ex := hEx) (fs := hFs) (ds := hDs) (b := He.eqO (PySem.W.nsIn K mainGlobals "_law_pick") (some (some (.ref (xF24 K))))) c 106))
  (case l24 => exact lx24)
  (case c24 => exact cx24)
  (case k24 => exact (exH (ex := hEx) (fs := hFs) (ds := hDs) (b := PySem.W.keepIn K (.ref (xF24 K))) c 108))
  (case a25 => exact He.eqO_ok (exH (ex := hEx) (fs := hFs) (ds := hDs) (b := He.eqO (PySem.W.nsIn K mainGlobals "law") (some (some (.ref (xF25 K))))) c 109))
  (case l25 => exact lx25)
  (case c25 => exact cx25)
  (case k25 => exact (exH (ex := hEx) (fs := hFs) (ds := hDs) (b := PySem.W.keepIn K (.ref (xF25 K))) c 111))
  (case xisf => exact (exH (ex := hEx) (fs := hFs) (ds := hDs) (b := isfB K [("CallError", (xC_CallError K)), ("BadParameter", (xC_BadParameter K)), ("BadSignature", (xC_BadSignature K)), ("NoName", (xC_NoName K)), ("BadCall", (xC_BadCall K)), ("BadPiece", (xC_BadPiece K)), ("Repeated", (xC_Repeated K)), ("Refused", (xC_Refused K)), ("BadRow", (xC_BadRow K)), ("BadCounts", (xC_BadCounts K)), ("NothingBinds", (xC_NothingBinds K)), ("BadChain", (xC_BadChain K)), ("Stopped", (xC_Stopped K)), ("BadVariants", (xC_BadVariants K)), ("BadVersions", (xC_BadVersions K)), ("BadMoves", (xC_BadMoves K)), ("Breaks", (xC_Breaks K)), ("NoFunction", (xC_NoFunction K)), ("NoSite", (xC_NoSite K)), ("BadEntry", (xC_BadEntry K)), ("BadText", (xC_BadText K))] ["CallError", "BadParameter", "BadSignature", "NoName", "BadCall", "BadPiece", "Repeated", "Refused", "BadRow", "BadCounts", "NothingBinds", "BadChain", "Stopped", "BadVariants", "BadVersions", "BadMoves", "Breaks", "NoFunction", "NoSite", "BadEntry", "BadText"] ["ValueError"]) c 112))
  (case xno => exact (exH (ex := hEx) (fs := hFs) (ds := hDs) (b := noB K [((xC_BadChain K), "index"), ((xC_BadEntry K), "index"), ((xC_BadMoves K), "index"), ((xC_BadPiece K), "index"), ((xC_BadRow K), "index"), ((xC_BadSignature K), "index"), ((xC_BadText K), "index"), ((xC_BadVariants K), "index"), ((xC_BadVersions K), "index"), ((xC_Breaks K), "numbers"), ((xC_NoFunction K), "name"), ((xC_NoName K), "name"), ((xC_NoSite K), "number"), ((xC_Refused K), "obstruction"), ((xC_Repeated K), "name"), ((xC_Stopped K), "index"), ((xC_Stopped K), "reason")]) c 113))
  (case xcr_CallError => exact (exH (ex := hEx) (fs := hFs) (ds := hDs) (b := crB K (xC_CallError K)) c 114))
  (case x_BadParameter => exact (exH (ex := hEx) (fs := hFs) (ds := hDs) (b := PySem.W.excIn K (xC_BadParameter K) [.type "ValueError", .type "Exception", .type "BaseException", .type "object"] "ValueError.__new__") c 115))
  (case kp_BadParameter => exact (exH (ex := hEx) (fs := hFs) (ds := hDs) (b := PySem.W.keepIn K (.ref (xC_BadParameter K))) c 116))
  (case sb_BadParameter => exact of_decide_eq_true (exH (ex := hEx) (fs := hFs) (ds := hDs) (b := decide (PySem.W.subIn K (.ref (xC_BadParameter K)) (.type "BaseException") = some true)) c 117))
  (case ty_BadParameter => exact of_decide_eq_true (exH (ex := hEx) (fs := hFs) (ds := hDs) (b := decide (PySem.W.typeIn K (.ref (xC_BadParameter K)) = some (.type "type"))) c 118))
  (case xx_BadSignature => exact oexB_ok (exH (ex := hEx) (fs := hFs) (ds := hDs) (b := oexB K (xC_BadSignature K)) c 119))
  (case xs_BadSignature => exact He.eqO_ok (exH (ex := hEx) (fs := hFs) (ds := hDs) (b := He.eqO (PySem.W.findIn K (.ref (xC_BadSignature K)) "__setattr__") (some (some (.builtin "object.__setattr__")))) c 120))
  (case sb_BadSignature => exact of_decide_eq_true (exH (ex := hEx) (fs := hFs) (ds := hDs) (b := decide (PySem.W.subIn K (.ref (xC_BadSignature K)) (.type "BaseException") = some true)) c 121))
  (case ty_BadSignature => exact of_decide_eq_true (exH (ex := hEx) (fs := hFs) (ds := hDs) (b := decide (PySem.W.typeIn K (.ref (xC_BadSignature K)) = some (.type "type"))) c 122))
  (case kp_BadSignature => exact (exH (ex := hEx) (fs := hFs) (ds := hDs) (b := PySem.W.keepIn K (.ref (xC_BadSignature K))) c 123))
  (case xx_NoName => exact oexB_ok (exH (ex := hEx) (fs := hFs) (ds := hDs) (b := oexB K (xC_NoName K)) c 124))
  (case xs_NoName => exact He.eqO_ok (exH (ex := hEx) (fs := hFs) (ds := hDs) (b := He.eqO (PySem.W.findIn K (.ref (xC_NoName K)) "__setattr__") (some (some (.builtin "object.__setattr__")))) c 125))
  (case sb_NoName => exact of_decide_eq_true (exH (ex := hEx) (fs := hFs) (ds := hDs) (b := decide (PySem.W.subIn K (.ref (xC_NoName K)) (.type "BaseException") = some true)) c 126))
  (case ty_NoName => exact of_decide_eq_true (exH (ex := hEx) (fs := hFs) (ds := hDs) (b := decide (PySem.W.typeIn K (.ref (xC_NoName K)) = some (.type "type"))) c 127))
  (case kp_NoName => exact (exH (ex := hEx) (fs := hFs) (ds := hDs) (b := PySem.W.keepIn K (.ref (xC_NoName K))) c 128))
  (case x_BadCall => exact (exH (ex := hEx) (fs := hFs) (ds := hDs) (b := PySem.W.excIn K (xC_BadCall K) [.type "ValueError", .type "Exception", .type "BaseException", .type "object"] "ValueError.__new__") c 129))
  (case kp_BadCall => exact (exH (ex := hEx) (fs := hFs) (ds := hDs) (b := PySem.W.keepIn K (.ref (xC_BadCall K))) c 130))
  (case sb_BadCall => exact of_decide_eq_true (exH (ex := hEx) (fs := hFs) (ds := hDs) (b := decide (PySem.W.subIn K (.ref (xC_BadCall K)) (.type "BaseException") = some true)) c 131))
  (case ty_BadCall => exact of_decide_eq_true (exH (ex := hEx) (fs := hFs) (ds := hDs) (b := decide (PySem.W.typeIn K (.ref (xC_BadCall K)) = some (.type "type"))) c 132))
  (case xx_BadPiece => exact oexB_ok (exH (ex := hEx) (fs := hFs) (ds := hDs) (b := oexB K (xC_BadPiece K)) c 133))
  (case xs_BadPiece => exact He.eqO_ok (exH (ex := hEx) (fs := hFs) (ds := hDs) (b := He.eqO (PySem.W.findIn K (.ref (xC_BadPiece K)) "__setattr__") (some (some (.builtin "object.__setattr__")))) c 134))
  (case sb_BadPiece => exact of_decide_eq_true (exH (ex := hEx) (fs := hFs) (ds := hDs) (b := decide (PySem.W.subIn K (.ref (xC_BadPiece K)) (.type "BaseException") = some true)) c 135))
  (case ty_BadPiece => exact of_decide_eq_true (exH (ex := hEx) (fs := hFs) (ds := hDs) (b := decide (PySem.W.typeIn K (.ref (xC_BadPiece K)) = some (.type "type"))) c 136))
  (case kp_BadPiece => exact (exH (ex := hEx) (fs := hFs) (ds := hDs) (b := PySem.W.keepIn K (.ref (xC_BadPiece K))) c 137))
  (case xx_Repeated => exact oexB_ok (exH (ex := hEx) (fs := hFs) (ds := hDs) (b := oexB K (xC_Repeated K)) c 138))
  (case xs_Repeated => exact He.eqO_ok (exH (ex := hEx) (fs := hFs) (ds := hDs) (b := He.eqO (PySem.W.findIn K (.ref (xC_Repeated K)) "__setattr__") (some (some (.builtin "object.__setattr__")))) c 139))
  (case sb_Repeated => exact of_decide_eq_true (exH (ex := hEx) (fs := hFs) (ds := hDs) (b := decide (PySem.W.subIn K (.ref (xC_Repeated K)) (.type "BaseException") = some true)) c 140))
  (case ty_Repeated => exact of_decide_eq_true (exH (ex := hEx) (fs := hFs) (ds := hDs) (b := decide (PySem.W.typeIn K (.ref (xC_Repeated K)) = some (.type "type"))) c 141))
  (case kp_Repeated => exact (exH (ex := hEx) (fs := hFs) (ds := hDs) (b := PySem.W.keepIn K (.ref (xC_Repeated K))) c 142))
  (case xx_Refused => exact oexB_ok (exH (ex := hEx) (fs := hFs) (ds := hDs) (b := oexB K (xC_Refused K)) c 143))
  (case xs_Refused => exact He.eqO_ok (exH (ex := hEx) (fs := hFs) (ds := hDs) (b := He.eqO (PySem.W.findIn K (.ref (xC_Refused K)) "__setattr__") (some (some (.builtin "object.__setattr__")))) c 144))
  (case sb_Refused => exact of_decide_eq_true (exH (ex := hEx) (fs := hFs) (ds := hDs) (b := decide (PySem.W.subIn K (.ref (xC_Refused K)) (.type "BaseException") = some true)) c 145))
  (case ty_Refused => exact of_decide_eq_true (exH (ex := hEx) (fs := hFs) (ds := hDs) (b := decide (PySem.W.typeIn K (.ref (xC_Refused K)) = some (.type "type"))) c 146))
  (case kp_Refused => exact (exH (ex := hEx) (fs := hFs) (ds := hDs) (b := PySem.W.keepIn K (.ref (xC_Refused K))) c 147))
  (case xx_BadRow => exact oexB_ok (exH (ex := hEx) (fs := hFs) (ds := hDs) (b := oexB K (xC_BadRow K)) c 148))
  (case xs_BadRow => exact He.eqO_ok (exH (ex := hEx) (fs := hFs) (ds := hDs) (b := He.eqO (PySem.W.findIn K (.ref (xC_BadRow K)) "__setattr__") (some (some (.builtin "object.__setattr__")))) c 149))
  (case sb_BadRow => exact of_decide_eq_true (exH (ex := hEx) (fs := hFs) (ds := hDs) (b := decide (PySem.W.subIn K (.ref (xC_BadRow K)) (.type "BaseException") = some true)) c 150))
  (case ty_BadRow => exact of_decide_eq_true (exH (ex := hEx) (fs := hFs) (ds := hDs) (b := decide (PySem.W.typeIn K (.ref (xC_BadRow K)) = some (.type "type"))) c 151))
  (case kp_BadRow => exact (exH (ex := hEx) (fs := hFs) (ds := hDs) (b := PySem.W.keepIn K (.ref (xC_BadRow K))) c 152))
  (case x_BadCounts => exact (exH (ex := hEx) (fs := hFs) (ds := hDs) (b := PySem.W.excIn K (xC_BadCounts K) [.type "ValueError", .type "Exception", .type "BaseException", .type "object"] "ValueError.__new__") c 153))
  (case kp_BadCounts => exact (exH (ex := hEx) (fs := hFs) (ds := hDs) (b := PySem.W.keepIn K (.ref (xC_BadCounts K))) c 154))
  (case sb_BadCounts => exact of_decide_eq_true (exH (ex := hEx) (fs := hFs) (ds := hDs) (b := decide (PySem.W.subIn K (.ref (xC_BadCounts K)) (.type "BaseException") = some true)) c 155))
  (case ty_BadCounts => exact of_decide_eq_true (exH (ex := hEx) (fs := hFs) (ds := hDs) (b := decide (PySem.W.typeIn K (.ref (xC_BadCounts K)) = some (.type "type"))) c 156))
  (case x_NothingBinds => exact (exH (ex := hEx) (fs := hFs) (ds := hDs) (b := PySem.W.excIn K (xC_NothingBinds K) [.type "ValueError", .type "Exception", .type "BaseException", .type "object"] "ValueError.__new__") c 157))
  (case kp_NothingBinds => exact (exH (ex := hEx) (fs := hFs) (ds := hDs) (b := PySem.W.keepIn K (.ref (xC_NothingBinds K))) c 158))
  (case sb_NothingBinds => exact of_decide_eq_true (exH (ex := hEx) (fs := hFs) (ds := hDs) (b := decide (PySem.W.subIn K (.ref (xC_NothingBinds K)) (.type "BaseException") = some true)) c 159))
  (case ty_NothingBinds => exact of_decide_eq_true (exH (ex := hEx) (fs := hFs) (ds := hDs) (b := decide (PySem.W.typeIn K (.ref (xC_NothingBinds K)) = some (.type "type"))) c 160))
  (case xx_BadChain => exact oexB_ok (exH (ex := hEx) (fs := hFs) (ds := hDs) (b := oexB K (xC_BadChain K)) c 161))
  (case xs_BadChain => exact He.eqO_ok (exH (ex := hEx) (fs := hFs) (ds := hDs) (b := He.eqO (PySem.W.findIn K (.ref (xC_BadChain K)) "__setattr__") (some (some (.builtin "object.__setattr__")))) c 162))
  (case sb_BadChain => exact of_decide_eq_true (exH (ex := hEx) (fs := hFs) (ds := hDs) (b := decide (PySem.W.subIn K (.ref (xC_BadChain K)) (.type "BaseException") = some true)) c 163))
  (case ty_BadChain => exact of_decide_eq_true (exH (ex := hEx) (fs := hFs) (ds := hDs) (b := decide (PySem.W.typeIn K (.ref (xC_BadChain K)) = some (.type "type"))) c 164))
  (case kp_BadChain => exact (exH (ex := hEx) (fs := hFs) (ds := hDs) (b := PySem.W.keepIn K (.ref (xC_BadChain K))) c 165))
  (case xx_Stopped => exact oexB_ok (exH (ex := hEx) (fs := hFs) (ds := hDs) (b := oexB K (xC_Stopped K)) c 166))
  (case xs_Stopped => exact He.eqO_ok (exH (ex := hEx) (fs := hFs) (ds := hDs) (b := He.eqO (PySem.W.findIn K (.ref (xC_Stopped K)) "__setattr__") (some (some (.builtin "object.__setattr__")))) c 167))
  (case sb_Stopped => exact of_decide_eq_true (exH (ex := hEx) (fs := hFs) (ds := hDs) (b := decide (PySem.W.subIn K (.ref (xC_Stopped K)) (.type "BaseException") = some true)) c 168))
  (case ty_Stopped => exact of_decide_eq_true (exH (ex := hEx) (fs := hFs) (ds := hDs) (b := decide (PySem.W.typeIn K (.ref (xC_Stopped K)) = some (.type "type"))) c 169))
  (case kp_Stopped => exact (exH (ex := hEx) (fs := hFs) (ds := hDs) (b := PySem.W.keepIn K (.ref (xC_Stopped K))) c 170))
  (case xx_BadVariants => exact oexB_ok (exH (ex := hEx) (fs := hFs) (ds := hDs) (b := oexB K (xC_BadVariants K)) c 171))
  (case xs_BadVariants => exact He.eqO_ok (exH (ex := hEx) (fs := hFs) (ds := hDs) (b := He.eqO (PySem.W.findIn K (.ref (xC_BadVariants K)) "__setattr__") (some (some (.builtin "object.__setattr__")))) c 172))
  (case sb_BadVariants => exact of_decide_eq_true (exH (ex := hEx) (fs := hFs) (ds := hDs) (b := decide (PySem.W.subIn K (.ref (xC_BadVariants K)) (.type "BaseException") = some true)) c 173))
  (case ty_BadVariants => exact of_decide_eq_true (exH (ex := hEx) (fs := hFs) (ds := hDs) (b := decide (PySem.W.typeIn K (.ref (xC_BadVariants K)) = some (.type "type"))) c 174))
  (case kp_BadVariants => exact (exH (ex := hEx) (fs := hFs) (ds := hDs) (b := PySem.W.keepIn K (.ref (xC_BadVariants K))) c 175))
  (case xx_BadVersions => exact oexB_ok (exH (ex := hEx) (fs := hFs) (ds := hDs) (b := oexB K (xC_BadVersions K)) c 176))
  (case xs_BadVersions => exact He.eqO_ok (exH (ex := hEx) (fs := hFs) (ds := hDs) (b := He.eqO (PySem.W.findIn K (.ref (xC_BadVersions K)) "__setattr__") (some (some (.builtin "object.__setattr__")))) c 177))
  (case sb_BadVersions => exact of_decide_eq_true (exH (ex := hEx) (fs := hFs) (ds := hDs) (b := decide (PySem.W.subIn K (.ref (xC_BadVersions K)) (.type "BaseException") = some true)) c 178))
  (case ty_BadVersions => exact of_decide_eq_true (exH (ex := hEx) (fs := hFs) (ds := hDs) (b := decide (PySem.W.typeIn K (.ref (xC_BadVersions K)) = some (.type "type"))) c 179))
  (case kp_BadVersions => exact (exH (ex := hEx) (fs := hFs) (ds := hDs) (b := PySem.W.keepIn K (.ref (xC_BadVersions K))) c 180))
  (case xx_BadMoves => exact oexB_ok (exH (ex := hEx) (fs := hFs) (ds := hDs) (b := oexB K (xC_BadMoves K)) c 181))
  (case xs_BadMoves => exact He.eqO_ok (exH (ex := hEx) (fs := hFs) (ds := hDs) (b := He.eqO (PySem.W.findIn K (.ref (xC_BadMoves K)) "__setattr__") (some (some (.builtin "object.__setattr__")))) c 182))
  (case sb_BadMoves => exact of_decide_eq_true (exH (ex := hEx) (fs := hFs) (ds := hDs) (b := decide (PySem.W.subIn K (.ref (xC_BadMoves K)) (.type "BaseException") = some true)) c 183))
  (case ty_BadMoves => exact of_decide_eq_true (exH (ex := hEx) (fs := hFs) (ds := hDs) (b := decide (PySem.W.typeIn K (.ref (xC_BadMoves K)) = some (.type "type"))) c 184))
  (case kp_BadMoves => exact (exH (ex := hEx) (fs := hFs) (ds := hDs) (b := PySem.W.keepIn K (.ref (xC_BadMoves K))) c 185))
  (case xx_Breaks => exact oexB_ok (exH (ex := hEx) (fs := hFs) (ds := hDs) (b := oexB K (xC_Breaks K)) c 186))
  (case xs_Breaks => exact He.eqO_ok (exH (ex := hEx) (fs := hFs) (ds := hDs) (b := He.eqO (PySem.W.findIn K (.ref (xC_Breaks K)) "__setattr__") (some (some (.builtin "object.__setattr__")))) c 187))
  (case sb_Breaks => exact of_decide_eq_true (exH (ex := hEx) (fs := hFs) (ds := hDs) (b := decide (PySem.W.subIn K (.ref (xC_Breaks K)) (.type "BaseException") = some true)) c 188))
  (case ty_Breaks => exact of_decide_eq_true (exH (ex := hEx) (fs := hFs) (ds := hDs) (b := decide (PySem.W.typeIn K (.ref (xC_Breaks K)) = some (.type "type"))) c 189))
  (case kp_Breaks => exact (exH (ex := hEx) (fs := hFs) (ds := hDs) (b := PySem.W.keepIn K (.ref (xC_Breaks K))) c 190))
  (case xx_NoFunction => exact oexB_ok (exH (ex := hEx) (fs := hFs) (ds := hDs) (b := oexB K (xC_NoFunction K)) c 191))
  (case xs_NoFunction => exact He.eqO_ok (exH (ex := hEx) (fs := hFs) (ds := hDs) (b := He.eqO (PySem.W.findIn K (.ref (xC_NoFunction K)) "__setattr__") (some (some (.builtin "object.__setattr__")))) c 192))
  (case sb_NoFunction => exact of_decide_eq_true (exH (ex := hEx) (fs := hFs) (ds := hDs) (b := decide (PySem.W.subIn K (.ref (xC_NoFunction K)) (.type "BaseException") = some true)) c 193))
  (case ty_NoFunction => exact of_decide_eq_true (exH (ex := hEx) (fs := hFs) (ds := hDs) (b := decide (PySem.W.typeIn K (.ref (xC_NoFunction K)) = some (.type "type"))) c 194))
  (case kp_NoFunction => exact (exH (ex := hEx) (fs := hFs) (ds := hDs) (b := PySem.W.keepIn K (.ref (xC_NoFunction K))) c 195))
  (case xx_NoSite => exact oexB_ok (exH (ex := hEx) (fs := hFs) (ds := hDs) (b := oexB K (xC_NoSite K)) c 196))
  (case xs_NoSite => exact He.eqO_ok (exH (ex := hEx) (fs := hFs) (ds := hDs) (b := He.eqO (PySem.W.findIn K (.ref (xC_NoSite K)) "__setattr__") (some (some (.builtin "object.__setattr__")))) c 197))
  (case sb_NoSite => exact of_decide_eq_true (exH (ex := hEx) (fs := hFs) (ds := hDs) (b := decide (PySem.W.subIn K (.ref (xC_NoSite K)) (.type "BaseException") = some true)) c 198))
  (case ty_NoSite => exact of_decide_eq_true (exH (ex := hEx) (fs := hFs) (ds := hDs) (b := decide (PySem.W.typeIn K (.ref (xC_NoSite K)) = some (.type "type"))) c 199))
  (case kp_NoSite => exact (exH (ex := hEx) (fs := hFs) (ds := hDs) (b := PySem.W.keepIn K (.ref (xC_NoSite K))) c 200))
  (case xx_BadEntry => exact oexB_ok (exH (ex := hEx) (fs := hFs) (ds := hDs) (b := oexB K (xC_BadEntry K)) c 201))
  (case xs_BadEntry => exact He.eqO_ok (exH (ex := hEx) (fs := hFs) (ds := hDs) (b := He.eqO (PySem.W.findIn K (.ref (xC_BadEntry K)) "__setattr__") (some (some (.builtin "object.__setattr__")))) c 202))
  (case sb_BadEntry => exact of_decide_eq_true (exH (ex := hEx) (fs := hFs) (ds := hDs) (b := decide (PySem.W.subIn K (.ref (xC_BadEntry K)) (.type "BaseException") = some true)) c 203))
  (case ty_BadEntry => exact of_decide_eq_true (exH (ex := hEx) (fs := hFs) (ds := hDs) (b := decide (PySem.W.typeIn K (.ref (xC_BadEntry K)) = some (.type "type"))) c 204))
  (case kp_BadEntry => exact (exH (ex := hEx) (fs := hFs) (ds := hDs) (b := PySem.W.keepIn K (.ref (xC_BadEntry K))) c 205))
  (case xx_BadText => exact oexB_ok (exH (ex := hEx) (fs := hFs) (ds := hDs) (b := oexB K (xC_BadText K)) c 206))
  (case xs_BadText => exact He.eqO_ok (exH (ex := hEx) (fs := hFs) (ds := hDs) (b := He.eqO (PySem.W.findIn K (.ref (xC_BadText K)) "__setattr__") (some (some (.builtin "object.__setattr__")))) c 207))
  (case sb_BadText => exact of_decide_eq_true (exH (ex := hEx) (fs := hFs) (ds := hDs) (b := decide (PySem.W.subIn K (.ref (xC_BadText K)) (.type "BaseException") = some true)) c 208))
  (case ty_BadText => exact of_decide_eq_true (exH (ex := hEx) (fs := hFs) (ds := hDs) (b := decide (PySem.W.typeIn K (.ref (xC_BadText K)) = some (.type "type"))) c 209))
  (case kp_BadText => exact (exH (ex := hEx) (fs := hFs) (ds := hDs) (b := PySem.W.keepIn K (.ref (xC_BadText K))) c 210))
  (case bi => exact hdV_ok (exH (ex := hEx) (fs := hFs) (ds := hDs) (b := hdV (PySem.W.findCls K (.ref (xC_CallError K)) (.type "type") "__init__") (.builtin "ValueError.__init__")) c 211))
  (case z_ValueError => exact He.eqO_ok (exH (ex := hEx) (fs := hFs) (ds := hDs) (b := He.eqO (PySem.W.nsIn K mainGlobals "ValueError") (some none)) c 212))
  (case z_enumerate => exact He.eqO_ok (exH (ex := hEx) (fs := hFs) (ds := hDs) (b := He.eqO (PySem.W.nsIn K mainGlobals "enumerate") (some none)) c 213))
  (case z_isinstance => exact He.eqO_ok (exH (ex := hEx) (fs := hFs) (ds := hDs) (b := He.eqO (PySem.W.nsIn K mainGlobals "isinstance") (some none)) c 214))
  (case z_len => exact He.eqO_ok (exH (ex := hEx) (fs := hFs) (ds := hDs) (b := He.eqO (PySem.W.nsIn K mainGlobals "len") (some none)) c 215))
  (case z_max => exact He.eqO_ok (exH (ex := hEx) (fs := hFs) (ds := hDs) (b := He.eqO (PySem.W.nsIn K mainGlobals "max") (some none)) c 216))
  (case z_range => exact He.eqO_ok (exH (ex := hEx) (fs := hFs) (ds := hDs) (b := He.eqO (PySem.W.nsIn K mainGlobals "range") (some none)) c 217))
  (case z_repr => exact He.eqO_ok (exH (ex := hEx) (fs := hFs) (ds := hDs) (b := He.eqO (PySem.W.nsIn K mainGlobals "repr") (some none)) c 218))
end K06
open PySem PySem.W PyProof.Rows in
set_option maxRecDepth 100000 in
set_option maxHeartbeats 0 in
theorem PySem.Challenge.cw_callstairs_k06_errors_apart_holds : PySem.Challenge.rw_callstairs_k06_errors_apart.Holds := by
  w_on; o_law
  refine HandSHeadRun.head_any (r := OpenLaw.row PySem.Challenge.rw_callstairs_k06_errors_apart) (q := view (OpenLaw.row PySem.Challenge.rw_callstairs_k06_errors_apart).prog [31]) (H := K06.hHk) (ob := K06.hOb) (M := 9000) (loose := K06.hNm) (d := HandSHeadRun.topDef (OpenLaw.row PySem.Challenge.rw_callstairs_k06_errors_apart).prog 31) (kwd := []) K06.hOb_eq
    (by kernel_rfl) (fun s => by kernel_rfl) K06.hRun (by kernel_rfl) (by kernel_rfl) (by kernel_rfl) (by rfl) (by first | assumption | decide +kernel) (by decide +kernel) ⟨rfl, rfl, rfl, rfl, rfl, by decide +kernel⟩ ?hw ?hc
  case hw => w_witness2
  case hc =>
    refine Mi.walk_ofH (l := PySem.Challenge.rw_callstairs_k06_errors_apart) (k := 4) (x := "_law_script") rfl (by kernel_rfl) ⟨rfl, by decide, by decide⟩ ?F
    intro w mg fa h Y G hmg0
    obtain ⟨K, KX, c⟩ := Y
    have hmg : mg ("law" : PySem.Str) = some (.ref fa) := by
      have e : (HandSHeadRun.topDef (OpenLaw.row PySem.Challenge.rw_callstairs_k06_errors_apart).prog 31).name = ("law" : PySem.Str) := by kernel_rfl
      rw [← e]
      exact hmg0
    obtain ⟨fd, cs, ts, h1, h2, h3, h4⟩ := K06.hFacts (l := PySem.Challenge.rw_callstairs_k06_errors_apart) (qq := view (OpenLaw.row PySem.Challenge.rw_callstairs_k06_errors_apart).prog [31]) (w := w) KX G hmg c
    exact ⟨K, fd, cs, ts, KX, h1, h2, h3, h4⟩
